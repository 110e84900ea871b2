import PyProof.Rows.All
import Wide.All
import OpenK.AllK
import Wide.FinOn
import PySem.Challenge.RW_nz0563_01
open PySem PySem.W PySem.Calls PyProof.Rows
set_option Elab.async false
set_option maxRecDepth 100000
set_option maxHeartbeats 8000000
set_option linter.all false
namespace Mine
noncomputable abbrev prg : Program := PySem.Challenge.rw_nz0563_01.row.prog
noncomputable def heapOf (p28 : Arguments) (b28 : List Stmt) (s28 : Scope) (p41 : Arguments) (b41 : List Stmt) (s41 : Scope) (p48 : Arguments) (b48 : List Stmt) (s48 : Scope) (p55 : Arguments) (b55 : List Stmt) (s55 : Scope) (p62 : Arguments) (b62 : List Stmt) (s62 : Scope) (p69 : Arguments) (b69 : List Stmt) (s69 : Scope) (p83 : Arguments) (b83 : List Stmt) (s83 : Scope) (p90 : Arguments) (b90 : List Stmt) (s90 : Scope) (p97 : Arguments) (b97 : List Stmt) (s97 : Scope) (p104 : Arguments) (b104 : List Stmt) (s104 : Scope) (p118 : Arguments) (b118 : List Stmt) (s118 : Scope) (p125 : Arguments) (b125 : List Stmt) (s125 : Scope) (p132 : Arguments) (b132 : List Stmt) (s132 : Scope) (p139 : Arguments) (b139 : List Stmt) (s139 : Scope) (p146 : Arguments) (b146 : List Stmt) (s146 : Scope) (p153 : Arguments) (b153 : List Stmt) (s153 : Scope) (p160 : Arguments) (b160 : List Stmt) (s160 : Scope) (p167 : Arguments) (b167 : List Stmt) (s167 : Scope) (p174 : Arguments) (b174 : List Stmt) (s174 : Scope) (p181 : Arguments) (b181 : List Stmt) (s181 : Scope) (p188 : Arguments) (b188 : List Stmt) (s188 : Scope) (p195 : Arguments) (b195 : List Stmt) (s195 : Scope) (p202 : Arguments) (b202 : List Stmt) (s202 : Scope) (p209 : Arguments) (b209 : List Stmt) (s209 : Scope) (p216 : Arguments) (b216 : List Stmt) (s216 : Scope) (p221 : Arguments) (b221 : List Stmt) (s221 : Scope) (p226 : Arguments) (b226 : List Stmt) (s226 : Scope) : Params → Frag := fun P =>
(@List.cons (Prod Nat PySem.Obj) (@Prod.mk Nat PySem.Obj (nat_lit 2) (@PySem.Obj.mk @PySem.Value.none (@Option.none @Nat) (@PySem.Data.dict (@List.toArray @PySem.DictEntry (@List.cons @PySem.DictEntry (@PySem.DictEntry.mk (@PySem.PyData.keyHash P (PySem.Str.ofString "type.__subclasses__.Exception.0")) (@PySem.Value.str (PySem.Str.ofString "type.__subclasses__.Exception.0") 214) (@PySem.Value.int (@OfNat.ofNat @Int (nat_lit 31) (@instOfNat (nat_lit 31))) 0)) (@List.cons @PySem.DictEntry (@PySem.DictEntry.mk (@PySem.PyData.keyHash P (PySem.Str.ofString "type.__subclasses__.Exception.n")) (@PySem.Value.str (PySem.Str.ofString "type.__subclasses__.Exception.n") 215) (@PySem.Value.int (@OfNat.ofNat @Int (nat_lit 1) (@instOfNat (nat_lit 1))) 0)) []))) 2) (@List.toArray (@Option @PySem.Value) [])))
  (@List.cons (Prod Nat PySem.Obj) (@Prod.mk Nat PySem.Obj (nat_lit 3) (@PySem.Obj.mk (@PySem.Value.type "dict") (@Option.none @Nat) (@PySem.Data.dict (@List.toArray @PySem.DictEntry (@List.cons @PySem.DictEntry (@PySem.DictEntry.mk (@PySem.PyData.keyHash P (PySem.Str.ofString "__name__")) (@PySem.Value.str (PySem.Str.ofString "__name__") 165) (@PySem.Value.str (PySem.Str.ofString "law_nz0563_01") 389)) (@List.cons @PySem.DictEntry (@PySem.DictEntry.mk (@PySem.PyData.keyHash P (PySem.Str.ofString "__doc__")) (@PySem.Value.str (PySem.Str.ofString "__doc__") 166) @PySem.Value.none) (@List.cons @PySem.DictEntry (@PySem.DictEntry.mk (@PySem.PyData.keyHash P (PySem.Str.ofString "__package__")) (@PySem.Value.str (PySem.Str.ofString "__package__") 167) @PySem.Value.none) (@List.cons @PySem.DictEntry (@PySem.DictEntry.mk (@PySem.PyData.keyHash P (PySem.Str.ofString "__loader__")) (@PySem.Value.str (PySem.Str.ofString "__loader__") 168) (@PySem.Value.builtin "__main__.__loader__#opaque")) (@List.cons @PySem.DictEntry (@PySem.DictEntry.mk (@PySem.PyData.keyHash P (PySem.Str.ofString "__spec__")) (@PySem.Value.str (PySem.Str.ofString "__spec__") 169) @PySem.Value.none) (@List.cons @PySem.DictEntry (@PySem.DictEntry.mk (@PySem.PyData.keyHash P (PySem.Str.ofString "__annotations__")) (@PySem.Value.str (PySem.Str.ofString "__annotations__") 170) (@PySem.Value.ref 6)) (@List.cons @PySem.DictEntry (@PySem.DictEntry.mk (@PySem.PyData.keyHash P (PySem.Str.ofString "__builtins__")) (@PySem.Value.str (PySem.Str.ofString "__builtins__") 171) (@PySem.Value.ref 4)) (@List.cons @PySem.DictEntry (@PySem.DictEntry.mk (@PySem.PyData.keyHash P (PySem.Str.ofString "__file__")) (@PySem.Value.str (PySem.Str.ofString "__file__") 173) (@PySem.Value.str (PySem.Str.ofString "/claim/cut.py") 172)) (@List.cons @PySem.DictEntry (@PySem.DictEntry.mk (@PySem.PyData.keyHash P (PySem.Str.ofString "__cached__")) (@PySem.Value.str (PySem.Str.ofString "__cached__") 174) @PySem.Value.none) (@List.cons @PySem.DictEntry (@PySem.DictEntry.mk (@PySem.PyData.keyHash P (PySem.Str.ofString "BasicError")) (@PySem.Value.str (PySem.Str.ofString "BasicError") 217) (@PySem.Value.ref 31)) (@List.cons @PySem.DictEntry (@PySem.DictEntry.mk (@PySem.PyData.keyHash P (PySem.Str.ofString "LEAST")) (@PySem.Value.str (PySem.Str.ofString "LEAST") 222) (@PySem.Value.int (@Neg.neg @Int @Int.instNegInt (@OfNat.ofNat @Int (nat_lit 32768) (@instOfNat (nat_lit 32768)))) 221)) (@List.cons @PySem.DictEntry (@PySem.DictEntry.mk (@PySem.PyData.keyHash P (PySem.Str.ofString "MOST")) (@PySem.Value.str (PySem.Str.ofString "MOST") 224) (@PySem.Value.int (@OfNat.ofNat @Int (nat_lit 32767) (@instOfNat (nat_lit 32767))) 223)) (@List.cons @PySem.DictEntry (@PySem.DictEntry.mk (@PySem.PyData.keyHash P (PySem.Str.ofString "MOST_SIGNS")) (@PySem.Value.str (PySem.Str.ofString "MOST_SIGNS") 226) (@PySem.Value.int (@OfNat.ofNat @Int (nat_lit 255) (@instOfNat (nat_lit 255))) 225)) (@List.cons @PySem.DictEntry (@PySem.DictEntry.mk (@PySem.PyData.keyHash P (PySem.Str.ofString "is_text_name")) (@PySem.Value.str (PySem.Str.ofString "is_text_name") 233) (@PySem.Value.ref 41)) (@List.cons @PySem.DictEntry (@PySem.DictEntry.mk (@PySem.PyData.keyHash P (PySem.Str.ofString "fitted")) (@PySem.Value.str (PySem.Str.ofString "fitted") 240) (@PySem.Value.ref 48)) (@List.cons @PySem.DictEntry (@PySem.DictEntry.mk (@PySem.PyData.keyHash P (PySem.Str.ofString "fitted_text")) (@PySem.Value.str (PySem.Str.ofString "fitted_text") 247) (@PySem.Value.ref 55)) (@List.cons @PySem.DictEntry (@PySem.DictEntry.mk (@PySem.PyData.keyHash P (PySem.Str.ofString "need_number")) (@PySem.Value.str (PySem.Str.ofString "need_number") 254) (@PySem.Value.ref 62)) (@List.cons @PySem.DictEntry (@PySem.DictEntry.mk (@PySem.PyData.keyHash P (PySem.Str.ofString "need_text")) (@PySem.Value.str (PySem.Str.ofString "need_text") 261) (@PySem.Value.ref 69)) (@List.cons @PySem.DictEntry (@PySem.DictEntry.mk (@PySem.PyData.keyHash P (PySem.Str.ofString "USUAL_BOUND")) (@PySem.Value.str (PySem.Str.ofString "USUAL_BOUND") 265) (@PySem.Value.int (@OfNat.ofNat @Int (nat_lit 10) (@instOfNat (nat_lit 10))) 264)) (@List.cons @PySem.DictEntry (@PySem.DictEntry.mk (@PySem.PyData.keyHash P (PySem.Str.ofString "MOST_INDEXES")) (@PySem.Value.str (PySem.Str.ofString "MOST_INDEXES") 267) (@PySem.Value.int (@OfNat.ofNat @Int (nat_lit 3) (@instOfNat (nat_lit 3))) 266)) (@List.cons @PySem.DictEntry (@PySem.DictEntry.mk (@PySem.PyData.keyHash P (PySem.Str.ofString "MOST_PLACES")) (@PySem.Value.str (PySem.Str.ofString "MOST_PLACES") 269) (@PySem.Value.int (@OfNat.ofNat @Int (nat_lit 4096) (@instOfNat (nat_lit 4096))) 268)) (@List.cons @PySem.DictEntry (@PySem.DictEntry.mk (@PySem.PyData.keyHash P (PySem.Str.ofString "Store")) (@PySem.Value.str (PySem.Str.ofString "Store") 328) (@PySem.Value.ref 107)) (@List.cons @PySem.DictEntry (@PySem.DictEntry.mk (@PySem.PyData.keyHash P (PySem.Str.ofString "nothing_of")) (@PySem.Value.str (PySem.Str.ofString "nothing_of") 335) (@PySem.Value.ref 118)) (@List.cons @PySem.DictEntry (@PySem.DictEntry.mk (@PySem.PyData.keyHash P (PySem.Str.ofString "made_array")) (@PySem.Value.str (PySem.Str.ofString "made_array") 346) (@PySem.Value.ref 125)) (@List.cons @PySem.DictEntry (@PySem.DictEntry.mk (@PySem.PyData.keyHash P (PySem.Str.ofString "dim_array")) (@PySem.Value.str (PySem.Str.ofString "dim_array") 355) (@PySem.Value.ref 132)) (@List.cons @PySem.DictEntry (@PySem.DictEntry.mk (@PySem.PyData.keyHash P (PySem.Str.ofString "array_place")) (@PySem.Value.str (PySem.Str.ofString "array_place") 368) (@PySem.Value.ref 139)) (@List.cons @PySem.DictEntry (@PySem.DictEntry.mk (@PySem.PyData.keyHash P (PySem.Str.ofString "fit_value")) (@PySem.Value.str (PySem.Str.ofString "fit_value") 376) (@PySem.Value.ref 146)) (@List.cons @PySem.DictEntry (@PySem.DictEntry.mk (@PySem.PyData.keyHash P (PySem.Str.ofString "put_value")) (@PySem.Value.str (PySem.Str.ofString "put_value") 388) (@PySem.Value.ref 153)) (@List.cons @PySem.DictEntry (@PySem.DictEntry.mk (@PySem.PyData.keyHash P (PySem.Str.ofString "_law_names")) (@PySem.Value.str (PySem.Str.ofString "_law_names") 396) (@PySem.Value.ref 160)) (@List.cons @PySem.DictEntry (@PySem.DictEntry.mk (@PySem.PyData.keyHash P (PySem.Str.ofString "_law_heard")) (@PySem.Value.str (PySem.Str.ofString "_law_heard") 404) (@PySem.Value.ref 167)) (@List.cons @PySem.DictEntry (@PySem.DictEntry.mk (@PySem.PyData.keyHash P (PySem.Str.ofString "_law_value")) (@PySem.Value.str (PySem.Str.ofString "_law_value") 412) (@PySem.Value.ref 174)) (@List.cons @PySem.DictEntry (@PySem.DictEntry.mk (@PySem.PyData.keyHash P (PySem.Str.ofString "_law_fits")) (@PySem.Value.str (PySem.Str.ofString "_law_fits") 421) (@PySem.Value.ref 181)) (@List.cons @PySem.DictEntry (@PySem.DictEntry.mk (@PySem.PyData.keyHash P (PySem.Str.ofString "_law_spots")) (@PySem.Value.str (PySem.Str.ofString "_law_spots") 429) (@PySem.Value.ref 188)) (@List.cons @PySem.DictEntry (@PySem.DictEntry.mk (@PySem.PyData.keyHash P (PySem.Str.ofString "_law_bounds")) (@PySem.Value.str (PySem.Str.ofString "_law_bounds") 436) (@PySem.Value.ref 195)) (@List.cons @PySem.DictEntry (@PySem.DictEntry.mk (@PySem.PyData.keyHash P (PySem.Str.ofString "_law_made")) (@PySem.Value.str (PySem.Str.ofString "_law_made") 447) (@PySem.Value.ref 202)) (@List.cons @PySem.DictEntry (@PySem.DictEntry.mk (@PySem.PyData.keyHash P (PySem.Str.ofString "_law_asked")) (@PySem.Value.str (PySem.Str.ofString "_law_asked") 459) (@PySem.Value.ref 209)) (@List.cons @PySem.DictEntry (@PySem.DictEntry.mk (@PySem.PyData.keyHash P (PySem.Str.ofString "_law_deed")) (@PySem.Value.str (PySem.Str.ofString "_law_deed") 479) (@PySem.Value.ref 216)) (@List.cons @PySem.DictEntry (@PySem.DictEntry.mk (@PySem.PyData.keyHash P (PySem.Str.ofString "_law_all_right")) (@PySem.Value.str (PySem.Str.ofString "_law_all_right") 485) (@PySem.Value.ref 221)) (@List.cons @PySem.DictEntry (@PySem.DictEntry.mk (@PySem.PyData.keyHash P (PySem.Str.ofString "law")) (@PySem.Value.str (PySem.Str.ofString "law") 491) (@PySem.Value.ref 226)) [])))))))))))))))))))))))))))))))))))))))) 39) (@List.toArray (@Option @PySem.Value) [])))
  (@List.cons (Prod Nat PySem.Obj) (@Prod.mk Nat PySem.Obj (nat_lit 15) (@PySem.Obj.mk (@PySem.Value.type "tuple") (@Option.none @Nat) (@PySem.Data.seq (@List.toArray @PySem.Value (@List.cons @PySem.Value (@PySem.Value.type "Exception") [])) 0) (@List.toArray (@Option @PySem.Value) [])))
  (@List.cons (Prod Nat PySem.Obj) (@Prod.mk Nat PySem.Obj (nat_lit 22) (@PySem.Obj.mk (@PySem.Value.type "tuple") (@Option.none @Nat) (@PySem.Data.seq (@List.toArray @PySem.Value []) 0) (@List.toArray (@Option @PySem.Value) [])))
  (@List.cons (Prod Nat PySem.Obj) (@Prod.mk Nat PySem.Obj (nat_lit 24) (@PySem.Obj.mk (@PySem.Value.type "tuple") (@Option.none @Nat) (@PySem.Data.seq (@List.toArray @PySem.Value (@List.cons @PySem.Value (@PySem.Value.str (PySem.Str.ofString "self") 204) (@List.cons @PySem.Value (@PySem.Value.str (PySem.Str.ofString "kind") 205) []))) 0) (@List.toArray (@Option @PySem.Value) [])))
  (@List.cons (Prod Nat PySem.Obj) (@Prod.mk Nat PySem.Obj (nat_lit 25) (@PySem.Obj.mk (@PySem.Value.type "tuple") (@Option.none @Nat) (@PySem.Data.seq (@List.toArray @PySem.Value []) 0) (@List.toArray (@Option @PySem.Value) [])))
  (@List.cons (Prod Nat PySem.Obj) (@Prod.mk Nat PySem.Obj (nat_lit 27) (@PySem.Obj.mk (@PySem.Value.type "code") (@Option.none @Nat) (@PySem.Data.fields (@List.toArray @PySem.Value (@List.cons @PySem.Value (@PySem.Value.str (PySem.Str.ofString "__init__") 201) (@List.cons @PySem.Value (@PySem.Value.str (PySem.Str.ofString "BasicError.__init__") 202) (@List.cons @PySem.Value (@PySem.Value.str (PySem.Str.ofString "/claim/cut.py") 203) (@List.cons @PySem.Value (@PySem.Value.int (@OfNat.ofNat @Int (nat_lit 4) (@instOfNat (nat_lit 4))) 0) (@List.cons @PySem.Value (@PySem.Value.int (@OfNat.ofNat @Int (nat_lit 2) (@instOfNat (nat_lit 2))) 0) (@List.cons @PySem.Value (@PySem.Value.int (@OfNat.ofNat @Int (nat_lit 0) (@instOfNat (nat_lit 0))) 0) (@List.cons @PySem.Value (@PySem.Value.int (@OfNat.ofNat @Int (nat_lit 0) (@instOfNat (nat_lit 0))) 0) (@List.cons @PySem.Value (@PySem.Value.int (@OfNat.ofNat @Int (nat_lit 3) (@instOfNat (nat_lit 3))) 0) (@List.cons @PySem.Value (@PySem.Value.ref 22) (@List.cons @PySem.Value (@PySem.Value.bool @Bool.true) (@List.cons @PySem.Value (@PySem.Value.int (@OfNat.ofNat @Int (nat_lit 181) (@instOfNat (nat_lit 181))) 0) (@List.cons @PySem.Value (@PySem.Value.ref 23) (@List.cons @PySem.Value @PySem.Value.none (@List.cons @PySem.Value (@PySem.Value.ref 24) (@List.cons @PySem.Value (@PySem.Value.ref 25) (@List.cons @PySem.Value (@PySem.Value.ref 26) (@List.cons @PySem.Value (@PySem.Value.int (@OfNat.ofNat @Int (nat_lit 206) (@instOfNat (nat_lit 206))) 0) (@List.cons @PySem.Value (@PySem.Value.int (@OfNat.ofNat @Int (nat_lit 4) (@instOfNat (nat_lit 4))) 0) (@List.cons @PySem.Value (@PySem.Value.str (PySem.Str.ofString "/claim/cut.py") 207) []))))))))))))))))))))) (@List.toArray (@Option @PySem.Value) [])))
  (@List.cons (Prod Nat PySem.Obj) (@Prod.mk Nat PySem.Obj (nat_lit 28) (@PySem.Obj.mk (@PySem.Value.type "function") (@Option.none @Nat) (@PySem.Data.func (@PySem.FuncData.mk (PySem.Str.ofString "__init__") (PySem.Str.ofString "BasicError.__init__") p28 (PySem.FuncBody.stmts b28) s28 3 [] @PySem.Value.none @PySem.Value.none @PySem.Value.none (@PySem.Value.str (PySem.Str.ofString "z80.btokens") 187) (@Option.none @Nat) (@PySem.Value.ref 27) @PySem.Value.none 0)) (@List.toArray (@Option @PySem.Value) [])))
  (@List.cons (Prod Nat PySem.Obj) (@Prod.mk Nat PySem.Obj (nat_lit 29) (@PySem.Obj.mk (@PySem.Value.type "tuple") (@Option.none @Nat) (@PySem.Data.seq (@List.toArray @PySem.Value (@List.cons @PySem.Value (@PySem.Value.str (PySem.Str.ofString "kind") 209) [])) 0) (@List.toArray (@Option @PySem.Value) [])))
  (@List.cons (Prod Nat PySem.Obj) (@Prod.mk Nat PySem.Obj (nat_lit 30) (@PySem.Obj.mk (@PySem.Value.type "dict") (@Option.none @Nat) (@PySem.Data.dict (@List.toArray @PySem.DictEntry (@List.cons @PySem.DictEntry (@PySem.DictEntry.mk (@PySem.PyData.keyHash P (PySem.Str.ofString "__module__")) (@PySem.Value.str (PySem.Str.ofString "__module__") 196) (@PySem.Value.str (PySem.Str.ofString "z80.btokens") 187)) (@List.cons @PySem.DictEntry (@PySem.DictEntry.mk (@PySem.PyData.keyHash P (PySem.Str.ofString "__firstlineno__")) (@PySem.Value.str (PySem.Str.ofString "__firstlineno__") 200) (@PySem.Value.int (@OfNat.ofNat @Int (nat_lit 2) (@instOfNat (nat_lit 2))) 199)) (@List.cons @PySem.DictEntry (@PySem.DictEntry.mk (@PySem.PyData.keyHash P (PySem.Str.ofString "__init__")) (@PySem.Value.str (PySem.Str.ofString "__init__") 208) (@PySem.Value.ref 28)) (@List.cons @PySem.DictEntry (@PySem.DictEntry.mk (@PySem.PyData.keyHash P (PySem.Str.ofString "__static_attributes__")) (@PySem.Value.str (PySem.Str.ofString "__static_attributes__") 210) (@PySem.Value.ref 29)) (@List.cons @PySem.DictEntry (@PySem.DictEntry.mk (@PySem.PyData.keyHash P (PySem.Str.ofString "__weakref__")) (@PySem.Value.str (PySem.Str.ofString "__weakref__") 212) (@PySem.Value.ref 32)) (@List.cons @PySem.DictEntry (@PySem.DictEntry.mk (@PySem.PyData.keyHash P (PySem.Str.ofString "__doc__")) (@PySem.Value.str (PySem.Str.ofString "__doc__") 213) @PySem.Value.none) []))))))) 3) (@List.toArray (@Option @PySem.Value) [])))
  (@List.cons (Prod Nat PySem.Obj) (@Prod.mk Nat PySem.Obj (nat_lit 31) (@PySem.Obj.mk (@PySem.Value.type "type") (@Option.none @Nat) (@PySem.Data.cls (@PySem.ClassData.mk (PySem.Str.ofString "BasicError") (@List.cons @PySem.Value (@PySem.Value.type "Exception") []) (@List.cons @PySem.Value (@PySem.Value.ref 31) (@List.cons @PySem.Value (@PySem.Value.type "Exception") (@List.cons @PySem.Value (@PySem.Value.type "BaseException") (@List.cons @PySem.Value (@PySem.Value.type "object") [])))) 30 (PySem.Str.ofString "BasicError") @Bool.true [] [] @Bool.false (@Option.none @Bool) @Bool.false)) (@List.toArray (@Option @PySem.Value) (@List.cons (@Option @PySem.Value) (@Option.some @PySem.Value (@PySem.Value.ref 15)) (@List.cons (@Option @PySem.Value) (@Option.none @PySem.Value) (@List.cons (@Option @PySem.Value) (@Option.some @PySem.Value (@PySem.Value.str (PySem.Str.ofString "BasicError") 189)) (@List.cons (@Option @PySem.Value) (@Option.some @PySem.Value (@PySem.Value.str (PySem.Str.ofString "BasicError") 197)) (@List.cons (@Option @PySem.Value) (@Option.some @PySem.Value (@PySem.Value.builtin "Exception.__new__")) (@List.cons (@Option @PySem.Value) (@Option.some @PySem.Value (@PySem.Value.bool @Bool.true)) [])))))))))
  (@List.cons (Prod Nat PySem.Obj) (@Prod.mk Nat PySem.Obj (nat_lit 32) (@PySem.Obj.mk (@PySem.Value.type "getset_descriptor") (@Option.none @Nat) (@PySem.Data.fields (@List.toArray @PySem.Value (@List.cons @PySem.Value (@PySem.Value.str (PySem.Str.ofString "__weakref__") 211) (@List.cons @PySem.Value (@PySem.Value.ref 31) (@List.cons @PySem.Value (@PySem.Value.builtin "ExceptionGroup.__weakref__") (@List.cons @PySem.Value @PySem.Value.none [])))))) (@List.toArray (@Option @PySem.Value) [])))
  (@List.cons (Prod Nat PySem.Obj) (@Prod.mk Nat PySem.Obj (nat_lit 35) (@PySem.Obj.mk (@PySem.Value.type "tuple") (@Option.none @Nat) (@PySem.Data.seq (@List.toArray @PySem.Value []) 0) (@List.toArray (@Option @PySem.Value) [])))
  (@List.cons (Prod Nat PySem.Obj) (@Prod.mk Nat PySem.Obj (nat_lit 37) (@PySem.Obj.mk (@PySem.Value.type "tuple") (@Option.none @Nat) (@PySem.Data.seq (@List.toArray @PySem.Value (@List.cons @PySem.Value (@PySem.Value.str (PySem.Str.ofString "name") 230) [])) 0) (@List.toArray (@Option @PySem.Value) [])))
  (@List.cons (Prod Nat PySem.Obj) (@Prod.mk Nat PySem.Obj (nat_lit 38) (@PySem.Obj.mk (@PySem.Value.type "tuple") (@Option.none @Nat) (@PySem.Data.seq (@List.toArray @PySem.Value []) 0) (@List.toArray (@Option @PySem.Value) [])))
  (@List.cons (Prod Nat PySem.Obj) (@Prod.mk Nat PySem.Obj (nat_lit 40) (@PySem.Obj.mk (@PySem.Value.type "code") (@Option.none @Nat) (@PySem.Data.fields (@List.toArray @PySem.Value (@List.cons @PySem.Value (@PySem.Value.str (PySem.Str.ofString "is_text_name") 227) (@List.cons @PySem.Value (@PySem.Value.str (PySem.Str.ofString "is_text_name") 228) (@List.cons @PySem.Value (@PySem.Value.str (PySem.Str.ofString "/claim/cut.py") 229) (@List.cons @PySem.Value (@PySem.Value.int (@OfNat.ofNat @Int (nat_lit 10) (@instOfNat (nat_lit 10))) 0) (@List.cons @PySem.Value (@PySem.Value.int (@OfNat.ofNat @Int (nat_lit 1) (@instOfNat (nat_lit 1))) 0) (@List.cons @PySem.Value (@PySem.Value.int (@OfNat.ofNat @Int (nat_lit 0) (@instOfNat (nat_lit 0))) 0) (@List.cons @PySem.Value (@PySem.Value.int (@OfNat.ofNat @Int (nat_lit 0) (@instOfNat (nat_lit 0))) 0) (@List.cons @PySem.Value (@PySem.Value.int (@OfNat.ofNat @Int (nat_lit 3) (@instOfNat (nat_lit 3))) 0) (@List.cons @PySem.Value (@PySem.Value.ref 35) (@List.cons @PySem.Value (@PySem.Value.bool @Bool.true) (@List.cons @PySem.Value (@PySem.Value.int (@OfNat.ofNat @Int (nat_lit 181) (@instOfNat (nat_lit 181))) 0) (@List.cons @PySem.Value (@PySem.Value.ref 36) (@List.cons @PySem.Value @PySem.Value.none (@List.cons @PySem.Value (@PySem.Value.ref 37) (@List.cons @PySem.Value (@PySem.Value.ref 38) (@List.cons @PySem.Value (@PySem.Value.ref 39) (@List.cons @PySem.Value (@PySem.Value.int (@OfNat.ofNat @Int (nat_lit 231) (@instOfNat (nat_lit 231))) 0) (@List.cons @PySem.Value (@PySem.Value.int (@OfNat.ofNat @Int (nat_lit 10) (@instOfNat (nat_lit 10))) 0) (@List.cons @PySem.Value (@PySem.Value.str (PySem.Str.ofString "/claim/cut.py") 232) []))))))))))))))))))))) (@List.toArray (@Option @PySem.Value) [])))
  (@List.cons (Prod Nat PySem.Obj) (@Prod.mk Nat PySem.Obj (nat_lit 41) (@PySem.Obj.mk (@PySem.Value.type "function") (@Option.none @Nat) (@PySem.Data.func (@PySem.FuncData.mk (PySem.Str.ofString "is_text_name") (PySem.Str.ofString "is_text_name") p41 (PySem.FuncBody.stmts b41) s41 3 [] @PySem.Value.none @PySem.Value.none @PySem.Value.none (@PySem.Value.str (PySem.Str.ofString "z80.bexpr") 218) (@Option.none @Nat) (@PySem.Value.ref 40) @PySem.Value.none 0)) (@List.toArray (@Option @PySem.Value) [])))
  (@List.cons (Prod Nat PySem.Obj) (@Prod.mk Nat PySem.Obj (nat_lit 42) (@PySem.Obj.mk (@PySem.Value.type "tuple") (@Option.none @Nat) (@PySem.Data.seq (@List.toArray @PySem.Value []) 0) (@List.toArray (@Option @PySem.Value) [])))
  (@List.cons (Prod Nat PySem.Obj) (@Prod.mk Nat PySem.Obj (nat_lit 44) (@PySem.Obj.mk (@PySem.Value.type "tuple") (@Option.none @Nat) (@PySem.Data.seq (@List.toArray @PySem.Value (@List.cons @PySem.Value (@PySem.Value.str (PySem.Str.ofString "number") 237) [])) 0) (@List.toArray (@Option @PySem.Value) [])))
  (@List.cons (Prod Nat PySem.Obj) (@Prod.mk Nat PySem.Obj (nat_lit 45) (@PySem.Obj.mk (@PySem.Value.type "tuple") (@Option.none @Nat) (@PySem.Data.seq (@List.toArray @PySem.Value []) 0) (@List.toArray (@Option @PySem.Value) [])))
  (@List.cons (Prod Nat PySem.Obj) (@Prod.mk Nat PySem.Obj (nat_lit 47) (@PySem.Obj.mk (@PySem.Value.type "code") (@Option.none @Nat) (@PySem.Data.fields (@List.toArray @PySem.Value (@List.cons @PySem.Value (@PySem.Value.str (PySem.Str.ofString "fitted") 234) (@List.cons @PySem.Value (@PySem.Value.str (PySem.Str.ofString "fitted") 235) (@List.cons @PySem.Value (@PySem.Value.str (PySem.Str.ofString "/claim/cut.py") 236) (@List.cons @PySem.Value (@PySem.Value.int (@OfNat.ofNat @Int (nat_lit 12) (@instOfNat (nat_lit 12))) 0) (@List.cons @PySem.Value (@PySem.Value.int (@OfNat.ofNat @Int (nat_lit 1) (@instOfNat (nat_lit 1))) 0) (@List.cons @PySem.Value (@PySem.Value.int (@OfNat.ofNat @Int (nat_lit 0) (@instOfNat (nat_lit 0))) 0) (@List.cons @PySem.Value (@PySem.Value.int (@OfNat.ofNat @Int (nat_lit 0) (@instOfNat (nat_lit 0))) 0) (@List.cons @PySem.Value (@PySem.Value.int (@OfNat.ofNat @Int (nat_lit 3) (@instOfNat (nat_lit 3))) 0) (@List.cons @PySem.Value (@PySem.Value.ref 42) (@List.cons @PySem.Value (@PySem.Value.bool @Bool.true) (@List.cons @PySem.Value (@PySem.Value.int (@OfNat.ofNat @Int (nat_lit 181) (@instOfNat (nat_lit 181))) 0) (@List.cons @PySem.Value (@PySem.Value.ref 43) (@List.cons @PySem.Value @PySem.Value.none (@List.cons @PySem.Value (@PySem.Value.ref 44) (@List.cons @PySem.Value (@PySem.Value.ref 45) (@List.cons @PySem.Value (@PySem.Value.ref 46) (@List.cons @PySem.Value (@PySem.Value.int (@OfNat.ofNat @Int (nat_lit 238) (@instOfNat (nat_lit 238))) 0) (@List.cons @PySem.Value (@PySem.Value.int (@OfNat.ofNat @Int (nat_lit 12) (@instOfNat (nat_lit 12))) 0) (@List.cons @PySem.Value (@PySem.Value.str (PySem.Str.ofString "/claim/cut.py") 239) []))))))))))))))))))))) (@List.toArray (@Option @PySem.Value) [])))
  (@List.cons (Prod Nat PySem.Obj) (@Prod.mk Nat PySem.Obj (nat_lit 48) (@PySem.Obj.mk (@PySem.Value.type "function") (@Option.none @Nat) (@PySem.Data.func (@PySem.FuncData.mk (PySem.Str.ofString "fitted") (PySem.Str.ofString "fitted") p48 (PySem.FuncBody.stmts b48) s48 3 [] @PySem.Value.none @PySem.Value.none @PySem.Value.none (@PySem.Value.str (PySem.Str.ofString "z80.bexpr") 218) (@Option.none @Nat) (@PySem.Value.ref 47) @PySem.Value.none 0)) (@List.toArray (@Option @PySem.Value) [])))
  (@List.cons (Prod Nat PySem.Obj) (@Prod.mk Nat PySem.Obj (nat_lit 49) (@PySem.Obj.mk (@PySem.Value.type "tuple") (@Option.none @Nat) (@PySem.Data.seq (@List.toArray @PySem.Value []) 0) (@List.toArray (@Option @PySem.Value) [])))
  (@List.cons (Prod Nat PySem.Obj) (@Prod.mk Nat PySem.Obj (nat_lit 51) (@PySem.Obj.mk (@PySem.Value.type "tuple") (@Option.none @Nat) (@PySem.Data.seq (@List.toArray @PySem.Value (@List.cons @PySem.Value (@PySem.Value.str (PySem.Str.ofString "text") 244) [])) 0) (@List.toArray (@Option @PySem.Value) [])))
  (@List.cons (Prod Nat PySem.Obj) (@Prod.mk Nat PySem.Obj (nat_lit 52) (@PySem.Obj.mk (@PySem.Value.type "tuple") (@Option.none @Nat) (@PySem.Data.seq (@List.toArray @PySem.Value []) 0) (@List.toArray (@Option @PySem.Value) [])))
  (@List.cons (Prod Nat PySem.Obj) (@Prod.mk Nat PySem.Obj (nat_lit 54) (@PySem.Obj.mk (@PySem.Value.type "code") (@Option.none @Nat) (@PySem.Data.fields (@List.toArray @PySem.Value (@List.cons @PySem.Value (@PySem.Value.str (PySem.Str.ofString "fitted_text") 241) (@List.cons @PySem.Value (@PySem.Value.str (PySem.Str.ofString "fitted_text") 242) (@List.cons @PySem.Value (@PySem.Value.str (PySem.Str.ofString "/claim/cut.py") 243) (@List.cons @PySem.Value (@PySem.Value.int (@OfNat.ofNat @Int (nat_lit 16) (@instOfNat (nat_lit 16))) 0) (@List.cons @PySem.Value (@PySem.Value.int (@OfNat.ofNat @Int (nat_lit 1) (@instOfNat (nat_lit 1))) 0) (@List.cons @PySem.Value (@PySem.Value.int (@OfNat.ofNat @Int (nat_lit 0) (@instOfNat (nat_lit 0))) 0) (@List.cons @PySem.Value (@PySem.Value.int (@OfNat.ofNat @Int (nat_lit 0) (@instOfNat (nat_lit 0))) 0) (@List.cons @PySem.Value (@PySem.Value.int (@OfNat.ofNat @Int (nat_lit 3) (@instOfNat (nat_lit 3))) 0) (@List.cons @PySem.Value (@PySem.Value.ref 49) (@List.cons @PySem.Value (@PySem.Value.bool @Bool.true) (@List.cons @PySem.Value (@PySem.Value.int (@OfNat.ofNat @Int (nat_lit 181) (@instOfNat (nat_lit 181))) 0) (@List.cons @PySem.Value (@PySem.Value.ref 50) (@List.cons @PySem.Value @PySem.Value.none (@List.cons @PySem.Value (@PySem.Value.ref 51) (@List.cons @PySem.Value (@PySem.Value.ref 52) (@List.cons @PySem.Value (@PySem.Value.ref 53) (@List.cons @PySem.Value (@PySem.Value.int (@OfNat.ofNat @Int (nat_lit 245) (@instOfNat (nat_lit 245))) 0) (@List.cons @PySem.Value (@PySem.Value.int (@OfNat.ofNat @Int (nat_lit 16) (@instOfNat (nat_lit 16))) 0) (@List.cons @PySem.Value (@PySem.Value.str (PySem.Str.ofString "/claim/cut.py") 246) []))))))))))))))))))))) (@List.toArray (@Option @PySem.Value) [])))
  (@List.cons (Prod Nat PySem.Obj) (@Prod.mk Nat PySem.Obj (nat_lit 55) (@PySem.Obj.mk (@PySem.Value.type "function") (@Option.none @Nat) (@PySem.Data.func (@PySem.FuncData.mk (PySem.Str.ofString "fitted_text") (PySem.Str.ofString "fitted_text") p55 (PySem.FuncBody.stmts b55) s55 3 [] @PySem.Value.none @PySem.Value.none @PySem.Value.none (@PySem.Value.str (PySem.Str.ofString "z80.bexpr") 218) (@Option.none @Nat) (@PySem.Value.ref 54) @PySem.Value.none 0)) (@List.toArray (@Option @PySem.Value) [])))
  (@List.cons (Prod Nat PySem.Obj) (@Prod.mk Nat PySem.Obj (nat_lit 56) (@PySem.Obj.mk (@PySem.Value.type "tuple") (@Option.none @Nat) (@PySem.Data.seq (@List.toArray @PySem.Value []) 0) (@List.toArray (@Option @PySem.Value) [])))
  (@List.cons (Prod Nat PySem.Obj) (@Prod.mk Nat PySem.Obj (nat_lit 58) (@PySem.Obj.mk (@PySem.Value.type "tuple") (@Option.none @Nat) (@PySem.Data.seq (@List.toArray @PySem.Value (@List.cons @PySem.Value (@PySem.Value.str (PySem.Str.ofString "value") 251) [])) 0) (@List.toArray (@Option @PySem.Value) [])))
  (@List.cons (Prod Nat PySem.Obj) (@Prod.mk Nat PySem.Obj (nat_lit 59) (@PySem.Obj.mk (@PySem.Value.type "tuple") (@Option.none @Nat) (@PySem.Data.seq (@List.toArray @PySem.Value []) 0) (@List.toArray (@Option @PySem.Value) [])))
  (@List.cons (Prod Nat PySem.Obj) (@Prod.mk Nat PySem.Obj (nat_lit 61) (@PySem.Obj.mk (@PySem.Value.type "code") (@Option.none @Nat) (@PySem.Data.fields (@List.toArray @PySem.Value (@List.cons @PySem.Value (@PySem.Value.str (PySem.Str.ofString "need_number") 248) (@List.cons @PySem.Value (@PySem.Value.str (PySem.Str.ofString "need_number") 249) (@List.cons @PySem.Value (@PySem.Value.str (PySem.Str.ofString "/claim/cut.py") 250) (@List.cons @PySem.Value (@PySem.Value.int (@OfNat.ofNat @Int (nat_lit 20) (@instOfNat (nat_lit 20))) 0) (@List.cons @PySem.Value (@PySem.Value.int (@OfNat.ofNat @Int (nat_lit 1) (@instOfNat (nat_lit 1))) 0) (@List.cons @PySem.Value (@PySem.Value.int (@OfNat.ofNat @Int (nat_lit 0) (@instOfNat (nat_lit 0))) 0) (@List.cons @PySem.Value (@PySem.Value.int (@OfNat.ofNat @Int (nat_lit 0) (@instOfNat (nat_lit 0))) 0) (@List.cons @PySem.Value (@PySem.Value.int (@OfNat.ofNat @Int (nat_lit 3) (@instOfNat (nat_lit 3))) 0) (@List.cons @PySem.Value (@PySem.Value.ref 56) (@List.cons @PySem.Value (@PySem.Value.bool @Bool.true) (@List.cons @PySem.Value (@PySem.Value.int (@OfNat.ofNat @Int (nat_lit 181) (@instOfNat (nat_lit 181))) 0) (@List.cons @PySem.Value (@PySem.Value.ref 57) (@List.cons @PySem.Value @PySem.Value.none (@List.cons @PySem.Value (@PySem.Value.ref 58) (@List.cons @PySem.Value (@PySem.Value.ref 59) (@List.cons @PySem.Value (@PySem.Value.ref 60) (@List.cons @PySem.Value (@PySem.Value.int (@OfNat.ofNat @Int (nat_lit 252) (@instOfNat (nat_lit 252))) 0) (@List.cons @PySem.Value (@PySem.Value.int (@OfNat.ofNat @Int (nat_lit 20) (@instOfNat (nat_lit 20))) 0) (@List.cons @PySem.Value (@PySem.Value.str (PySem.Str.ofString "/claim/cut.py") 253) []))))))))))))))))))))) (@List.toArray (@Option @PySem.Value) [])))
  (@List.cons (Prod Nat PySem.Obj) (@Prod.mk Nat PySem.Obj (nat_lit 62) (@PySem.Obj.mk (@PySem.Value.type "function") (@Option.none @Nat) (@PySem.Data.func (@PySem.FuncData.mk (PySem.Str.ofString "need_number") (PySem.Str.ofString "need_number") p62 (PySem.FuncBody.stmts b62) s62 3 [] @PySem.Value.none @PySem.Value.none @PySem.Value.none (@PySem.Value.str (PySem.Str.ofString "z80.bexpr") 218) (@Option.none @Nat) (@PySem.Value.ref 61) @PySem.Value.none 0)) (@List.toArray (@Option @PySem.Value) [])))
  (@List.cons (Prod Nat PySem.Obj) (@Prod.mk Nat PySem.Obj (nat_lit 63) (@PySem.Obj.mk (@PySem.Value.type "tuple") (@Option.none @Nat) (@PySem.Data.seq (@List.toArray @PySem.Value []) 0) (@List.toArray (@Option @PySem.Value) [])))
  (@List.cons (Prod Nat PySem.Obj) (@Prod.mk Nat PySem.Obj (nat_lit 65) (@PySem.Obj.mk (@PySem.Value.type "tuple") (@Option.none @Nat) (@PySem.Data.seq (@List.toArray @PySem.Value (@List.cons @PySem.Value (@PySem.Value.str (PySem.Str.ofString "value") 258) [])) 0) (@List.toArray (@Option @PySem.Value) [])))
  (@List.cons (Prod Nat PySem.Obj) (@Prod.mk Nat PySem.Obj (nat_lit 66) (@PySem.Obj.mk (@PySem.Value.type "tuple") (@Option.none @Nat) (@PySem.Data.seq (@List.toArray @PySem.Value []) 0) (@List.toArray (@Option @PySem.Value) [])))
  (@List.cons (Prod Nat PySem.Obj) (@Prod.mk Nat PySem.Obj (nat_lit 68) (@PySem.Obj.mk (@PySem.Value.type "code") (@Option.none @Nat) (@PySem.Data.fields (@List.toArray @PySem.Value (@List.cons @PySem.Value (@PySem.Value.str (PySem.Str.ofString "need_text") 255) (@List.cons @PySem.Value (@PySem.Value.str (PySem.Str.ofString "need_text") 256) (@List.cons @PySem.Value (@PySem.Value.str (PySem.Str.ofString "/claim/cut.py") 257) (@List.cons @PySem.Value (@PySem.Value.int (@OfNat.ofNat @Int (nat_lit 24) (@instOfNat (nat_lit 24))) 0) (@List.cons @PySem.Value (@PySem.Value.int (@OfNat.ofNat @Int (nat_lit 1) (@instOfNat (nat_lit 1))) 0) (@List.cons @PySem.Value (@PySem.Value.int (@OfNat.ofNat @Int (nat_lit 0) (@instOfNat (nat_lit 0))) 0) (@List.cons @PySem.Value (@PySem.Value.int (@OfNat.ofNat @Int (nat_lit 0) (@instOfNat (nat_lit 0))) 0) (@List.cons @PySem.Value (@PySem.Value.int (@OfNat.ofNat @Int (nat_lit 3) (@instOfNat (nat_lit 3))) 0) (@List.cons @PySem.Value (@PySem.Value.ref 63) (@List.cons @PySem.Value (@PySem.Value.bool @Bool.true) (@List.cons @PySem.Value (@PySem.Value.int (@OfNat.ofNat @Int (nat_lit 181) (@instOfNat (nat_lit 181))) 0) (@List.cons @PySem.Value (@PySem.Value.ref 64) (@List.cons @PySem.Value @PySem.Value.none (@List.cons @PySem.Value (@PySem.Value.ref 65) (@List.cons @PySem.Value (@PySem.Value.ref 66) (@List.cons @PySem.Value (@PySem.Value.ref 67) (@List.cons @PySem.Value (@PySem.Value.int (@OfNat.ofNat @Int (nat_lit 259) (@instOfNat (nat_lit 259))) 0) (@List.cons @PySem.Value (@PySem.Value.int (@OfNat.ofNat @Int (nat_lit 24) (@instOfNat (nat_lit 24))) 0) (@List.cons @PySem.Value (@PySem.Value.str (PySem.Str.ofString "/claim/cut.py") 260) []))))))))))))))))))))) (@List.toArray (@Option @PySem.Value) [])))
  (@List.cons (Prod Nat PySem.Obj) (@Prod.mk Nat PySem.Obj (nat_lit 69) (@PySem.Obj.mk (@PySem.Value.type "function") (@Option.none @Nat) (@PySem.Data.func (@PySem.FuncData.mk (PySem.Str.ofString "need_text") (PySem.Str.ofString "need_text") p69 (PySem.FuncBody.stmts b69) s69 3 [] @PySem.Value.none @PySem.Value.none @PySem.Value.none (@PySem.Value.str (PySem.Str.ofString "z80.bexpr") 218) (@Option.none @Nat) (@PySem.Value.ref 68) @PySem.Value.none 0)) (@List.toArray (@Option @PySem.Value) [])))
  (@List.cons (Prod Nat PySem.Obj) (@Prod.mk Nat PySem.Obj (nat_lit 77) (@PySem.Obj.mk (@PySem.Value.type "tuple") (@Option.none @Nat) (@PySem.Data.seq (@List.toArray @PySem.Value []) 0) (@List.toArray (@Option @PySem.Value) [])))
  (@List.cons (Prod Nat PySem.Obj) (@Prod.mk Nat PySem.Obj (nat_lit 79) (@PySem.Obj.mk (@PySem.Value.type "tuple") (@Option.none @Nat) (@PySem.Data.seq (@List.toArray @PySem.Value (@List.cons @PySem.Value (@PySem.Value.str (PySem.Str.ofString "self") 285) (@List.cons @PySem.Value (@PySem.Value.str (PySem.Str.ofString "randoms") 286) []))) 0) (@List.toArray (@Option @PySem.Value) [])))
  (@List.cons (Prod Nat PySem.Obj) (@Prod.mk Nat PySem.Obj (nat_lit 80) (@PySem.Obj.mk (@PySem.Value.type "tuple") (@Option.none @Nat) (@PySem.Data.seq (@List.toArray @PySem.Value []) 0) (@List.toArray (@Option @PySem.Value) [])))
  (@List.cons (Prod Nat PySem.Obj) (@Prod.mk Nat PySem.Obj (nat_lit 82) (@PySem.Obj.mk (@PySem.Value.type "code") (@Option.none @Nat) (@PySem.Data.fields (@List.toArray @PySem.Value (@List.cons @PySem.Value (@PySem.Value.str (PySem.Str.ofString "__init__") 282) (@List.cons @PySem.Value (@PySem.Value.str (PySem.Str.ofString "Store.__init__") 283) (@List.cons @PySem.Value (@PySem.Value.str (PySem.Str.ofString "/claim/cut.py") 284) (@List.cons @PySem.Value (@PySem.Value.int (@OfNat.ofNat @Int (nat_lit 34) (@instOfNat (nat_lit 34))) 0) (@List.cons @PySem.Value (@PySem.Value.int (@OfNat.ofNat @Int (nat_lit 2) (@instOfNat (nat_lit 2))) 0) (@List.cons @PySem.Value (@PySem.Value.int (@OfNat.ofNat @Int (nat_lit 0) (@instOfNat (nat_lit 0))) 0) (@List.cons @PySem.Value (@PySem.Value.int (@OfNat.ofNat @Int (nat_lit 0) (@instOfNat (nat_lit 0))) 0) (@List.cons @PySem.Value (@PySem.Value.int (@OfNat.ofNat @Int (nat_lit 3) (@instOfNat (nat_lit 3))) 0) (@List.cons @PySem.Value (@PySem.Value.ref 77) (@List.cons @PySem.Value (@PySem.Value.bool @Bool.true) (@List.cons @PySem.Value (@PySem.Value.int (@OfNat.ofNat @Int (nat_lit 181) (@instOfNat (nat_lit 181))) 0) (@List.cons @PySem.Value (@PySem.Value.ref 78) (@List.cons @PySem.Value @PySem.Value.none (@List.cons @PySem.Value (@PySem.Value.ref 79) (@List.cons @PySem.Value (@PySem.Value.ref 80) (@List.cons @PySem.Value (@PySem.Value.ref 81) (@List.cons @PySem.Value (@PySem.Value.int (@OfNat.ofNat @Int (nat_lit 287) (@instOfNat (nat_lit 287))) 0) (@List.cons @PySem.Value (@PySem.Value.int (@OfNat.ofNat @Int (nat_lit 34) (@instOfNat (nat_lit 34))) 0) (@List.cons @PySem.Value (@PySem.Value.str (PySem.Str.ofString "/claim/cut.py") 288) []))))))))))))))))))))) (@List.toArray (@Option @PySem.Value) [])))
  (@List.cons (Prod Nat PySem.Obj) (@Prod.mk Nat PySem.Obj (nat_lit 83) (@PySem.Obj.mk (@PySem.Value.type "function") (@Option.none @Nat) (@PySem.Data.func (@PySem.FuncData.mk (PySem.Str.ofString "__init__") (PySem.Str.ofString "Store.__init__") p83 (PySem.FuncBody.stmts b83) s83 3 [] @PySem.Value.none @PySem.Value.none @PySem.Value.none (@PySem.Value.str (PySem.Str.ofString "z80.bstore") 262) (@Option.none @Nat) (@PySem.Value.ref 82) @PySem.Value.none 0)) (@List.toArray (@Option @PySem.Value) [])))
  (@List.cons (Prod Nat PySem.Obj) (@Prod.mk Nat PySem.Obj (nat_lit 84) (@PySem.Obj.mk (@PySem.Value.type "tuple") (@Option.none @Nat) (@PySem.Data.seq (@List.toArray @PySem.Value []) 0) (@List.toArray (@Option @PySem.Value) [])))
  (@List.cons (Prod Nat PySem.Obj) (@Prod.mk Nat PySem.Obj (nat_lit 86) (@PySem.Obj.mk (@PySem.Value.type "tuple") (@Option.none @Nat) (@PySem.Data.seq (@List.toArray @PySem.Value (@List.cons @PySem.Value (@PySem.Value.str (PySem.Str.ofString "self") 293) (@List.cons @PySem.Value (@PySem.Value.str (PySem.Str.ofString "name") 294) []))) 0) (@List.toArray (@Option @PySem.Value) [])))
  (@List.cons (Prod Nat PySem.Obj) (@Prod.mk Nat PySem.Obj (nat_lit 87) (@PySem.Obj.mk (@PySem.Value.type "tuple") (@Option.none @Nat) (@PySem.Data.seq (@List.toArray @PySem.Value []) 0) (@List.toArray (@Option @PySem.Value) [])))
  (@List.cons (Prod Nat PySem.Obj) (@Prod.mk Nat PySem.Obj (nat_lit 89) (@PySem.Obj.mk (@PySem.Value.type "code") (@Option.none @Nat) (@PySem.Data.fields (@List.toArray @PySem.Value (@List.cons @PySem.Value (@PySem.Value.str (PySem.Str.ofString "read") 290) (@List.cons @PySem.Value (@PySem.Value.str (PySem.Str.ofString "Store.read") 291) (@List.cons @PySem.Value (@PySem.Value.str (PySem.Str.ofString "/claim/cut.py") 292) (@List.cons @PySem.Value (@PySem.Value.int (@OfNat.ofNat @Int (nat_lit 40) (@instOfNat (nat_lit 40))) 0) (@List.cons @PySem.Value (@PySem.Value.int (@OfNat.ofNat @Int (nat_lit 2) (@instOfNat (nat_lit 2))) 0) (@List.cons @PySem.Value (@PySem.Value.int (@OfNat.ofNat @Int (nat_lit 0) (@instOfNat (nat_lit 0))) 0) (@List.cons @PySem.Value (@PySem.Value.int (@OfNat.ofNat @Int (nat_lit 0) (@instOfNat (nat_lit 0))) 0) (@List.cons @PySem.Value (@PySem.Value.int (@OfNat.ofNat @Int (nat_lit 3) (@instOfNat (nat_lit 3))) 0) (@List.cons @PySem.Value (@PySem.Value.ref 84) (@List.cons @PySem.Value (@PySem.Value.bool @Bool.true) (@List.cons @PySem.Value (@PySem.Value.int (@OfNat.ofNat @Int (nat_lit 181) (@instOfNat (nat_lit 181))) 0) (@List.cons @PySem.Value (@PySem.Value.ref 85) (@List.cons @PySem.Value @PySem.Value.none (@List.cons @PySem.Value (@PySem.Value.ref 86) (@List.cons @PySem.Value (@PySem.Value.ref 87) (@List.cons @PySem.Value (@PySem.Value.ref 88) (@List.cons @PySem.Value (@PySem.Value.int (@OfNat.ofNat @Int (nat_lit 295) (@instOfNat (nat_lit 295))) 0) (@List.cons @PySem.Value (@PySem.Value.int (@OfNat.ofNat @Int (nat_lit 40) (@instOfNat (nat_lit 40))) 0) (@List.cons @PySem.Value (@PySem.Value.str (PySem.Str.ofString "/claim/cut.py") 296) []))))))))))))))))))))) (@List.toArray (@Option @PySem.Value) [])))
  (@List.cons (Prod Nat PySem.Obj) (@Prod.mk Nat PySem.Obj (nat_lit 90) (@PySem.Obj.mk (@PySem.Value.type "function") (@Option.none @Nat) (@PySem.Data.func (@PySem.FuncData.mk (PySem.Str.ofString "read") (PySem.Str.ofString "Store.read") p90 (PySem.FuncBody.stmts b90) s90 3 [] @PySem.Value.none @PySem.Value.none @PySem.Value.none (@PySem.Value.str (PySem.Str.ofString "z80.bstore") 262) (@Option.none @Nat) (@PySem.Value.ref 89) @PySem.Value.none 0)) (@List.toArray (@Option @PySem.Value) [])))
  (@List.cons (Prod Nat PySem.Obj) (@Prod.mk Nat PySem.Obj (nat_lit 91) (@PySem.Obj.mk (@PySem.Value.type "tuple") (@Option.none @Nat) (@PySem.Data.seq (@List.toArray @PySem.Value []) 0) (@List.toArray (@Option @PySem.Value) [])))
  (@List.cons (Prod Nat PySem.Obj) (@Prod.mk Nat PySem.Obj (nat_lit 93) (@PySem.Obj.mk (@PySem.Value.type "tuple") (@Option.none @Nat) (@PySem.Data.seq (@List.toArray @PySem.Value (@List.cons @PySem.Value (@PySem.Value.str (PySem.Str.ofString "self") 301) (@List.cons @PySem.Value (@PySem.Value.str (PySem.Str.ofString "name") 302) (@List.cons @PySem.Value (@PySem.Value.str (PySem.Str.ofString "indexes") 303) (@List.cons @PySem.Value (@PySem.Value.str (PySem.Str.ofString "at") 304) []))))) 0) (@List.toArray (@Option @PySem.Value) [])))
  (@List.cons (Prod Nat PySem.Obj) (@Prod.mk Nat PySem.Obj (nat_lit 94) (@PySem.Obj.mk (@PySem.Value.type "tuple") (@Option.none @Nat) (@PySem.Data.seq (@List.toArray @PySem.Value []) 0) (@List.toArray (@Option @PySem.Value) [])))
  (@List.cons (Prod Nat PySem.Obj) (@Prod.mk Nat PySem.Obj (nat_lit 96) (@PySem.Obj.mk (@PySem.Value.type "code") (@Option.none @Nat) (@PySem.Data.fields (@List.toArray @PySem.Value (@List.cons @PySem.Value (@PySem.Value.str (PySem.Str.ofString "element") 298) (@List.cons @PySem.Value (@PySem.Value.str (PySem.Str.ofString "Store.element") 299) (@List.cons @PySem.Value (@PySem.Value.str (PySem.Str.ofString "/claim/cut.py") 300) (@List.cons @PySem.Value (@PySem.Value.int (@OfNat.ofNat @Int (nat_lit 43) (@instOfNat (nat_lit 43))) 0) (@List.cons @PySem.Value (@PySem.Value.int (@OfNat.ofNat @Int (nat_lit 3) (@instOfNat (nat_lit 3))) 0) (@List.cons @PySem.Value (@PySem.Value.int (@OfNat.ofNat @Int (nat_lit 0) (@instOfNat (nat_lit 0))) 0) (@List.cons @PySem.Value (@PySem.Value.int (@OfNat.ofNat @Int (nat_lit 0) (@instOfNat (nat_lit 0))) 0) (@List.cons @PySem.Value (@PySem.Value.int (@OfNat.ofNat @Int (nat_lit 3) (@instOfNat (nat_lit 3))) 0) (@List.cons @PySem.Value (@PySem.Value.ref 91) (@List.cons @PySem.Value (@PySem.Value.bool @Bool.true) (@List.cons @PySem.Value (@PySem.Value.int (@OfNat.ofNat @Int (nat_lit 181) (@instOfNat (nat_lit 181))) 0) (@List.cons @PySem.Value (@PySem.Value.ref 92) (@List.cons @PySem.Value @PySem.Value.none (@List.cons @PySem.Value (@PySem.Value.ref 93) (@List.cons @PySem.Value (@PySem.Value.ref 94) (@List.cons @PySem.Value (@PySem.Value.ref 95) (@List.cons @PySem.Value (@PySem.Value.int (@OfNat.ofNat @Int (nat_lit 305) (@instOfNat (nat_lit 305))) 0) (@List.cons @PySem.Value (@PySem.Value.int (@OfNat.ofNat @Int (nat_lit 43) (@instOfNat (nat_lit 43))) 0) (@List.cons @PySem.Value (@PySem.Value.str (PySem.Str.ofString "/claim/cut.py") 306) []))))))))))))))))))))) (@List.toArray (@Option @PySem.Value) [])))
  (@List.cons (Prod Nat PySem.Obj) (@Prod.mk Nat PySem.Obj (nat_lit 97) (@PySem.Obj.mk (@PySem.Value.type "function") (@Option.none @Nat) (@PySem.Data.func (@PySem.FuncData.mk (PySem.Str.ofString "element") (PySem.Str.ofString "Store.element") p97 (PySem.FuncBody.stmts b97) s97 3 [] @PySem.Value.none @PySem.Value.none @PySem.Value.none (@PySem.Value.str (PySem.Str.ofString "z80.bstore") 262) (@Option.none @Nat) (@PySem.Value.ref 96) @PySem.Value.none 0)) (@List.toArray (@Option @PySem.Value) [])))
  (@List.cons (Prod Nat PySem.Obj) (@Prod.mk Nat PySem.Obj (nat_lit 98) (@PySem.Obj.mk (@PySem.Value.type "tuple") (@Option.none @Nat) (@PySem.Data.seq (@List.toArray @PySem.Value []) 0) (@List.toArray (@Option @PySem.Value) [])))
  (@List.cons (Prod Nat PySem.Obj) (@Prod.mk Nat PySem.Obj (nat_lit 100) (@PySem.Obj.mk (@PySem.Value.type "tuple") (@Option.none @Nat) (@PySem.Data.seq (@List.toArray @PySem.Value (@List.cons @PySem.Value (@PySem.Value.str (PySem.Str.ofString "self") 311) (@List.cons @PySem.Value (@PySem.Value.str (PySem.Str.ofString "number") 312) (@List.cons @PySem.Value (@PySem.Value.str (PySem.Str.ofString "found") 313) [])))) 0) (@List.toArray (@Option @PySem.Value) [])))
  (@List.cons (Prod Nat PySem.Obj) (@Prod.mk Nat PySem.Obj (nat_lit 101) (@PySem.Obj.mk (@PySem.Value.type "tuple") (@Option.none @Nat) (@PySem.Data.seq (@List.toArray @PySem.Value []) 0) (@List.toArray (@Option @PySem.Value) [])))
  (@List.cons (Prod Nat PySem.Obj) (@Prod.mk Nat PySem.Obj (nat_lit 103) (@PySem.Obj.mk (@PySem.Value.type "code") (@Option.none @Nat) (@PySem.Data.fields (@List.toArray @PySem.Value (@List.cons @PySem.Value (@PySem.Value.str (PySem.Str.ofString "random") 308) (@List.cons @PySem.Value (@PySem.Value.str (PySem.Str.ofString "Store.random") 309) (@List.cons @PySem.Value (@PySem.Value.str (PySem.Str.ofString "/claim/cut.py") 310) (@List.cons @PySem.Value (@PySem.Value.int (@OfNat.ofNat @Int (nat_lit 47) (@instOfNat (nat_lit 47))) 0) (@List.cons @PySem.Value (@PySem.Value.int (@OfNat.ofNat @Int (nat_lit 2) (@instOfNat (nat_lit 2))) 0) (@List.cons @PySem.Value (@PySem.Value.int (@OfNat.ofNat @Int (nat_lit 0) (@instOfNat (nat_lit 0))) 0) (@List.cons @PySem.Value (@PySem.Value.int (@OfNat.ofNat @Int (nat_lit 0) (@instOfNat (nat_lit 0))) 0) (@List.cons @PySem.Value (@PySem.Value.int (@OfNat.ofNat @Int (nat_lit 3) (@instOfNat (nat_lit 3))) 0) (@List.cons @PySem.Value (@PySem.Value.ref 98) (@List.cons @PySem.Value (@PySem.Value.bool @Bool.true) (@List.cons @PySem.Value (@PySem.Value.int (@OfNat.ofNat @Int (nat_lit 181) (@instOfNat (nat_lit 181))) 0) (@List.cons @PySem.Value (@PySem.Value.ref 99) (@List.cons @PySem.Value @PySem.Value.none (@List.cons @PySem.Value (@PySem.Value.ref 100) (@List.cons @PySem.Value (@PySem.Value.ref 101) (@List.cons @PySem.Value (@PySem.Value.ref 102) (@List.cons @PySem.Value (@PySem.Value.int (@OfNat.ofNat @Int (nat_lit 314) (@instOfNat (nat_lit 314))) 0) (@List.cons @PySem.Value (@PySem.Value.int (@OfNat.ofNat @Int (nat_lit 47) (@instOfNat (nat_lit 47))) 0) (@List.cons @PySem.Value (@PySem.Value.str (PySem.Str.ofString "/claim/cut.py") 315) []))))))))))))))))))))) (@List.toArray (@Option @PySem.Value) [])))
  (@List.cons (Prod Nat PySem.Obj) (@Prod.mk Nat PySem.Obj (nat_lit 104) (@PySem.Obj.mk (@PySem.Value.type "function") (@Option.none @Nat) (@PySem.Data.func (@PySem.FuncData.mk (PySem.Str.ofString "random") (PySem.Str.ofString "Store.random") p104 (PySem.FuncBody.stmts b104) s104 3 [] @PySem.Value.none @PySem.Value.none @PySem.Value.none (@PySem.Value.str (PySem.Str.ofString "z80.bstore") 262) (@Option.none @Nat) (@PySem.Value.ref 103) @PySem.Value.none 0)) (@List.toArray (@Option @PySem.Value) [])))
  (@List.cons (Prod Nat PySem.Obj) (@Prod.mk Nat PySem.Obj (nat_lit 105) (@PySem.Obj.mk (@PySem.Value.type "tuple") (@Option.none @Nat) (@PySem.Data.seq (@List.toArray @PySem.Value (@List.cons @PySem.Value (@PySem.Value.str (PySem.Str.ofString "arrays") 317) (@List.cons @PySem.Value (@PySem.Value.str (PySem.Str.ofString "randoms") 318) (@List.cons @PySem.Value (@PySem.Value.str (PySem.Str.ofString "spot") 319) (@List.cons @PySem.Value (@PySem.Value.str (PySem.Str.ofString "values") 320) []))))) 0) (@List.toArray (@Option @PySem.Value) [])))
  (@List.cons (Prod Nat PySem.Obj) (@Prod.mk Nat PySem.Obj (nat_lit 106) (@PySem.Obj.mk (@PySem.Value.type "dict") (@Option.none @Nat) (@PySem.Data.dict (@List.toArray @PySem.DictEntry (@List.cons @PySem.DictEntry (@PySem.DictEntry.mk (@PySem.PyData.keyHash P (PySem.Str.ofString "__module__")) (@PySem.Value.str (PySem.Str.ofString "__module__") 277) (@PySem.Value.str (PySem.Str.ofString "z80.bstore") 262)) (@List.cons @PySem.DictEntry (@PySem.DictEntry.mk (@PySem.PyData.keyHash P (PySem.Str.ofString "__firstlineno__")) (@PySem.Value.str (PySem.Str.ofString "__firstlineno__") 281) (@PySem.Value.int (@OfNat.ofNat @Int (nat_lit 32) (@instOfNat (nat_lit 32))) 280)) (@List.cons @PySem.DictEntry (@PySem.DictEntry.mk (@PySem.PyData.keyHash P (PySem.Str.ofString "__init__")) (@PySem.Value.str (PySem.Str.ofString "__init__") 289) (@PySem.Value.ref 83)) (@List.cons @PySem.DictEntry (@PySem.DictEntry.mk (@PySem.PyData.keyHash P (PySem.Str.ofString "read")) (@PySem.Value.str (PySem.Str.ofString "read") 297) (@PySem.Value.ref 90)) (@List.cons @PySem.DictEntry (@PySem.DictEntry.mk (@PySem.PyData.keyHash P (PySem.Str.ofString "element")) (@PySem.Value.str (PySem.Str.ofString "element") 307) (@PySem.Value.ref 97)) (@List.cons @PySem.DictEntry (@PySem.DictEntry.mk (@PySem.PyData.keyHash P (PySem.Str.ofString "random")) (@PySem.Value.str (PySem.Str.ofString "random") 316) (@PySem.Value.ref 104)) (@List.cons @PySem.DictEntry (@PySem.DictEntry.mk (@PySem.PyData.keyHash P (PySem.Str.ofString "__static_attributes__")) (@PySem.Value.str (PySem.Str.ofString "__static_attributes__") 321) (@PySem.Value.ref 105)) (@List.cons @PySem.DictEntry (@PySem.DictEntry.mk (@PySem.PyData.keyHash P (PySem.Str.ofString "__dict__")) (@PySem.Value.str (PySem.Str.ofString "__dict__") 323) (@PySem.Value.ref 108)) (@List.cons @PySem.DictEntry (@PySem.DictEntry.mk (@PySem.PyData.keyHash P (PySem.Str.ofString "__weakref__")) (@PySem.Value.str (PySem.Str.ofString "__weakref__") 325) (@PySem.Value.ref 109)) (@List.cons @PySem.DictEntry (@PySem.DictEntry.mk (@PySem.PyData.keyHash P (PySem.Str.ofString "__doc__")) (@PySem.Value.str (PySem.Str.ofString "__doc__") 326) @PySem.Value.none) []))))))))))) 4) (@List.toArray (@Option @PySem.Value) [])))
  (@List.cons (Prod Nat PySem.Obj) (@Prod.mk Nat PySem.Obj (nat_lit 107) (@PySem.Obj.mk (@PySem.Value.type "type") (@Option.none @Nat) (@PySem.Data.cls (@PySem.ClassData.mk (PySem.Str.ofString "Store") (@List.cons @PySem.Value (@PySem.Value.type "object") []) (@List.cons @PySem.Value (@PySem.Value.ref 107) (@List.cons @PySem.Value (@PySem.Value.type "object") [])) 106 (PySem.Str.ofString "Store") @Bool.true [] [] @Bool.false (@Option.none @Bool) @Bool.false)) (@List.toArray (@Option @PySem.Value) (@List.cons (@Option @PySem.Value) (@Option.none @PySem.Value) (@List.cons (@Option @PySem.Value) (@Option.none @PySem.Value) (@List.cons (@Option @PySem.Value) (@Option.some @PySem.Value (@PySem.Value.str (PySem.Str.ofString "Store") 270)) (@List.cons (@Option @PySem.Value) (@Option.some @PySem.Value (@PySem.Value.str (PySem.Str.ofString "Store") 278)) (@List.cons (@Option @PySem.Value) (@Option.some @PySem.Value (@PySem.Value.builtin "object.__new__")) (@List.cons (@Option @PySem.Value) (@Option.some @PySem.Value (@PySem.Value.bool @Bool.true)) [])))))))))
  (@List.cons (Prod Nat PySem.Obj) (@Prod.mk Nat PySem.Obj (nat_lit 108) (@PySem.Obj.mk (@PySem.Value.type "getset_descriptor") (@Option.none @Nat) (@PySem.Data.fields (@List.toArray @PySem.Value (@List.cons @PySem.Value (@PySem.Value.str (PySem.Str.ofString "__dict__") 322) (@List.cons @PySem.Value (@PySem.Value.ref 107) (@List.cons @PySem.Value (@PySem.Value.builtin "function.__dict__") (@List.cons @PySem.Value (@PySem.Value.builtin "function.__dict__#set") [])))))) (@List.toArray (@Option @PySem.Value) [])))
  (@List.cons (Prod Nat PySem.Obj) (@Prod.mk Nat PySem.Obj (nat_lit 109) (@PySem.Obj.mk (@PySem.Value.type "getset_descriptor") (@Option.none @Nat) (@PySem.Data.fields (@List.toArray @PySem.Value (@List.cons @PySem.Value (@PySem.Value.str (PySem.Str.ofString "__weakref__") 324) (@List.cons @PySem.Value (@PySem.Value.ref 107) (@List.cons @PySem.Value (@PySem.Value.builtin "ExceptionGroup.__weakref__") (@List.cons @PySem.Value @PySem.Value.none [])))))) (@List.toArray (@Option @PySem.Value) [])))
  (@List.cons (Prod Nat PySem.Obj) (@Prod.mk Nat PySem.Obj (nat_lit 112) (@PySem.Obj.mk (@PySem.Value.type "tuple") (@Option.none @Nat) (@PySem.Data.seq (@List.toArray @PySem.Value []) 0) (@List.toArray (@Option @PySem.Value) [])))
  (@List.cons (Prod Nat PySem.Obj) (@Prod.mk Nat PySem.Obj (nat_lit 114) (@PySem.Obj.mk (@PySem.Value.type "tuple") (@Option.none @Nat) (@PySem.Data.seq (@List.toArray @PySem.Value (@List.cons @PySem.Value (@PySem.Value.str (PySem.Str.ofString "name") 332) [])) 0) (@List.toArray (@Option @PySem.Value) [])))
  (@List.cons (Prod Nat PySem.Obj) (@Prod.mk Nat PySem.Obj (nat_lit 115) (@PySem.Obj.mk (@PySem.Value.type "tuple") (@Option.none @Nat) (@PySem.Data.seq (@List.toArray @PySem.Value []) 0) (@List.toArray (@Option @PySem.Value) [])))
  (@List.cons (Prod Nat PySem.Obj) (@Prod.mk Nat PySem.Obj (nat_lit 117) (@PySem.Obj.mk (@PySem.Value.type "code") (@Option.none @Nat) (@PySem.Data.fields (@List.toArray @PySem.Value (@List.cons @PySem.Value (@PySem.Value.str (PySem.Str.ofString "nothing_of") 329) (@List.cons @PySem.Value (@PySem.Value.str (PySem.Str.ofString "nothing_of") 330) (@List.cons @PySem.Value (@PySem.Value.str (PySem.Str.ofString "/claim/cut.py") 331) (@List.cons @PySem.Value (@PySem.Value.int (@OfNat.ofNat @Int (nat_lit 55) (@instOfNat (nat_lit 55))) 0) (@List.cons @PySem.Value (@PySem.Value.int (@OfNat.ofNat @Int (nat_lit 1) (@instOfNat (nat_lit 1))) 0) (@List.cons @PySem.Value (@PySem.Value.int (@OfNat.ofNat @Int (nat_lit 0) (@instOfNat (nat_lit 0))) 0) (@List.cons @PySem.Value (@PySem.Value.int (@OfNat.ofNat @Int (nat_lit 0) (@instOfNat (nat_lit 0))) 0) (@List.cons @PySem.Value (@PySem.Value.int (@OfNat.ofNat @Int (nat_lit 3) (@instOfNat (nat_lit 3))) 0) (@List.cons @PySem.Value (@PySem.Value.ref 112) (@List.cons @PySem.Value (@PySem.Value.bool @Bool.true) (@List.cons @PySem.Value (@PySem.Value.int (@OfNat.ofNat @Int (nat_lit 181) (@instOfNat (nat_lit 181))) 0) (@List.cons @PySem.Value (@PySem.Value.ref 113) (@List.cons @PySem.Value @PySem.Value.none (@List.cons @PySem.Value (@PySem.Value.ref 114) (@List.cons @PySem.Value (@PySem.Value.ref 115) (@List.cons @PySem.Value (@PySem.Value.ref 116) (@List.cons @PySem.Value (@PySem.Value.int (@OfNat.ofNat @Int (nat_lit 333) (@instOfNat (nat_lit 333))) 0) (@List.cons @PySem.Value (@PySem.Value.int (@OfNat.ofNat @Int (nat_lit 55) (@instOfNat (nat_lit 55))) 0) (@List.cons @PySem.Value (@PySem.Value.str (PySem.Str.ofString "/claim/cut.py") 334) []))))))))))))))))))))) (@List.toArray (@Option @PySem.Value) [])))
  (@List.cons (Prod Nat PySem.Obj) (@Prod.mk Nat PySem.Obj (nat_lit 118) (@PySem.Obj.mk (@PySem.Value.type "function") (@Option.none @Nat) (@PySem.Data.func (@PySem.FuncData.mk (PySem.Str.ofString "nothing_of") (PySem.Str.ofString "nothing_of") p118 (PySem.FuncBody.stmts b118) s118 3 [] @PySem.Value.none @PySem.Value.none @PySem.Value.none (@PySem.Value.str (PySem.Str.ofString "z80.bstore") 262) (@Option.none @Nat) (@PySem.Value.ref 117) @PySem.Value.none 0)) (@List.toArray (@Option @PySem.Value) [])))
  (@List.cons (Prod Nat PySem.Obj) (@Prod.mk Nat PySem.Obj (nat_lit 119) (@PySem.Obj.mk (@PySem.Value.type "tuple") (@Option.none @Nat) (@PySem.Data.seq (@List.toArray @PySem.Value []) 0) (@List.toArray (@Option @PySem.Value) [])))
  (@List.cons (Prod Nat PySem.Obj) (@Prod.mk Nat PySem.Obj (nat_lit 121) (@PySem.Obj.mk (@PySem.Value.type "tuple") (@Option.none @Nat) (@PySem.Data.seq (@List.toArray @PySem.Value (@List.cons @PySem.Value (@PySem.Value.str (PySem.Str.ofString "store") 339) (@List.cons @PySem.Value (@PySem.Value.str (PySem.Str.ofString "name") 340) (@List.cons @PySem.Value (@PySem.Value.str (PySem.Str.ofString "bounds") 341) (@List.cons @PySem.Value (@PySem.Value.str (PySem.Str.ofString "many") 342) (@List.cons @PySem.Value (@PySem.Value.str (PySem.Str.ofString "bound") 343) [])))))) 0) (@List.toArray (@Option @PySem.Value) [])))
  (@List.cons (Prod Nat PySem.Obj) (@Prod.mk Nat PySem.Obj (nat_lit 122) (@PySem.Obj.mk (@PySem.Value.type "tuple") (@Option.none @Nat) (@PySem.Data.seq (@List.toArray @PySem.Value []) 0) (@List.toArray (@Option @PySem.Value) [])))
  (@List.cons (Prod Nat PySem.Obj) (@Prod.mk Nat PySem.Obj (nat_lit 124) (@PySem.Obj.mk (@PySem.Value.type "code") (@Option.none @Nat) (@PySem.Data.fields (@List.toArray @PySem.Value (@List.cons @PySem.Value (@PySem.Value.str (PySem.Str.ofString "made_array") 336) (@List.cons @PySem.Value (@PySem.Value.str (PySem.Str.ofString "made_array") 337) (@List.cons @PySem.Value (@PySem.Value.str (PySem.Str.ofString "/claim/cut.py") 338) (@List.cons @PySem.Value (@PySem.Value.int (@OfNat.ofNat @Int (nat_lit 57) (@instOfNat (nat_lit 57))) 0) (@List.cons @PySem.Value (@PySem.Value.int (@OfNat.ofNat @Int (nat_lit 3) (@instOfNat (nat_lit 3))) 0) (@List.cons @PySem.Value (@PySem.Value.int (@OfNat.ofNat @Int (nat_lit 0) (@instOfNat (nat_lit 0))) 0) (@List.cons @PySem.Value (@PySem.Value.int (@OfNat.ofNat @Int (nat_lit 0) (@instOfNat (nat_lit 0))) 0) (@List.cons @PySem.Value (@PySem.Value.int (@OfNat.ofNat @Int (nat_lit 3) (@instOfNat (nat_lit 3))) 0) (@List.cons @PySem.Value (@PySem.Value.ref 119) (@List.cons @PySem.Value (@PySem.Value.bool @Bool.true) (@List.cons @PySem.Value (@PySem.Value.int (@OfNat.ofNat @Int (nat_lit 181) (@instOfNat (nat_lit 181))) 0) (@List.cons @PySem.Value (@PySem.Value.ref 120) (@List.cons @PySem.Value @PySem.Value.none (@List.cons @PySem.Value (@PySem.Value.ref 121) (@List.cons @PySem.Value (@PySem.Value.ref 122) (@List.cons @PySem.Value (@PySem.Value.ref 123) (@List.cons @PySem.Value (@PySem.Value.int (@OfNat.ofNat @Int (nat_lit 344) (@instOfNat (nat_lit 344))) 0) (@List.cons @PySem.Value (@PySem.Value.int (@OfNat.ofNat @Int (nat_lit 57) (@instOfNat (nat_lit 57))) 0) (@List.cons @PySem.Value (@PySem.Value.str (PySem.Str.ofString "/claim/cut.py") 345) []))))))))))))))))))))) (@List.toArray (@Option @PySem.Value) [])))
  (@List.cons (Prod Nat PySem.Obj) (@Prod.mk Nat PySem.Obj (nat_lit 125) (@PySem.Obj.mk (@PySem.Value.type "function") (@Option.none @Nat) (@PySem.Data.func (@PySem.FuncData.mk (PySem.Str.ofString "made_array") (PySem.Str.ofString "made_array") p125 (PySem.FuncBody.stmts b125) s125 3 [] @PySem.Value.none @PySem.Value.none @PySem.Value.none (@PySem.Value.str (PySem.Str.ofString "z80.bstore") 262) (@Option.none @Nat) (@PySem.Value.ref 124) @PySem.Value.none 0)) (@List.toArray (@Option @PySem.Value) [])))
  (@List.cons (Prod Nat PySem.Obj) (@Prod.mk Nat PySem.Obj (nat_lit 126) (@PySem.Obj.mk (@PySem.Value.type "tuple") (@Option.none @Nat) (@PySem.Data.seq (@List.toArray @PySem.Value []) 0) (@List.toArray (@Option @PySem.Value) [])))
  (@List.cons (Prod Nat PySem.Obj) (@Prod.mk Nat PySem.Obj (nat_lit 128) (@PySem.Obj.mk (@PySem.Value.type "tuple") (@Option.none @Nat) (@PySem.Data.seq (@List.toArray @PySem.Value (@List.cons @PySem.Value (@PySem.Value.str (PySem.Str.ofString "store") 350) (@List.cons @PySem.Value (@PySem.Value.str (PySem.Str.ofString "name") 351) (@List.cons @PySem.Value (@PySem.Value.str (PySem.Str.ofString "bounds") 352) [])))) 0) (@List.toArray (@Option @PySem.Value) [])))
  (@List.cons (Prod Nat PySem.Obj) (@Prod.mk Nat PySem.Obj (nat_lit 129) (@PySem.Obj.mk (@PySem.Value.type "tuple") (@Option.none @Nat) (@PySem.Data.seq (@List.toArray @PySem.Value []) 0) (@List.toArray (@Option @PySem.Value) [])))
  (@List.cons (Prod Nat PySem.Obj) (@Prod.mk Nat PySem.Obj (nat_lit 131) (@PySem.Obj.mk (@PySem.Value.type "code") (@Option.none @Nat) (@PySem.Data.fields (@List.toArray @PySem.Value (@List.cons @PySem.Value (@PySem.Value.str (PySem.Str.ofString "dim_array") 347) (@List.cons @PySem.Value (@PySem.Value.str (PySem.Str.ofString "dim_array") 348) (@List.cons @PySem.Value (@PySem.Value.str (PySem.Str.ofString "/claim/cut.py") 349) (@List.cons @PySem.Value (@PySem.Value.int (@OfNat.ofNat @Int (nat_lit 66) (@instOfNat (nat_lit 66))) 0) (@List.cons @PySem.Value (@PySem.Value.int (@OfNat.ofNat @Int (nat_lit 3) (@instOfNat (nat_lit 3))) 0) (@List.cons @PySem.Value (@PySem.Value.int (@OfNat.ofNat @Int (nat_lit 0) (@instOfNat (nat_lit 0))) 0) (@List.cons @PySem.Value (@PySem.Value.int (@OfNat.ofNat @Int (nat_lit 0) (@instOfNat (nat_lit 0))) 0) (@List.cons @PySem.Value (@PySem.Value.int (@OfNat.ofNat @Int (nat_lit 3) (@instOfNat (nat_lit 3))) 0) (@List.cons @PySem.Value (@PySem.Value.ref 126) (@List.cons @PySem.Value (@PySem.Value.bool @Bool.true) (@List.cons @PySem.Value (@PySem.Value.int (@OfNat.ofNat @Int (nat_lit 181) (@instOfNat (nat_lit 181))) 0) (@List.cons @PySem.Value (@PySem.Value.ref 127) (@List.cons @PySem.Value @PySem.Value.none (@List.cons @PySem.Value (@PySem.Value.ref 128) (@List.cons @PySem.Value (@PySem.Value.ref 129) (@List.cons @PySem.Value (@PySem.Value.ref 130) (@List.cons @PySem.Value (@PySem.Value.int (@OfNat.ofNat @Int (nat_lit 353) (@instOfNat (nat_lit 353))) 0) (@List.cons @PySem.Value (@PySem.Value.int (@OfNat.ofNat @Int (nat_lit 66) (@instOfNat (nat_lit 66))) 0) (@List.cons @PySem.Value (@PySem.Value.str (PySem.Str.ofString "/claim/cut.py") 354) []))))))))))))))))))))) (@List.toArray (@Option @PySem.Value) [])))
  (@List.cons (Prod Nat PySem.Obj) (@Prod.mk Nat PySem.Obj (nat_lit 132) (@PySem.Obj.mk (@PySem.Value.type "function") (@Option.none @Nat) (@PySem.Data.func (@PySem.FuncData.mk (PySem.Str.ofString "dim_array") (PySem.Str.ofString "dim_array") p132 (PySem.FuncBody.stmts b132) s132 3 [] @PySem.Value.none @PySem.Value.none @PySem.Value.none (@PySem.Value.str (PySem.Str.ofString "z80.bstore") 262) (@Option.none @Nat) (@PySem.Value.ref 131) @PySem.Value.none 0)) (@List.toArray (@Option @PySem.Value) [])))
  (@List.cons (Prod Nat PySem.Obj) (@Prod.mk Nat PySem.Obj (nat_lit 133) (@PySem.Obj.mk (@PySem.Value.type "tuple") (@Option.none @Nat) (@PySem.Data.seq (@List.toArray @PySem.Value []) 0) (@List.toArray (@Option @PySem.Value) [])))
  (@List.cons (Prod Nat PySem.Obj) (@Prod.mk Nat PySem.Obj (nat_lit 135) (@PySem.Obj.mk (@PySem.Value.type "tuple") (@Option.none @Nat) (@PySem.Data.seq (@List.toArray @PySem.Value (@List.cons @PySem.Value (@PySem.Value.str (PySem.Str.ofString "store") 359) (@List.cons @PySem.Value (@PySem.Value.str (PySem.Str.ofString "name") 360) (@List.cons @PySem.Value (@PySem.Value.str (PySem.Str.ofString "indexes") 361) (@List.cons @PySem.Value (@PySem.Value.str (PySem.Str.ofString "bounds") 362) (@List.cons @PySem.Value (@PySem.Value.str (PySem.Str.ofString "found") 363) (@List.cons @PySem.Value (@PySem.Value.str (PySem.Str.ofString "bound") 364) (@List.cons @PySem.Value (@PySem.Value.str (PySem.Str.ofString "index") 365) [])))))))) 0) (@List.toArray (@Option @PySem.Value) [])))
  (@List.cons (Prod Nat PySem.Obj) (@Prod.mk Nat PySem.Obj (nat_lit 136) (@PySem.Obj.mk (@PySem.Value.type "tuple") (@Option.none @Nat) (@PySem.Data.seq (@List.toArray @PySem.Value []) 0) (@List.toArray (@Option @PySem.Value) [])))
  (@List.cons (Prod Nat PySem.Obj) (@Prod.mk Nat PySem.Obj (nat_lit 138) (@PySem.Obj.mk (@PySem.Value.type "code") (@Option.none @Nat) (@PySem.Data.fields (@List.toArray @PySem.Value (@List.cons @PySem.Value (@PySem.Value.str (PySem.Str.ofString "array_place") 356) (@List.cons @PySem.Value (@PySem.Value.str (PySem.Str.ofString "array_place") 357) (@List.cons @PySem.Value (@PySem.Value.str (PySem.Str.ofString "/claim/cut.py") 358) (@List.cons @PySem.Value (@PySem.Value.int (@OfNat.ofNat @Int (nat_lit 70) (@instOfNat (nat_lit 70))) 0) (@List.cons @PySem.Value (@PySem.Value.int (@OfNat.ofNat @Int (nat_lit 3) (@instOfNat (nat_lit 3))) 0) (@List.cons @PySem.Value (@PySem.Value.int (@OfNat.ofNat @Int (nat_lit 0) (@instOfNat (nat_lit 0))) 0) (@List.cons @PySem.Value (@PySem.Value.int (@OfNat.ofNat @Int (nat_lit 0) (@instOfNat (nat_lit 0))) 0) (@List.cons @PySem.Value (@PySem.Value.int (@OfNat.ofNat @Int (nat_lit 3) (@instOfNat (nat_lit 3))) 0) (@List.cons @PySem.Value (@PySem.Value.ref 133) (@List.cons @PySem.Value (@PySem.Value.bool @Bool.true) (@List.cons @PySem.Value (@PySem.Value.int (@OfNat.ofNat @Int (nat_lit 181) (@instOfNat (nat_lit 181))) 0) (@List.cons @PySem.Value (@PySem.Value.ref 134) (@List.cons @PySem.Value @PySem.Value.none (@List.cons @PySem.Value (@PySem.Value.ref 135) (@List.cons @PySem.Value (@PySem.Value.ref 136) (@List.cons @PySem.Value (@PySem.Value.ref 137) (@List.cons @PySem.Value (@PySem.Value.int (@OfNat.ofNat @Int (nat_lit 366) (@instOfNat (nat_lit 366))) 0) (@List.cons @PySem.Value (@PySem.Value.int (@OfNat.ofNat @Int (nat_lit 70) (@instOfNat (nat_lit 70))) 0) (@List.cons @PySem.Value (@PySem.Value.str (PySem.Str.ofString "/claim/cut.py") 367) []))))))))))))))))))))) (@List.toArray (@Option @PySem.Value) [])))
  (@List.cons (Prod Nat PySem.Obj) (@Prod.mk Nat PySem.Obj (nat_lit 139) (@PySem.Obj.mk (@PySem.Value.type "function") (@Option.none @Nat) (@PySem.Data.func (@PySem.FuncData.mk (PySem.Str.ofString "array_place") (PySem.Str.ofString "array_place") p139 (PySem.FuncBody.stmts b139) s139 3 [] @PySem.Value.none @PySem.Value.none @PySem.Value.none (@PySem.Value.str (PySem.Str.ofString "z80.bstore") 262) (@Option.none @Nat) (@PySem.Value.ref 138) @PySem.Value.none 0)) (@List.toArray (@Option @PySem.Value) [])))
  (@List.cons (Prod Nat PySem.Obj) (@Prod.mk Nat PySem.Obj (nat_lit 140) (@PySem.Obj.mk (@PySem.Value.type "tuple") (@Option.none @Nat) (@PySem.Data.seq (@List.toArray @PySem.Value []) 0) (@List.toArray (@Option @PySem.Value) [])))
  (@List.cons (Prod Nat PySem.Obj) (@Prod.mk Nat PySem.Obj (nat_lit 142) (@PySem.Obj.mk (@PySem.Value.type "tuple") (@Option.none @Nat) (@PySem.Data.seq (@List.toArray @PySem.Value (@List.cons @PySem.Value (@PySem.Value.str (PySem.Str.ofString "name") 372) (@List.cons @PySem.Value (@PySem.Value.str (PySem.Str.ofString "value") 373) []))) 0) (@List.toArray (@Option @PySem.Value) [])))
  (@List.cons (Prod Nat PySem.Obj) (@Prod.mk Nat PySem.Obj (nat_lit 143) (@PySem.Obj.mk (@PySem.Value.type "tuple") (@Option.none @Nat) (@PySem.Data.seq (@List.toArray @PySem.Value []) 0) (@List.toArray (@Option @PySem.Value) [])))
  (@List.cons (Prod Nat PySem.Obj) (@Prod.mk Nat PySem.Obj (nat_lit 145) (@PySem.Obj.mk (@PySem.Value.type "code") (@Option.none @Nat) (@PySem.Data.fields (@List.toArray @PySem.Value (@List.cons @PySem.Value (@PySem.Value.str (PySem.Str.ofString "fit_value") 369) (@List.cons @PySem.Value (@PySem.Value.str (PySem.Str.ofString "fit_value") 370) (@List.cons @PySem.Value (@PySem.Value.str (PySem.Str.ofString "/claim/cut.py") 371) (@List.cons @PySem.Value (@PySem.Value.int (@OfNat.ofNat @Int (nat_lit 82) (@instOfNat (nat_lit 82))) 0) (@List.cons @PySem.Value (@PySem.Value.int (@OfNat.ofNat @Int (nat_lit 2) (@instOfNat (nat_lit 2))) 0) (@List.cons @PySem.Value (@PySem.Value.int (@OfNat.ofNat @Int (nat_lit 0) (@instOfNat (nat_lit 0))) 0) (@List.cons @PySem.Value (@PySem.Value.int (@OfNat.ofNat @Int (nat_lit 0) (@instOfNat (nat_lit 0))) 0) (@List.cons @PySem.Value (@PySem.Value.int (@OfNat.ofNat @Int (nat_lit 3) (@instOfNat (nat_lit 3))) 0) (@List.cons @PySem.Value (@PySem.Value.ref 140) (@List.cons @PySem.Value (@PySem.Value.bool @Bool.true) (@List.cons @PySem.Value (@PySem.Value.int (@OfNat.ofNat @Int (nat_lit 181) (@instOfNat (nat_lit 181))) 0) (@List.cons @PySem.Value (@PySem.Value.ref 141) (@List.cons @PySem.Value @PySem.Value.none (@List.cons @PySem.Value (@PySem.Value.ref 142) (@List.cons @PySem.Value (@PySem.Value.ref 143) (@List.cons @PySem.Value (@PySem.Value.ref 144) (@List.cons @PySem.Value (@PySem.Value.int (@OfNat.ofNat @Int (nat_lit 374) (@instOfNat (nat_lit 374))) 0) (@List.cons @PySem.Value (@PySem.Value.int (@OfNat.ofNat @Int (nat_lit 82) (@instOfNat (nat_lit 82))) 0) (@List.cons @PySem.Value (@PySem.Value.str (PySem.Str.ofString "/claim/cut.py") 375) []))))))))))))))))))))) (@List.toArray (@Option @PySem.Value) [])))
  (@List.cons (Prod Nat PySem.Obj) (@Prod.mk Nat PySem.Obj (nat_lit 146) (@PySem.Obj.mk (@PySem.Value.type "function") (@Option.none @Nat) (@PySem.Data.func (@PySem.FuncData.mk (PySem.Str.ofString "fit_value") (PySem.Str.ofString "fit_value") p146 (PySem.FuncBody.stmts b146) s146 3 [] @PySem.Value.none @PySem.Value.none @PySem.Value.none (@PySem.Value.str (PySem.Str.ofString "z80.bstore") 262) (@Option.none @Nat) (@PySem.Value.ref 145) @PySem.Value.none 0)) (@List.toArray (@Option @PySem.Value) [])))
  (@List.cons (Prod Nat PySem.Obj) (@Prod.mk Nat PySem.Obj (nat_lit 147) (@PySem.Obj.mk (@PySem.Value.type "tuple") (@Option.none @Nat) (@PySem.Data.seq (@List.toArray @PySem.Value []) 0) (@List.toArray (@Option @PySem.Value) [])))
  (@List.cons (Prod Nat PySem.Obj) (@Prod.mk Nat PySem.Obj (nat_lit 149) (@PySem.Obj.mk (@PySem.Value.type "tuple") (@Option.none @Nat) (@PySem.Data.seq (@List.toArray @PySem.Value (@List.cons @PySem.Value (@PySem.Value.str (PySem.Str.ofString "store") 380) (@List.cons @PySem.Value (@PySem.Value.str (PySem.Str.ofString "where") 381) (@List.cons @PySem.Value (@PySem.Value.str (PySem.Str.ofString "value") 382) (@List.cons @PySem.Value (@PySem.Value.str (PySem.Str.ofString "name") 383) (@List.cons @PySem.Value (@PySem.Value.str (PySem.Str.ofString "indexes") 384) (@List.cons @PySem.Value (@PySem.Value.str (PySem.Str.ofString "at") 385) []))))))) 0) (@List.toArray (@Option @PySem.Value) [])))
  (@List.cons (Prod Nat PySem.Obj) (@Prod.mk Nat PySem.Obj (nat_lit 150) (@PySem.Obj.mk (@PySem.Value.type "tuple") (@Option.none @Nat) (@PySem.Data.seq (@List.toArray @PySem.Value []) 0) (@List.toArray (@Option @PySem.Value) [])))
  (@List.cons (Prod Nat PySem.Obj) (@Prod.mk Nat PySem.Obj (nat_lit 152) (@PySem.Obj.mk (@PySem.Value.type "code") (@Option.none @Nat) (@PySem.Data.fields (@List.toArray @PySem.Value (@List.cons @PySem.Value (@PySem.Value.str (PySem.Str.ofString "put_value") 377) (@List.cons @PySem.Value (@PySem.Value.str (PySem.Str.ofString "put_value") 378) (@List.cons @PySem.Value (@PySem.Value.str (PySem.Str.ofString "/claim/cut.py") 379) (@List.cons @PySem.Value (@PySem.Value.int (@OfNat.ofNat @Int (nat_lit 84) (@instOfNat (nat_lit 84))) 0) (@List.cons @PySem.Value (@PySem.Value.int (@OfNat.ofNat @Int (nat_lit 3) (@instOfNat (nat_lit 3))) 0) (@List.cons @PySem.Value (@PySem.Value.int (@OfNat.ofNat @Int (nat_lit 0) (@instOfNat (nat_lit 0))) 0) (@List.cons @PySem.Value (@PySem.Value.int (@OfNat.ofNat @Int (nat_lit 0) (@instOfNat (nat_lit 0))) 0) (@List.cons @PySem.Value (@PySem.Value.int (@OfNat.ofNat @Int (nat_lit 3) (@instOfNat (nat_lit 3))) 0) (@List.cons @PySem.Value (@PySem.Value.ref 147) (@List.cons @PySem.Value (@PySem.Value.bool @Bool.true) (@List.cons @PySem.Value (@PySem.Value.int (@OfNat.ofNat @Int (nat_lit 181) (@instOfNat (nat_lit 181))) 0) (@List.cons @PySem.Value (@PySem.Value.ref 148) (@List.cons @PySem.Value @PySem.Value.none (@List.cons @PySem.Value (@PySem.Value.ref 149) (@List.cons @PySem.Value (@PySem.Value.ref 150) (@List.cons @PySem.Value (@PySem.Value.ref 151) (@List.cons @PySem.Value (@PySem.Value.int (@OfNat.ofNat @Int (nat_lit 386) (@instOfNat (nat_lit 386))) 0) (@List.cons @PySem.Value (@PySem.Value.int (@OfNat.ofNat @Int (nat_lit 84) (@instOfNat (nat_lit 84))) 0) (@List.cons @PySem.Value (@PySem.Value.str (PySem.Str.ofString "/claim/cut.py") 387) []))))))))))))))))))))) (@List.toArray (@Option @PySem.Value) [])))
  (@List.cons (Prod Nat PySem.Obj) (@Prod.mk Nat PySem.Obj (nat_lit 153) (@PySem.Obj.mk (@PySem.Value.type "function") (@Option.none @Nat) (@PySem.Data.func (@PySem.FuncData.mk (PySem.Str.ofString "put_value") (PySem.Str.ofString "put_value") p153 (PySem.FuncBody.stmts b153) s153 3 [] @PySem.Value.none @PySem.Value.none @PySem.Value.none (@PySem.Value.str (PySem.Str.ofString "z80.bstore") 262) (@Option.none @Nat) (@PySem.Value.ref 152) @PySem.Value.none 0)) (@List.toArray (@Option @PySem.Value) [])))
  (@List.cons (Prod Nat PySem.Obj) (@Prod.mk Nat PySem.Obj (nat_lit 154) (@PySem.Obj.mk (@PySem.Value.type "tuple") (@Option.none @Nat) (@PySem.Data.seq (@List.toArray @PySem.Value []) 0) (@List.toArray (@Option @PySem.Value) [])))
  (@List.cons (Prod Nat PySem.Obj) (@Prod.mk Nat PySem.Obj (nat_lit 156) (@PySem.Obj.mk (@PySem.Value.type "tuple") (@Option.none @Nat) (@PySem.Data.seq (@List.toArray @PySem.Value []) 0) (@List.toArray (@Option @PySem.Value) [])))
  (@List.cons (Prod Nat PySem.Obj) (@Prod.mk Nat PySem.Obj (nat_lit 157) (@PySem.Obj.mk (@PySem.Value.type "tuple") (@Option.none @Nat) (@PySem.Data.seq (@List.toArray @PySem.Value []) 0) (@List.toArray (@Option @PySem.Value) [])))
  (@List.cons (Prod Nat PySem.Obj) (@Prod.mk Nat PySem.Obj (nat_lit 159) (@PySem.Obj.mk (@PySem.Value.type "code") (@Option.none @Nat) (@PySem.Data.fields (@List.toArray @PySem.Value (@List.cons @PySem.Value (@PySem.Value.str (PySem.Str.ofString "_law_names") 391) (@List.cons @PySem.Value (@PySem.Value.str (PySem.Str.ofString "_law_names") 392) (@List.cons @PySem.Value (@PySem.Value.str (PySem.Str.ofString "/claim/cut.py") 393) (@List.cons @PySem.Value (@PySem.Value.int (@OfNat.ofNat @Int (nat_lit 93) (@instOfNat (nat_lit 93))) 0) (@List.cons @PySem.Value (@PySem.Value.int (@OfNat.ofNat @Int (nat_lit 0) (@instOfNat (nat_lit 0))) 0) (@List.cons @PySem.Value (@PySem.Value.int (@OfNat.ofNat @Int (nat_lit 0) (@instOfNat (nat_lit 0))) 0) (@List.cons @PySem.Value (@PySem.Value.int (@OfNat.ofNat @Int (nat_lit 0) (@instOfNat (nat_lit 0))) 0) (@List.cons @PySem.Value (@PySem.Value.int (@OfNat.ofNat @Int (nat_lit 3) (@instOfNat (nat_lit 3))) 0) (@List.cons @PySem.Value (@PySem.Value.ref 154) (@List.cons @PySem.Value (@PySem.Value.bool @Bool.true) (@List.cons @PySem.Value (@PySem.Value.int (@OfNat.ofNat @Int (nat_lit 181) (@instOfNat (nat_lit 181))) 0) (@List.cons @PySem.Value (@PySem.Value.ref 155) (@List.cons @PySem.Value @PySem.Value.none (@List.cons @PySem.Value (@PySem.Value.ref 156) (@List.cons @PySem.Value (@PySem.Value.ref 157) (@List.cons @PySem.Value (@PySem.Value.ref 158) (@List.cons @PySem.Value (@PySem.Value.int (@OfNat.ofNat @Int (nat_lit 394) (@instOfNat (nat_lit 394))) 0) (@List.cons @PySem.Value (@PySem.Value.int (@OfNat.ofNat @Int (nat_lit 93) (@instOfNat (nat_lit 93))) 0) (@List.cons @PySem.Value (@PySem.Value.str (PySem.Str.ofString "/claim/cut.py") 395) []))))))))))))))))))))) (@List.toArray (@Option @PySem.Value) [])))
  (@List.cons (Prod Nat PySem.Obj) (@Prod.mk Nat PySem.Obj (nat_lit 160) (@PySem.Obj.mk (@PySem.Value.type "function") (@Option.none @Nat) (@PySem.Data.func (@PySem.FuncData.mk (PySem.Str.ofString "_law_names") (PySem.Str.ofString "_law_names") p160 (PySem.FuncBody.stmts b160) s160 3 [] @PySem.Value.none @PySem.Value.none @PySem.Value.none (@PySem.Value.str (PySem.Str.ofString "law_nz0563_01") 389) (@Option.none @Nat) (@PySem.Value.ref 159) @PySem.Value.none 0)) (@List.toArray (@Option @PySem.Value) [])))
  (@List.cons (Prod Nat PySem.Obj) (@Prod.mk Nat PySem.Obj (nat_lit 161) (@PySem.Obj.mk (@PySem.Value.type "tuple") (@Option.none @Nat) (@PySem.Data.seq (@List.toArray @PySem.Value []) 0) (@List.toArray (@Option @PySem.Value) [])))
  (@List.cons (Prod Nat PySem.Obj) (@Prod.mk Nat PySem.Obj (nat_lit 163) (@PySem.Obj.mk (@PySem.Value.type "tuple") (@Option.none @Nat) (@PySem.Data.seq (@List.toArray @PySem.Value (@List.cons @PySem.Value (@PySem.Value.str (PySem.Str.ofString "work") 400) (@List.cons @PySem.Value (@PySem.Value.str (PySem.Str.ofString "caught") 401) []))) 0) (@List.toArray (@Option @PySem.Value) [])))
  (@List.cons (Prod Nat PySem.Obj) (@Prod.mk Nat PySem.Obj (nat_lit 164) (@PySem.Obj.mk (@PySem.Value.type "tuple") (@Option.none @Nat) (@PySem.Data.seq (@List.toArray @PySem.Value []) 0) (@List.toArray (@Option @PySem.Value) [])))
  (@List.cons (Prod Nat PySem.Obj) (@Prod.mk Nat PySem.Obj (nat_lit 166) (@PySem.Obj.mk (@PySem.Value.type "code") (@Option.none @Nat) (@PySem.Data.fields (@List.toArray @PySem.Value (@List.cons @PySem.Value (@PySem.Value.str (PySem.Str.ofString "_law_heard") 397) (@List.cons @PySem.Value (@PySem.Value.str (PySem.Str.ofString "_law_heard") 398) (@List.cons @PySem.Value (@PySem.Value.str (PySem.Str.ofString "/claim/cut.py") 399) (@List.cons @PySem.Value (@PySem.Value.int (@OfNat.ofNat @Int (nat_lit 95) (@instOfNat (nat_lit 95))) 0) (@List.cons @PySem.Value (@PySem.Value.int (@OfNat.ofNat @Int (nat_lit 1) (@instOfNat (nat_lit 1))) 0) (@List.cons @PySem.Value (@PySem.Value.int (@OfNat.ofNat @Int (nat_lit 0) (@instOfNat (nat_lit 0))) 0) (@List.cons @PySem.Value (@PySem.Value.int (@OfNat.ofNat @Int (nat_lit 0) (@instOfNat (nat_lit 0))) 0) (@List.cons @PySem.Value (@PySem.Value.int (@OfNat.ofNat @Int (nat_lit 3) (@instOfNat (nat_lit 3))) 0) (@List.cons @PySem.Value (@PySem.Value.ref 161) (@List.cons @PySem.Value (@PySem.Value.bool @Bool.true) (@List.cons @PySem.Value (@PySem.Value.int (@OfNat.ofNat @Int (nat_lit 181) (@instOfNat (nat_lit 181))) 0) (@List.cons @PySem.Value (@PySem.Value.ref 162) (@List.cons @PySem.Value @PySem.Value.none (@List.cons @PySem.Value (@PySem.Value.ref 163) (@List.cons @PySem.Value (@PySem.Value.ref 164) (@List.cons @PySem.Value (@PySem.Value.ref 165) (@List.cons @PySem.Value (@PySem.Value.int (@OfNat.ofNat @Int (nat_lit 402) (@instOfNat (nat_lit 402))) 0) (@List.cons @PySem.Value (@PySem.Value.int (@OfNat.ofNat @Int (nat_lit 95) (@instOfNat (nat_lit 95))) 0) (@List.cons @PySem.Value (@PySem.Value.str (PySem.Str.ofString "/claim/cut.py") 403) []))))))))))))))))))))) (@List.toArray (@Option @PySem.Value) [])))
  (@List.cons (Prod Nat PySem.Obj) (@Prod.mk Nat PySem.Obj (nat_lit 167) (@PySem.Obj.mk (@PySem.Value.type "function") (@Option.none @Nat) (@PySem.Data.func (@PySem.FuncData.mk (PySem.Str.ofString "_law_heard") (PySem.Str.ofString "_law_heard") p167 (PySem.FuncBody.stmts b167) s167 3 [] @PySem.Value.none @PySem.Value.none @PySem.Value.none (@PySem.Value.str (PySem.Str.ofString "law_nz0563_01") 389) (@Option.none @Nat) (@PySem.Value.ref 166) @PySem.Value.none 0)) (@List.toArray (@Option @PySem.Value) [])))
  (@List.cons (Prod Nat PySem.Obj) (@Prod.mk Nat PySem.Obj (nat_lit 168) (@PySem.Obj.mk (@PySem.Value.type "tuple") (@Option.none @Nat) (@PySem.Data.seq (@List.toArray @PySem.Value []) 0) (@List.toArray (@Option @PySem.Value) [])))
  (@List.cons (Prod Nat PySem.Obj) (@Prod.mk Nat PySem.Obj (nat_lit 170) (@PySem.Obj.mk (@PySem.Value.type "tuple") (@Option.none @Nat) (@PySem.Data.seq (@List.toArray @PySem.Value (@List.cons @PySem.Value (@PySem.Value.str (PySem.Str.ofString "number") 408) (@List.cons @PySem.Value (@PySem.Value.str (PySem.Str.ofString "form") 409) []))) 0) (@List.toArray (@Option @PySem.Value) [])))
  (@List.cons (Prod Nat PySem.Obj) (@Prod.mk Nat PySem.Obj (nat_lit 171) (@PySem.Obj.mk (@PySem.Value.type "tuple") (@Option.none @Nat) (@PySem.Data.seq (@List.toArray @PySem.Value []) 0) (@List.toArray (@Option @PySem.Value) [])))
  (@List.cons (Prod Nat PySem.Obj) (@Prod.mk Nat PySem.Obj (nat_lit 173) (@PySem.Obj.mk (@PySem.Value.type "code") (@Option.none @Nat) (@PySem.Data.fields (@List.toArray @PySem.Value (@List.cons @PySem.Value (@PySem.Value.str (PySem.Str.ofString "_law_value") 405) (@List.cons @PySem.Value (@PySem.Value.str (PySem.Str.ofString "_law_value") 406) (@List.cons @PySem.Value (@PySem.Value.str (PySem.Str.ofString "/claim/cut.py") 407) (@List.cons @PySem.Value (@PySem.Value.int (@OfNat.ofNat @Int (nat_lit 100) (@instOfNat (nat_lit 100))) 0) (@List.cons @PySem.Value (@PySem.Value.int (@OfNat.ofNat @Int (nat_lit 1) (@instOfNat (nat_lit 1))) 0) (@List.cons @PySem.Value (@PySem.Value.int (@OfNat.ofNat @Int (nat_lit 0) (@instOfNat (nat_lit 0))) 0) (@List.cons @PySem.Value (@PySem.Value.int (@OfNat.ofNat @Int (nat_lit 0) (@instOfNat (nat_lit 0))) 0) (@List.cons @PySem.Value (@PySem.Value.int (@OfNat.ofNat @Int (nat_lit 3) (@instOfNat (nat_lit 3))) 0) (@List.cons @PySem.Value (@PySem.Value.ref 168) (@List.cons @PySem.Value (@PySem.Value.bool @Bool.true) (@List.cons @PySem.Value (@PySem.Value.int (@OfNat.ofNat @Int (nat_lit 181) (@instOfNat (nat_lit 181))) 0) (@List.cons @PySem.Value (@PySem.Value.ref 169) (@List.cons @PySem.Value @PySem.Value.none (@List.cons @PySem.Value (@PySem.Value.ref 170) (@List.cons @PySem.Value (@PySem.Value.ref 171) (@List.cons @PySem.Value (@PySem.Value.ref 172) (@List.cons @PySem.Value (@PySem.Value.int (@OfNat.ofNat @Int (nat_lit 410) (@instOfNat (nat_lit 410))) 0) (@List.cons @PySem.Value (@PySem.Value.int (@OfNat.ofNat @Int (nat_lit 100) (@instOfNat (nat_lit 100))) 0) (@List.cons @PySem.Value (@PySem.Value.str (PySem.Str.ofString "/claim/cut.py") 411) []))))))))))))))))))))) (@List.toArray (@Option @PySem.Value) [])))
  (@List.cons (Prod Nat PySem.Obj) (@Prod.mk Nat PySem.Obj (nat_lit 174) (@PySem.Obj.mk (@PySem.Value.type "function") (@Option.none @Nat) (@PySem.Data.func (@PySem.FuncData.mk (PySem.Str.ofString "_law_value") (PySem.Str.ofString "_law_value") p174 (PySem.FuncBody.stmts b174) s174 3 [] @PySem.Value.none @PySem.Value.none @PySem.Value.none (@PySem.Value.str (PySem.Str.ofString "law_nz0563_01") 389) (@Option.none @Nat) (@PySem.Value.ref 173) @PySem.Value.none 0)) (@List.toArray (@Option @PySem.Value) [])))
  (@List.cons (Prod Nat PySem.Obj) (@Prod.mk Nat PySem.Obj (nat_lit 175) (@PySem.Obj.mk (@PySem.Value.type "tuple") (@Option.none @Nat) (@PySem.Data.seq (@List.toArray @PySem.Value []) 0) (@List.toArray (@Option @PySem.Value) [])))
  (@List.cons (Prod Nat PySem.Obj) (@Prod.mk Nat PySem.Obj (nat_lit 177) (@PySem.Obj.mk (@PySem.Value.type "tuple") (@Option.none @Nat) (@PySem.Data.seq (@List.toArray @PySem.Value (@List.cons @PySem.Value (@PySem.Value.str (PySem.Str.ofString "name") 416) (@List.cons @PySem.Value (@PySem.Value.str (PySem.Str.ofString "value") 417) (@List.cons @PySem.Value (@PySem.Value.str (PySem.Str.ofString "is_text") 418) [])))) 0) (@List.toArray (@Option @PySem.Value) [])))
  (@List.cons (Prod Nat PySem.Obj) (@Prod.mk Nat PySem.Obj (nat_lit 178) (@PySem.Obj.mk (@PySem.Value.type "tuple") (@Option.none @Nat) (@PySem.Data.seq (@List.toArray @PySem.Value []) 0) (@List.toArray (@Option @PySem.Value) [])))
  (@List.cons (Prod Nat PySem.Obj) (@Prod.mk Nat PySem.Obj (nat_lit 180) (@PySem.Obj.mk (@PySem.Value.type "code") (@Option.none @Nat) (@PySem.Data.fields (@List.toArray @PySem.Value (@List.cons @PySem.Value (@PySem.Value.str (PySem.Str.ofString "_law_fits") 413) (@List.cons @PySem.Value (@PySem.Value.str (PySem.Str.ofString "_law_fits") 414) (@List.cons @PySem.Value (@PySem.Value.str (PySem.Str.ofString "/claim/cut.py") 415) (@List.cons @PySem.Value (@PySem.Value.int (@OfNat.ofNat @Int (nat_lit 105) (@instOfNat (nat_lit 105))) 0) (@List.cons @PySem.Value (@PySem.Value.int (@OfNat.ofNat @Int (nat_lit 2) (@instOfNat (nat_lit 2))) 0) (@List.cons @PySem.Value (@PySem.Value.int (@OfNat.ofNat @Int (nat_lit 0) (@instOfNat (nat_lit 0))) 0) (@List.cons @PySem.Value (@PySem.Value.int (@OfNat.ofNat @Int (nat_lit 0) (@instOfNat (nat_lit 0))) 0) (@List.cons @PySem.Value (@PySem.Value.int (@OfNat.ofNat @Int (nat_lit 3) (@instOfNat (nat_lit 3))) 0) (@List.cons @PySem.Value (@PySem.Value.ref 175) (@List.cons @PySem.Value (@PySem.Value.bool @Bool.true) (@List.cons @PySem.Value (@PySem.Value.int (@OfNat.ofNat @Int (nat_lit 181) (@instOfNat (nat_lit 181))) 0) (@List.cons @PySem.Value (@PySem.Value.ref 176) (@List.cons @PySem.Value @PySem.Value.none (@List.cons @PySem.Value (@PySem.Value.ref 177) (@List.cons @PySem.Value (@PySem.Value.ref 178) (@List.cons @PySem.Value (@PySem.Value.ref 179) (@List.cons @PySem.Value (@PySem.Value.int (@OfNat.ofNat @Int (nat_lit 419) (@instOfNat (nat_lit 419))) 0) (@List.cons @PySem.Value (@PySem.Value.int (@OfNat.ofNat @Int (nat_lit 105) (@instOfNat (nat_lit 105))) 0) (@List.cons @PySem.Value (@PySem.Value.str (PySem.Str.ofString "/claim/cut.py") 420) []))))))))))))))))))))) (@List.toArray (@Option @PySem.Value) [])))
  (@List.cons (Prod Nat PySem.Obj) (@Prod.mk Nat PySem.Obj (nat_lit 181) (@PySem.Obj.mk (@PySem.Value.type "function") (@Option.none @Nat) (@PySem.Data.func (@PySem.FuncData.mk (PySem.Str.ofString "_law_fits") (PySem.Str.ofString "_law_fits") p181 (PySem.FuncBody.stmts b181) s181 3 [] @PySem.Value.none @PySem.Value.none @PySem.Value.none (@PySem.Value.str (PySem.Str.ofString "law_nz0563_01") 389) (@Option.none @Nat) (@PySem.Value.ref 180) @PySem.Value.none 0)) (@List.toArray (@Option @PySem.Value) [])))
  (@List.cons (Prod Nat PySem.Obj) (@Prod.mk Nat PySem.Obj (nat_lit 182) (@PySem.Obj.mk (@PySem.Value.type "tuple") (@Option.none @Nat) (@PySem.Data.seq (@List.toArray @PySem.Value []) 0) (@List.toArray (@Option @PySem.Value) [])))
  (@List.cons (Prod Nat PySem.Obj) (@Prod.mk Nat PySem.Obj (nat_lit 184) (@PySem.Obj.mk (@PySem.Value.type "tuple") (@Option.none @Nat) (@PySem.Data.seq (@List.toArray @PySem.Value (@List.cons @PySem.Value (@PySem.Value.str (PySem.Str.ofString "number") 425) (@List.cons @PySem.Value (@PySem.Value.str (PySem.Str.ofString "spots") 426) []))) 0) (@List.toArray (@Option @PySem.Value) [])))
  (@List.cons (Prod Nat PySem.Obj) (@Prod.mk Nat PySem.Obj (nat_lit 185) (@PySem.Obj.mk (@PySem.Value.type "tuple") (@Option.none @Nat) (@PySem.Data.seq (@List.toArray @PySem.Value []) 0) (@List.toArray (@Option @PySem.Value) [])))
  (@List.cons (Prod Nat PySem.Obj) (@Prod.mk Nat PySem.Obj (nat_lit 187) (@PySem.Obj.mk (@PySem.Value.type "code") (@Option.none @Nat) (@PySem.Data.fields (@List.toArray @PySem.Value (@List.cons @PySem.Value (@PySem.Value.str (PySem.Str.ofString "_law_spots") 422) (@List.cons @PySem.Value (@PySem.Value.str (PySem.Str.ofString "_law_spots") 423) (@List.cons @PySem.Value (@PySem.Value.str (PySem.Str.ofString "/claim/cut.py") 424) (@List.cons @PySem.Value (@PySem.Value.int (@OfNat.ofNat @Int (nat_lit 112) (@instOfNat (nat_lit 112))) 0) (@List.cons @PySem.Value (@PySem.Value.int (@OfNat.ofNat @Int (nat_lit 1) (@instOfNat (nat_lit 1))) 0) (@List.cons @PySem.Value (@PySem.Value.int (@OfNat.ofNat @Int (nat_lit 0) (@instOfNat (nat_lit 0))) 0) (@List.cons @PySem.Value (@PySem.Value.int (@OfNat.ofNat @Int (nat_lit 0) (@instOfNat (nat_lit 0))) 0) (@List.cons @PySem.Value (@PySem.Value.int (@OfNat.ofNat @Int (nat_lit 3) (@instOfNat (nat_lit 3))) 0) (@List.cons @PySem.Value (@PySem.Value.ref 182) (@List.cons @PySem.Value (@PySem.Value.bool @Bool.true) (@List.cons @PySem.Value (@PySem.Value.int (@OfNat.ofNat @Int (nat_lit 181) (@instOfNat (nat_lit 181))) 0) (@List.cons @PySem.Value (@PySem.Value.ref 183) (@List.cons @PySem.Value @PySem.Value.none (@List.cons @PySem.Value (@PySem.Value.ref 184) (@List.cons @PySem.Value (@PySem.Value.ref 185) (@List.cons @PySem.Value (@PySem.Value.ref 186) (@List.cons @PySem.Value (@PySem.Value.int (@OfNat.ofNat @Int (nat_lit 427) (@instOfNat (nat_lit 427))) 0) (@List.cons @PySem.Value (@PySem.Value.int (@OfNat.ofNat @Int (nat_lit 112) (@instOfNat (nat_lit 112))) 0) (@List.cons @PySem.Value (@PySem.Value.str (PySem.Str.ofString "/claim/cut.py") 428) []))))))))))))))))))))) (@List.toArray (@Option @PySem.Value) [])))
  (@List.cons (Prod Nat PySem.Obj) (@Prod.mk Nat PySem.Obj (nat_lit 188) (@PySem.Obj.mk (@PySem.Value.type "function") (@Option.none @Nat) (@PySem.Data.func (@PySem.FuncData.mk (PySem.Str.ofString "_law_spots") (PySem.Str.ofString "_law_spots") p188 (PySem.FuncBody.stmts b188) s188 3 [] @PySem.Value.none @PySem.Value.none @PySem.Value.none (@PySem.Value.str (PySem.Str.ofString "law_nz0563_01") 389) (@Option.none @Nat) (@PySem.Value.ref 187) @PySem.Value.none 0)) (@List.toArray (@Option @PySem.Value) [])))
  (@List.cons (Prod Nat PySem.Obj) (@Prod.mk Nat PySem.Obj (nat_lit 189) (@PySem.Obj.mk (@PySem.Value.type "tuple") (@Option.none @Nat) (@PySem.Data.seq (@List.toArray @PySem.Value []) 0) (@List.toArray (@Option @PySem.Value) [])))
  (@List.cons (Prod Nat PySem.Obj) (@Prod.mk Nat PySem.Obj (nat_lit 191) (@PySem.Obj.mk (@PySem.Value.type "tuple") (@Option.none @Nat) (@PySem.Data.seq (@List.toArray @PySem.Value (@List.cons @PySem.Value (@PySem.Value.str (PySem.Str.ofString "number") 433) [])) 0) (@List.toArray (@Option @PySem.Value) [])))
  (@List.cons (Prod Nat PySem.Obj) (@Prod.mk Nat PySem.Obj (nat_lit 192) (@PySem.Obj.mk (@PySem.Value.type "tuple") (@Option.none @Nat) (@PySem.Data.seq (@List.toArray @PySem.Value []) 0) (@List.toArray (@Option @PySem.Value) [])))
  (@List.cons (Prod Nat PySem.Obj) (@Prod.mk Nat PySem.Obj (nat_lit 194) (@PySem.Obj.mk (@PySem.Value.type "code") (@Option.none @Nat) (@PySem.Data.fields (@List.toArray @PySem.Value (@List.cons @PySem.Value (@PySem.Value.str (PySem.Str.ofString "_law_bounds") 430) (@List.cons @PySem.Value (@PySem.Value.str (PySem.Str.ofString "_law_bounds") 431) (@List.cons @PySem.Value (@PySem.Value.str (PySem.Str.ofString "/claim/cut.py") 432) (@List.cons @PySem.Value (@PySem.Value.int (@OfNat.ofNat @Int (nat_lit 115) (@instOfNat (nat_lit 115))) 0) (@List.cons @PySem.Value (@PySem.Value.int (@OfNat.ofNat @Int (nat_lit 1) (@instOfNat (nat_lit 1))) 0) (@List.cons @PySem.Value (@PySem.Value.int (@OfNat.ofNat @Int (nat_lit 0) (@instOfNat (nat_lit 0))) 0) (@List.cons @PySem.Value (@PySem.Value.int (@OfNat.ofNat @Int (nat_lit 0) (@instOfNat (nat_lit 0))) 0) (@List.cons @PySem.Value (@PySem.Value.int (@OfNat.ofNat @Int (nat_lit 3) (@instOfNat (nat_lit 3))) 0) (@List.cons @PySem.Value (@PySem.Value.ref 189) (@List.cons @PySem.Value (@PySem.Value.bool @Bool.true) (@List.cons @PySem.Value (@PySem.Value.int (@OfNat.ofNat @Int (nat_lit 181) (@instOfNat (nat_lit 181))) 0) (@List.cons @PySem.Value (@PySem.Value.ref 190) (@List.cons @PySem.Value @PySem.Value.none (@List.cons @PySem.Value (@PySem.Value.ref 191) (@List.cons @PySem.Value (@PySem.Value.ref 192) (@List.cons @PySem.Value (@PySem.Value.ref 193) (@List.cons @PySem.Value (@PySem.Value.int (@OfNat.ofNat @Int (nat_lit 434) (@instOfNat (nat_lit 434))) 0) (@List.cons @PySem.Value (@PySem.Value.int (@OfNat.ofNat @Int (nat_lit 115) (@instOfNat (nat_lit 115))) 0) (@List.cons @PySem.Value (@PySem.Value.str (PySem.Str.ofString "/claim/cut.py") 435) []))))))))))))))))))))) (@List.toArray (@Option @PySem.Value) [])))
  (@List.cons (Prod Nat PySem.Obj) (@Prod.mk Nat PySem.Obj (nat_lit 195) (@PySem.Obj.mk (@PySem.Value.type "function") (@Option.none @Nat) (@PySem.Data.func (@PySem.FuncData.mk (PySem.Str.ofString "_law_bounds") (PySem.Str.ofString "_law_bounds") p195 (PySem.FuncBody.stmts b195) s195 3 [] @PySem.Value.none @PySem.Value.none @PySem.Value.none (@PySem.Value.str (PySem.Str.ofString "law_nz0563_01") 389) (@Option.none @Nat) (@PySem.Value.ref 194) @PySem.Value.none 0)) (@List.toArray (@Option @PySem.Value) [])))
  (@List.cons (Prod Nat PySem.Obj) (@Prod.mk Nat PySem.Obj (nat_lit 196) (@PySem.Obj.mk (@PySem.Value.type "tuple") (@Option.none @Nat) (@PySem.Data.seq (@List.toArray @PySem.Value []) 0) (@List.toArray (@Option @PySem.Value) [])))
  (@List.cons (Prod Nat PySem.Obj) (@Prod.mk Nat PySem.Obj (nat_lit 198) (@PySem.Obj.mk (@PySem.Value.type "tuple") (@Option.none @Nat) (@PySem.Data.seq (@List.toArray @PySem.Value (@List.cons @PySem.Value (@PySem.Value.str (PySem.Str.ofString "book") 440) (@List.cons @PySem.Value (@PySem.Value.str (PySem.Str.ofString "name") 441) (@List.cons @PySem.Value (@PySem.Value.str (PySem.Str.ofString "bounds") 442) (@List.cons @PySem.Value (@PySem.Value.str (PySem.Str.ofString "many") 443) (@List.cons @PySem.Value (@PySem.Value.str (PySem.Str.ofString "bound") 444) [])))))) 0) (@List.toArray (@Option @PySem.Value) [])))
  (@List.cons (Prod Nat PySem.Obj) (@Prod.mk Nat PySem.Obj (nat_lit 199) (@PySem.Obj.mk (@PySem.Value.type "tuple") (@Option.none @Nat) (@PySem.Data.seq (@List.toArray @PySem.Value []) 0) (@List.toArray (@Option @PySem.Value) [])))
  (@List.cons (Prod Nat PySem.Obj) (@Prod.mk Nat PySem.Obj (nat_lit 201) (@PySem.Obj.mk (@PySem.Value.type "code") (@Option.none @Nat) (@PySem.Data.fields (@List.toArray @PySem.Value (@List.cons @PySem.Value (@PySem.Value.str (PySem.Str.ofString "_law_made") 437) (@List.cons @PySem.Value (@PySem.Value.str (PySem.Str.ofString "_law_made") 438) (@List.cons @PySem.Value (@PySem.Value.str (PySem.Str.ofString "/claim/cut.py") 439) (@List.cons @PySem.Value (@PySem.Value.int (@OfNat.ofNat @Int (nat_lit 117) (@instOfNat (nat_lit 117))) 0) (@List.cons @PySem.Value (@PySem.Value.int (@OfNat.ofNat @Int (nat_lit 3) (@instOfNat (nat_lit 3))) 0) (@List.cons @PySem.Value (@PySem.Value.int (@OfNat.ofNat @Int (nat_lit 0) (@instOfNat (nat_lit 0))) 0) (@List.cons @PySem.Value (@PySem.Value.int (@OfNat.ofNat @Int (nat_lit 0) (@instOfNat (nat_lit 0))) 0) (@List.cons @PySem.Value (@PySem.Value.int (@OfNat.ofNat @Int (nat_lit 3) (@instOfNat (nat_lit 3))) 0) (@List.cons @PySem.Value (@PySem.Value.ref 196) (@List.cons @PySem.Value (@PySem.Value.bool @Bool.true) (@List.cons @PySem.Value (@PySem.Value.int (@OfNat.ofNat @Int (nat_lit 181) (@instOfNat (nat_lit 181))) 0) (@List.cons @PySem.Value (@PySem.Value.ref 197) (@List.cons @PySem.Value @PySem.Value.none (@List.cons @PySem.Value (@PySem.Value.ref 198) (@List.cons @PySem.Value (@PySem.Value.ref 199) (@List.cons @PySem.Value (@PySem.Value.ref 200) (@List.cons @PySem.Value (@PySem.Value.int (@OfNat.ofNat @Int (nat_lit 445) (@instOfNat (nat_lit 445))) 0) (@List.cons @PySem.Value (@PySem.Value.int (@OfNat.ofNat @Int (nat_lit 117) (@instOfNat (nat_lit 117))) 0) (@List.cons @PySem.Value (@PySem.Value.str (PySem.Str.ofString "/claim/cut.py") 446) []))))))))))))))))))))) (@List.toArray (@Option @PySem.Value) [])))
  (@List.cons (Prod Nat PySem.Obj) (@Prod.mk Nat PySem.Obj (nat_lit 202) (@PySem.Obj.mk (@PySem.Value.type "function") (@Option.none @Nat) (@PySem.Data.func (@PySem.FuncData.mk (PySem.Str.ofString "_law_made") (PySem.Str.ofString "_law_made") p202 (PySem.FuncBody.stmts b202) s202 3 [] @PySem.Value.none @PySem.Value.none @PySem.Value.none (@PySem.Value.str (PySem.Str.ofString "law_nz0563_01") 389) (@Option.none @Nat) (@PySem.Value.ref 201) @PySem.Value.none 0)) (@List.toArray (@Option @PySem.Value) [])))
  (@List.cons (Prod Nat PySem.Obj) (@Prod.mk Nat PySem.Obj (nat_lit 203) (@PySem.Obj.mk (@PySem.Value.type "tuple") (@Option.none @Nat) (@PySem.Data.seq (@List.toArray @PySem.Value []) 0) (@List.toArray (@Option @PySem.Value) [])))
  (@List.cons (Prod Nat PySem.Obj) (@Prod.mk Nat PySem.Obj (nat_lit 205) (@PySem.Obj.mk (@PySem.Value.type "tuple") (@Option.none @Nat) (@PySem.Data.seq (@List.toArray @PySem.Value (@List.cons @PySem.Value (@PySem.Value.str (PySem.Str.ofString "book") 451) (@List.cons @PySem.Value (@PySem.Value.str (PySem.Str.ofString "name") 452) (@List.cons @PySem.Value (@PySem.Value.str (PySem.Str.ofString "spots") 453) (@List.cons @PySem.Value (@PySem.Value.str (PySem.Str.ofString "bounds") 454) (@List.cons @PySem.Value (@PySem.Value.str (PySem.Str.ofString "bound") 455) (@List.cons @PySem.Value (@PySem.Value.str (PySem.Str.ofString "spot") 456) []))))))) 0) (@List.toArray (@Option @PySem.Value) [])))
  (@List.cons (Prod Nat PySem.Obj) (@Prod.mk Nat PySem.Obj (nat_lit 206) (@PySem.Obj.mk (@PySem.Value.type "tuple") (@Option.none @Nat) (@PySem.Data.seq (@List.toArray @PySem.Value []) 0) (@List.toArray (@Option @PySem.Value) [])))
  (@List.cons (Prod Nat PySem.Obj) (@Prod.mk Nat PySem.Obj (nat_lit 208) (@PySem.Obj.mk (@PySem.Value.type "code") (@Option.none @Nat) (@PySem.Data.fields (@List.toArray @PySem.Value (@List.cons @PySem.Value (@PySem.Value.str (PySem.Str.ofString "_law_asked") 448) (@List.cons @PySem.Value (@PySem.Value.str (PySem.Str.ofString "_law_asked") 449) (@List.cons @PySem.Value (@PySem.Value.str (PySem.Str.ofString "/claim/cut.py") 450) (@List.cons @PySem.Value (@PySem.Value.int (@OfNat.ofNat @Int (nat_lit 127) (@instOfNat (nat_lit 127))) 0) (@List.cons @PySem.Value (@PySem.Value.int (@OfNat.ofNat @Int (nat_lit 3) (@instOfNat (nat_lit 3))) 0) (@List.cons @PySem.Value (@PySem.Value.int (@OfNat.ofNat @Int (nat_lit 0) (@instOfNat (nat_lit 0))) 0) (@List.cons @PySem.Value (@PySem.Value.int (@OfNat.ofNat @Int (nat_lit 0) (@instOfNat (nat_lit 0))) 0) (@List.cons @PySem.Value (@PySem.Value.int (@OfNat.ofNat @Int (nat_lit 3) (@instOfNat (nat_lit 3))) 0) (@List.cons @PySem.Value (@PySem.Value.ref 203) (@List.cons @PySem.Value (@PySem.Value.bool @Bool.true) (@List.cons @PySem.Value (@PySem.Value.int (@OfNat.ofNat @Int (nat_lit 181) (@instOfNat (nat_lit 181))) 0) (@List.cons @PySem.Value (@PySem.Value.ref 204) (@List.cons @PySem.Value @PySem.Value.none (@List.cons @PySem.Value (@PySem.Value.ref 205) (@List.cons @PySem.Value (@PySem.Value.ref 206) (@List.cons @PySem.Value (@PySem.Value.ref 207) (@List.cons @PySem.Value (@PySem.Value.int (@OfNat.ofNat @Int (nat_lit 457) (@instOfNat (nat_lit 457))) 0) (@List.cons @PySem.Value (@PySem.Value.int (@OfNat.ofNat @Int (nat_lit 127) (@instOfNat (nat_lit 127))) 0) (@List.cons @PySem.Value (@PySem.Value.str (PySem.Str.ofString "/claim/cut.py") 458) []))))))))))))))))))))) (@List.toArray (@Option @PySem.Value) [])))
  (@List.cons (Prod Nat PySem.Obj) (@Prod.mk Nat PySem.Obj (nat_lit 209) (@PySem.Obj.mk (@PySem.Value.type "function") (@Option.none @Nat) (@PySem.Data.func (@PySem.FuncData.mk (PySem.Str.ofString "_law_asked") (PySem.Str.ofString "_law_asked") p209 (PySem.FuncBody.stmts b209) s209 3 [] @PySem.Value.none @PySem.Value.none @PySem.Value.none (@PySem.Value.str (PySem.Str.ofString "law_nz0563_01") 389) (@Option.none @Nat) (@PySem.Value.ref 208) @PySem.Value.none 0)) (@List.toArray (@Option @PySem.Value) [])))
  (@List.cons (Prod Nat PySem.Obj) (@Prod.mk Nat PySem.Obj (nat_lit 210) (@PySem.Obj.mk (@PySem.Value.type "tuple") (@Option.none @Nat) (@PySem.Data.seq (@List.toArray @PySem.Value []) 0) (@List.toArray (@Option @PySem.Value) [])))
  (@List.cons (Prod Nat PySem.Obj) (@Prod.mk Nat PySem.Obj (nat_lit 212) (@PySem.Obj.mk (@PySem.Value.type "tuple") (@Option.none @Nat) (@PySem.Data.seq (@List.toArray @PySem.Value (@List.cons @PySem.Value (@PySem.Value.str (PySem.Str.ofString "store") 463) (@List.cons @PySem.Value (@PySem.Value.str (PySem.Str.ofString "kept_now") 464) (@List.cons @PySem.Value (@PySem.Value.str (PySem.Str.ofString "book") 465) (@List.cons @PySem.Value (@PySem.Value.str (PySem.Str.ofString "number") 466) (@List.cons @PySem.Value (@PySem.Value.str (PySem.Str.ofString "form") 467) (@List.cons @PySem.Value (@PySem.Value.str (PySem.Str.ofString "rest") 468) (@List.cons @PySem.Value (@PySem.Value.str (PySem.Str.ofString "nothing") 469) (@List.cons @PySem.Value (@PySem.Value.str (PySem.Str.ofString "bad") 470) (@List.cons @PySem.Value (@PySem.Value.str (PySem.Str.ofString "due") 471) [])))))))))) 0) (@List.toArray (@Option @PySem.Value) [])))
  (@List.cons (Prod Nat PySem.Obj) (@Prod.mk Nat PySem.Obj (nat_lit 213) (@PySem.Obj.mk (@PySem.Value.type "tuple") (@Option.none @Nat) (@PySem.Data.seq (@List.toArray @PySem.Value (@List.cons @PySem.Value (@PySem.Value.str (PySem.Str.ofString "store") 472) (@List.cons @PySem.Value (@PySem.Value.str (PySem.Str.ofString "bounds") 473) (@List.cons @PySem.Value (@PySem.Value.str (PySem.Str.ofString "name") 474) (@List.cons @PySem.Value (@PySem.Value.str (PySem.Str.ofString "spots") 475) (@List.cons @PySem.Value (@PySem.Value.str (PySem.Str.ofString "value") 476) [])))))) 0) (@List.toArray (@Option @PySem.Value) [])))
  (@List.cons (Prod Nat PySem.Obj) (@Prod.mk Nat PySem.Obj (nat_lit 215) (@PySem.Obj.mk (@PySem.Value.type "code") (@Option.none @Nat) (@PySem.Data.fields (@List.toArray @PySem.Value (@List.cons @PySem.Value (@PySem.Value.str (PySem.Str.ofString "_law_deed") 460) (@List.cons @PySem.Value (@PySem.Value.str (PySem.Str.ofString "_law_deed") 461) (@List.cons @PySem.Value (@PySem.Value.str (PySem.Str.ofString "/claim/cut.py") 462) (@List.cons @PySem.Value (@PySem.Value.int (@OfNat.ofNat @Int (nat_lit 139) (@instOfNat (nat_lit 139))) 0) (@List.cons @PySem.Value (@PySem.Value.int (@OfNat.ofNat @Int (nat_lit 4) (@instOfNat (nat_lit 4))) 0) (@List.cons @PySem.Value (@PySem.Value.int (@OfNat.ofNat @Int (nat_lit 0) (@instOfNat (nat_lit 0))) 0) (@List.cons @PySem.Value (@PySem.Value.int (@OfNat.ofNat @Int (nat_lit 0) (@instOfNat (nat_lit 0))) 0) (@List.cons @PySem.Value (@PySem.Value.int (@OfNat.ofNat @Int (nat_lit 3) (@instOfNat (nat_lit 3))) 0) (@List.cons @PySem.Value (@PySem.Value.ref 210) (@List.cons @PySem.Value (@PySem.Value.bool @Bool.true) (@List.cons @PySem.Value (@PySem.Value.int (@OfNat.ofNat @Int (nat_lit 181) (@instOfNat (nat_lit 181))) 0) (@List.cons @PySem.Value (@PySem.Value.ref 211) (@List.cons @PySem.Value @PySem.Value.none (@List.cons @PySem.Value (@PySem.Value.ref 212) (@List.cons @PySem.Value (@PySem.Value.ref 213) (@List.cons @PySem.Value (@PySem.Value.ref 214) (@List.cons @PySem.Value (@PySem.Value.int (@OfNat.ofNat @Int (nat_lit 477) (@instOfNat (nat_lit 477))) 0) (@List.cons @PySem.Value (@PySem.Value.int (@OfNat.ofNat @Int (nat_lit 139) (@instOfNat (nat_lit 139))) 0) (@List.cons @PySem.Value (@PySem.Value.str (PySem.Str.ofString "/claim/cut.py") 478) []))))))))))))))))))))) (@List.toArray (@Option @PySem.Value) [])))
  (@List.cons (Prod Nat PySem.Obj) (@Prod.mk Nat PySem.Obj (nat_lit 216) (@PySem.Obj.mk (@PySem.Value.type "function") (@Option.none @Nat) (@PySem.Data.func (@PySem.FuncData.mk (PySem.Str.ofString "_law_deed") (PySem.Str.ofString "_law_deed") p216 (PySem.FuncBody.stmts b216) s216 3 [] @PySem.Value.none @PySem.Value.none @PySem.Value.none (@PySem.Value.str (PySem.Str.ofString "law_nz0563_01") 389) (@Option.none @Nat) (@PySem.Value.ref 215) @PySem.Value.none 0)) (@List.toArray (@Option @PySem.Value) [])))
  (@List.cons (Prod Nat PySem.Obj) (@Prod.mk Nat PySem.Obj (nat_lit 217) (@PySem.Obj.mk (@PySem.Value.type "tuple") (@Option.none @Nat) (@PySem.Data.seq (@List.toArray @PySem.Value []) 0) (@List.toArray (@Option @PySem.Value) [])))
  (@List.cons (Prod Nat PySem.Obj) (@Prod.mk Nat PySem.Obj (nat_lit 220) (@PySem.Obj.mk (@PySem.Value.type "code") (@Option.none @Nat) (@PySem.Data.fields (@List.toArray @PySem.Value (@List.cons @PySem.Value (@PySem.Value.str (PySem.Str.ofString "_law_all_right") 480) (@List.cons @PySem.Value (@PySem.Value.str (PySem.Str.ofString "_law_all_right") 481) (@List.cons @PySem.Value (@PySem.Value.str (PySem.Str.ofString "/claim/cut.py") 482) (@List.cons @PySem.Value (@PySem.Value.int (@OfNat.ofNat @Int (nat_lit 166) (@instOfNat (nat_lit 166))) 0) (@List.cons @PySem.Value (@PySem.Value.int (@OfNat.ofNat @Int (nat_lit 3) (@instOfNat (nat_lit 3))) 0) (@List.cons @PySem.Value (@PySem.Value.int (@OfNat.ofNat @Int (nat_lit 0) (@instOfNat (nat_lit 0))) 0) (@List.cons @PySem.Value (@PySem.Value.int (@OfNat.ofNat @Int (nat_lit 0) (@instOfNat (nat_lit 0))) 0) (@List.cons @PySem.Value (@PySem.Value.int (@OfNat.ofNat @Int (nat_lit 3) (@instOfNat (nat_lit 3))) 0) (@List.cons @PySem.Value (@PySem.Value.ref 217) (@List.cons @PySem.Value (@PySem.Value.bool @Bool.true) (@List.cons @PySem.Value (@PySem.Value.int (@OfNat.ofNat @Int (nat_lit 181) (@instOfNat (nat_lit 181))) 0) (@List.cons @PySem.Value (@PySem.Value.ref 218) (@List.cons @PySem.Value @PySem.Value.none (@List.cons @PySem.Value @PySem.Value.none (@List.cons @PySem.Value @PySem.Value.none (@List.cons @PySem.Value (@PySem.Value.ref 219) (@List.cons @PySem.Value (@PySem.Value.int (@OfNat.ofNat @Int (nat_lit 483) (@instOfNat (nat_lit 483))) 0) (@List.cons @PySem.Value (@PySem.Value.int (@OfNat.ofNat @Int (nat_lit 166) (@instOfNat (nat_lit 166))) 0) (@List.cons @PySem.Value (@PySem.Value.str (PySem.Str.ofString "/claim/cut.py") 484) []))))))))))))))))))))) (@List.toArray (@Option @PySem.Value) [])))
  (@List.cons (Prod Nat PySem.Obj) (@Prod.mk Nat PySem.Obj (nat_lit 221) (@PySem.Obj.mk (@PySem.Value.type "function") (@Option.none @Nat) (@PySem.Data.func (@PySem.FuncData.mk (PySem.Str.ofString "_law_all_right") (PySem.Str.ofString "_law_all_right") p221 (PySem.FuncBody.stmts b221) s221 3 [] @PySem.Value.none @PySem.Value.none @PySem.Value.none (@PySem.Value.str (PySem.Str.ofString "law_nz0563_01") 389) (@Option.none @Nat) (@PySem.Value.ref 220) @PySem.Value.none 0)) (@List.toArray (@Option @PySem.Value) [])))
  (@List.cons (Prod Nat PySem.Obj) (@Prod.mk Nat PySem.Obj (nat_lit 222) (@PySem.Obj.mk (@PySem.Value.type "tuple") (@Option.none @Nat) (@PySem.Data.seq (@List.toArray @PySem.Value []) 0) (@List.toArray (@Option @PySem.Value) [])))
  (@List.cons (Prod Nat PySem.Obj) (@Prod.mk Nat PySem.Obj (nat_lit 225) (@PySem.Obj.mk (@PySem.Value.type "code") (@Option.none @Nat) (@PySem.Data.fields (@List.toArray @PySem.Value (@List.cons @PySem.Value (@PySem.Value.str (PySem.Str.ofString "law") 486) (@List.cons @PySem.Value (@PySem.Value.str (PySem.Str.ofString "law") 487) (@List.cons @PySem.Value (@PySem.Value.str (PySem.Str.ofString "/claim/cut.py") 488) (@List.cons @PySem.Value (@PySem.Value.int (@OfNat.ofNat @Int (nat_lit 182) (@instOfNat (nat_lit 182))) 0) (@List.cons @PySem.Value (@PySem.Value.int (@OfNat.ofNat @Int (nat_lit 1) (@instOfNat (nat_lit 1))) 0) (@List.cons @PySem.Value (@PySem.Value.int (@OfNat.ofNat @Int (nat_lit 0) (@instOfNat (nat_lit 0))) 0) (@List.cons @PySem.Value (@PySem.Value.int (@OfNat.ofNat @Int (nat_lit 0) (@instOfNat (nat_lit 0))) 0) (@List.cons @PySem.Value (@PySem.Value.int (@OfNat.ofNat @Int (nat_lit 3) (@instOfNat (nat_lit 3))) 0) (@List.cons @PySem.Value (@PySem.Value.ref 222) (@List.cons @PySem.Value (@PySem.Value.bool @Bool.true) (@List.cons @PySem.Value (@PySem.Value.int (@OfNat.ofNat @Int (nat_lit 181) (@instOfNat (nat_lit 181))) 0) (@List.cons @PySem.Value (@PySem.Value.ref 223) (@List.cons @PySem.Value @PySem.Value.none (@List.cons @PySem.Value @PySem.Value.none (@List.cons @PySem.Value @PySem.Value.none (@List.cons @PySem.Value (@PySem.Value.ref 224) (@List.cons @PySem.Value (@PySem.Value.int (@OfNat.ofNat @Int (nat_lit 489) (@instOfNat (nat_lit 489))) 0) (@List.cons @PySem.Value (@PySem.Value.int (@OfNat.ofNat @Int (nat_lit 182) (@instOfNat (nat_lit 182))) 0) (@List.cons @PySem.Value (@PySem.Value.str (PySem.Str.ofString "/claim/cut.py") 490) []))))))))))))))))))))) (@List.toArray (@Option @PySem.Value) [])))
  (@List.cons (Prod Nat PySem.Obj) (@Prod.mk Nat PySem.Obj (nat_lit 226) (@PySem.Obj.mk (@PySem.Value.type "function") (@Option.none @Nat) (@PySem.Data.func (@PySem.FuncData.mk (PySem.Str.ofString "law") (PySem.Str.ofString "law") p226 (PySem.FuncBody.stmts b226) s226 3 [] @PySem.Value.none @PySem.Value.none @PySem.Value.none (@PySem.Value.str (PySem.Str.ofString "law_nz0563_01") 389) (@Option.none @Nat) (@PySem.Value.ref 225) @PySem.Value.none 0)) (@List.toArray (@Option @PySem.Value) [])))
  (@List.nil (Prod Nat PySem.Obj)))))))))))))))))))))))))))))))))))))))))))))))))))))))))))))))))))))))))))))))))))))))))))))))))))))))))))))))))))))))))))))))))))))))))))))))))
/-- the written part of the heap behind the top -/
noncomputable def hd.heap_39 : Params → Frag := by
  refine' (fun (_ : (prg.main.body = (.Assign _ _ _ ::
    .ClassDef _ _ _ [.FunctionDef _ ?p28 ?b28 _ _ _ ?s28 _ _ _] _ _ _ _ _ _ _ ::
    .Assign _ _ _ ::
    .Assign _ _ _ ::
    .Assign _ _ _ ::
    .Assign _ _ _ ::
    .FunctionDef _ ?p41 ?b41 _ _ _ ?s41 _ _ _ ::
    .FunctionDef _ ?p48 ?b48 _ _ _ ?s48 _ _ _ ::
    .FunctionDef _ ?p55 ?b55 _ _ _ ?s55 _ _ _ ::
    .FunctionDef _ ?p62 ?b62 _ _ _ ?s62 _ _ _ ::
    .FunctionDef _ ?p69 ?b69 _ _ _ ?s69 _ _ _ ::
    .Assign _ _ _ ::
    .Assign _ _ _ ::
    .Assign _ _ _ ::
    .Assign _ _ _ ::
    .ClassDef _ _ _ [.FunctionDef _ ?p83 ?b83 _ _ _ ?s83 _ _ _, .FunctionDef _ ?p90 ?b90 _ _ _ ?s90 _ _ _, .FunctionDef _ ?p97 ?b97 _ _ _ ?s97 _ _ _, .FunctionDef _ ?p104 ?b104 _ _ _ ?s104 _ _ _] _ _ _ _ _ _ _ ::
    .FunctionDef _ ?p118 ?b118 _ _ _ ?s118 _ _ _ ::
    .FunctionDef _ ?p125 ?b125 _ _ _ ?s125 _ _ _ ::
    .FunctionDef _ ?p132 ?b132 _ _ _ ?s132 _ _ _ ::
    .FunctionDef _ ?p139 ?b139 _ _ _ ?s139 _ _ _ ::
    .FunctionDef _ ?p146 ?b146 _ _ _ ?s146 _ _ _ ::
    .FunctionDef _ ?p153 ?b153 _ _ _ ?s153 _ _ _ ::
    .Assign _ _ _ ::
    .FunctionDef _ ?p160 ?b160 _ _ _ ?s160 _ _ _ ::
    .FunctionDef _ ?p167 ?b167 _ _ _ ?s167 _ _ _ ::
    .FunctionDef _ ?p174 ?b174 _ _ _ ?s174 _ _ _ ::
    .FunctionDef _ ?p181 ?b181 _ _ _ ?s181 _ _ _ ::
    .FunctionDef _ ?p188 ?b188 _ _ _ ?s188 _ _ _ ::
    .FunctionDef _ ?p195 ?b195 _ _ _ ?s195 _ _ _ ::
    .FunctionDef _ ?p202 ?b202 _ _ _ ?s202 _ _ _ ::
    .FunctionDef _ ?p209 ?b209 _ _ _ ?s209 _ _ _ ::
    .FunctionDef _ ?p216 ?b216 _ _ _ ?s216 _ _ _ ::
    .FunctionDef _ ?p221 ?b221 _ _ _ ?s221 _ _ _ ::
    .FunctionDef _ ?p226 ?b226 _ _ _ ?s226 _ _ _ :: [])) ∧ (?x : Params → Frag) = heapOf ?p28 ?b28 ?s28 ?p41 ?b41 ?s41 ?p48 ?b48 ?s48 ?p55 ?b55 ?s55 ?p62 ?b62 ?s62 ?p69 ?b69 ?s69 ?p83 ?b83 ?s83 ?p90 ?b90 ?s90 ?p97 ?b97 ?s97 ?p104 ?b104 ?s104 ?p118 ?b118 ?s118 ?p125 ?b125 ?s125 ?p132 ?b132 ?s132 ?p139 ?b139 ?s139 ?p146 ?b146 ?s146 ?p153 ?b153 ?s153 ?p160 ?b160 ?s160 ?p167 ?b167 ?s167 ?p174 ?b174 ?s174 ?p181 ?b181 ?s181 ?p188 ?b188 ?s188 ?p195 ?b195 ?s195 ?p202 ?b202 ?s202 ?p209 ?b209 ?s209 ?p216 ?b216 ?s216 ?p221 ?b221 ?s221 ?p226 ?b226 ?s226) => ?x) ?y
  case y => exact ⟨by with_unfolding_all rfl, by delta heapOf; exact rfl⟩
noncomputable def viewBody : List Stmt := by
  refine' (fun (_ : prg.main.body = (?c0 :: ?c1 :: ?c2 :: ?c3 :: ?c4 :: ?c5 :: ?c6 :: ?c7 :: ?c8 :: ?c9 :: ?c10 :: ?c11 :: ?c12 :: ?c13 :: ?c14 :: ?c15 :: ?c16 :: ?c17 :: ?c18 :: ?c19 :: ?c20 :: ?c21 :: ?c22 :: ?c23 :: ?c24 :: ?c25 :: ?c26 :: ?c27 :: ?c28 :: ?c29 :: ?c30 :: ?c31 :: ?c32 :: ?c33 :: [])) => ?c1 :: ?c3 :: ?c4 :: ?c5 :: ?c6 :: ?c7 :: ?c8 :: ?c9 :: ?c10 :: ?c12 :: ?c13 :: ?c14 :: ?c15 :: ?c16 :: ?c17 :: ?c18 :: ?c19 :: ?c20 :: ?c21 :: ?c23 :: ?c24 :: ?c25 :: ?c26 :: ?c27 :: ?c28 :: ?c29 :: ?c30 :: ?c31 :: ?c32 :: ?c33 :: []) ?y
  case y => with_unfolding_all rfl
noncomputable def view : Program := { prg with main := { prg.main with body := viewBody } }
noncomputable abbrev asL : List Addr := nat_lit 2 :: nat_lit 3 :: nat_lit 15 :: nat_lit 22 :: nat_lit 24 :: nat_lit 25 :: nat_lit 27 :: nat_lit 28 :: nat_lit 29 :: nat_lit 30 :: nat_lit 31 :: nat_lit 32 :: nat_lit 35 :: nat_lit 37 :: nat_lit 38 :: nat_lit 40 :: nat_lit 41 :: nat_lit 42 :: nat_lit 44 :: nat_lit 45 :: nat_lit 47 :: nat_lit 48 :: nat_lit 49 :: nat_lit 51 :: nat_lit 52 :: nat_lit 54 :: nat_lit 55 :: nat_lit 56 :: nat_lit 58 :: nat_lit 59 :: nat_lit 61 :: nat_lit 62 :: nat_lit 63 :: nat_lit 65 :: nat_lit 66 :: nat_lit 68 :: nat_lit 69 :: nat_lit 77 :: nat_lit 79 :: nat_lit 80 :: nat_lit 82 :: nat_lit 83 :: nat_lit 84 :: nat_lit 86 :: nat_lit 87 :: nat_lit 89 :: nat_lit 90 :: nat_lit 91 :: nat_lit 93 :: nat_lit 94 :: nat_lit 96 :: nat_lit 97 :: nat_lit 98 :: nat_lit 100 :: nat_lit 101 :: nat_lit 103 :: nat_lit 104 :: nat_lit 105 :: nat_lit 106 :: nat_lit 107 :: nat_lit 108 :: nat_lit 109 :: nat_lit 112 :: nat_lit 114 :: nat_lit 115 :: nat_lit 117 :: nat_lit 118 :: nat_lit 119 :: nat_lit 121 :: nat_lit 122 :: nat_lit 124 :: nat_lit 125 :: nat_lit 126 :: nat_lit 128 :: nat_lit 129 :: nat_lit 131 :: nat_lit 132 :: nat_lit 133 :: nat_lit 135 :: nat_lit 136 :: nat_lit 138 :: nat_lit 139 :: nat_lit 140 :: nat_lit 142 :: nat_lit 143 :: nat_lit 145 :: nat_lit 146 :: nat_lit 147 :: nat_lit 149 :: nat_lit 150 :: nat_lit 152 :: nat_lit 153 :: nat_lit 154 :: nat_lit 156 :: nat_lit 157 :: nat_lit 159 :: nat_lit 160 :: nat_lit 161 :: nat_lit 163 :: nat_lit 164 :: nat_lit 166 :: nat_lit 167 :: nat_lit 168 :: nat_lit 170 :: nat_lit 171 :: nat_lit 173 :: nat_lit 174 :: nat_lit 175 :: nat_lit 177 :: nat_lit 178 :: nat_lit 180 :: nat_lit 181 :: nat_lit 182 :: nat_lit 184 :: nat_lit 185 :: nat_lit 187 :: nat_lit 188 :: nat_lit 189 :: nat_lit 191 :: nat_lit 192 :: nat_lit 194 :: nat_lit 195 :: nat_lit 196 :: nat_lit 198 :: nat_lit 199 :: nat_lit 201 :: nat_lit 202 :: nat_lit 203 :: nat_lit 205 :: nat_lit 206 :: nat_lit 208 :: nat_lit 209 :: nat_lit 210 :: nat_lit 212 :: nat_lit 213 :: nat_lit 215 :: nat_lit 216 :: nat_lit 217 :: nat_lit 220 :: nat_lit 221 :: nat_lit 222 :: nat_lit 225 :: nat_lit 226 :: []
noncomputable abbrev Hk : Hook := kmHook hd.heap_39 asL (fun _ => by kernel_rfl) [211]
theorem head_left : LeftO prg view [] (fun s => xlAt view [] s && recOk (RowW.records PySem.Challenge.rw_nz0563_01.row.toRowW) s) (Hook.obs Hk) (Hook.val Hk) 2772 := by
  intro w
  kernel_rfl
theorem hd {d : DefRec} (hdef : defOf view "law" = some (d, [])) (hp : prg.theDef "law" = some (d.params, d.body, d.scope)) (hk : kwWritten? d.params.kwonlyargs d.params.kw_defaults = some [])
    (walk : WalkO view [] (XL view []) Hk.says PySem.Challenge.rw_nz0563_01.row.toRowW d [] fun f vs => call f vs) : PySem.Challenge.rw_nz0563_01.Holds := by
  w_on
  refine holds_law (by decide +kernel) fun said => ?_
  refine holds_open (q := view) (loose := []) (Xt := fun s => xlAt view [] s && recOk (RowW.records PySem.Challenge.rw_nz0563_01.row.toRowW) s) (XP := XL view []) (Yf := Hook.obs Hk) (Ya := Hook.val Hk) (YP := Hook.says Hk) (N := 2772) head_left (Hook.of Hk) (Hook.keeps Hk)
    (fun s e => xl_of s (Bool.and_eq_true_iff.mp e).1) XL.keeps hdef hp hk (fun s e => recFacts_of (Bool.and_eq_true_iff.mp e).2) (by rfl) (by first | assumption | decide +kernel) (by decide +kernel) ⟨rfl, rfl, rfl, rfl, rfl, by decide +kernel⟩ ?hw walk
  w_witness2

theorem fill_first (w : World) (b0 : Heap) : (hd.heap_39 w.params).In b0 → PySem.Challenge.rw_nz0563_01.row.prog = PySem.Challenge.rw_nz0563_01.row.prog := by
  k_fill
  intro _; rfl
theorem line_le {n m : Nat} (h : n ≤ m) (hm : m ≤ 16777216 := by decide) : n ≤ sizeLine := Nat.le_trans h (by rw [sizeLine_eq]; exact hm)
theorem nat_four {n : Nat} (h : n < 4) : n = 0 ∨ n = 1 ∨ n = 2 ∨ n = 3 := by
  match n, h with
  | 0, _ => exact .inl rfl
  | 1, _ => exact .inr (.inl rfl)
  | 2, _ => exact .inr (.inr (.inl rfl))
  | 3, _ => exact .inr (.inr (.inr rfl))
  | k + 4, h => exact absurd h (Nat.not_lt.mpr (Nat.le_add_left 4 k))
theorem toNat_lt4 {k : Int} {n : Nat} (h0 : 0 ≤ k) (h : k < n) : k.toNat < n := (Int.toNat_lt h0).mpr h
theorem three_lt {a b : Nat} (h : (3 : Int) < (a : Int)) (e : a = b) : 3 < b := e ▸ Int.ofNat_lt.mp h
theorem not_many {a b : Nat} {m : Int} (h1 : ¬ (3 : Int) < (a : Int)) (h2 : ¬ 4096 < m) (e : a = b) : ¬ (3 < b ∨ 4096 < m) := fun z => z.elim (fun z => h1 (Int.ofNat_lt.mpr (e ▸ z))) h2
theorem len_eq {a b c d : Nat} (h : (a : Int) = (b : Int)) (e1 : a = c) (e2 : b = d) : c = d := by rw [← e1, ← e2]; exact Int.ofNat.inj h
theorem len_ne {a b c d : Nat} (h : (a : Int) ≠ (b : Int)) (e1 : a = c) (e2 : b = d) : ¬ c = d := fun z => h (by rw [e1, e2, z])
theorem room_less {u k n c : Nat} (h : u + k * (n + 1) ≤ c) (hk : 1 ≤ k) : u + 1 + k * n ≤ c := by
  rw [Nat.add_assoc, Nat.add_comm 1]
  exact Nat.le_trans (Nat.add_le_add_left (Nat.add_le_add_left hk (k * n)) u) h

/-- a goal laid aside -/
theorem foldG {P : Prop} (h : ∀ G : Prop, (P → G) → G) : P := h P fun x => x

/-- what holds of the ground heap -/
structure Gnd (w : World) (loose : List Str) (mean : ExcName → Option Value) (mg mb : Str → Option Value) (b0 : Heap) : Prop where
  X : (hd.heap_39 w.params).In b0
  T : Top topProg loose mean mg mb b0

/-- room for n calls more -/
structure Rm (n : Nat) (A : Around) : Prop where
  handled : A.handled = none
  depth : A.depth + 2 * n ≤ 400
  units : A.units + 8 * n ≤ 4000

/-- what a call finds -/
structure At (n : Nat) (b0 : Heap) (A : Around) (outer : List Env) (s : Shared) : Prop where
  rm : Rm n A
  frames : A.frames = some outer
  stays : b0.StaysIn s.heap
  fun' : s.heap.FunFrames b0 outer

abbrev frs (l : List Env) : List Addr := l.filterMap (·.frame)

section
variable {w : World} {loose : List Str} {mean : ExcName → Option Value} {mg mb : Str → Option Value} {b0 : Heap} {A : Around} {outer : List Env} {s : Shared}
  {R : Result → Shared → Prop} {name qual : Str} {params : Arguments} {body : List Stmt} {scope : Scope} {dV kV doc pm cdv ct oc : Value} {an od : Option Addr} {osl : Array (Option Value)} {f : Addr} {args : Args} {binds : List (Str × Value)}

theorem Rm.room {n : Nat} {A : Around} (H : Rm n A) : A.depth < recursionLimit := Nat.lt_of_le_of_lt (Nat.le_trans (Nat.le_add_right _ _) H.depth) (by decide)
theorem Rm.le {n m : Nat} {A : Around} (H : Rm n A) (h : m ≤ n := by decide) : Rm m A := ⟨H.handled, by have := H.depth; omega, by have := H.units; omega⟩
theorem Rm.deeper {n : Nat} {A : Around} {env : Env} (H : Rm (n + 1) A) : Rm n (A.deeper env) := ⟨H.handled, by have := H.depth; show A.depth + 1 + _ ≤ _; omega, by have := H.units; show A.units + 3 + _ ≤ _; omega⟩
theorem Rm.dh {n : Nat} {A : Around} {env : Env} (H : Rm n A) : (A.deeper env).handled = none := H.handled
theorem Rm.clear {n : Nat} {A : Around} (H : Rm n A) : A.units < cLine := by have := H.units; have : cLine = 9900 := rfl; omega

theorem enter {n : Nat} {news : List (Addr × Obj)} (G : Gnd w loose mean mg mb b0) (H : At n b0 A outer s)
    (hn : ∀ p ∈ news, s.heap.get? p.1 = some p.2 ∧ b0.get? p.1 = none ∧ p.1 ∉ frs outer)
    (ho : (hd.heap_39 w.params).lookup f = some ⟨oc, od, .func (fnOf name qual params body scope dV kV doc pm an cdv ct), osl⟩) (hcd : codeIn (hd.heap_39 w.params) cdv qual = true)
    (hbind : BindsTo s (fnOf name qual params body scope dV kV doc pm an cdv ct) args binds) (hloc : ∀ y ∈ binds, scope.names.lookup y.1 = some .local)
    (h : ∀ g L' h₁, g = hideAll s.heap (news.map (·.1)) → L' = s.heap.objs.size → Fr g L' h₁ (fun y => binds.reverse.lookup y) → News g L' h₁ news → Below A b0 outer g → (hd.heap_39 w.params).In g → Top topProg loose mean mg mb g → Rm n A → ∀ tk,
      wpAny (model prg w) (A.deeper (envOf qual scope L' f cdv)) (execs body (envOf qual scope L' f cdv))
        (fun fl s' => R (.ok (.ret (match fl with | .ret v => v | _ => .none))) s')
        (fun e s' => wpAny (model prg w) (A.deeper (envOf qual scope L' f cdv)) (leaving (envOf qual scope L' f cdv) e) (fun _ s'' => R (.error e) s'') (fun e' s'' => R (.error e') s'') s')
        { s with heap := h₁, toks := tk })
    (hco : scope.isCoroutine = false) (hgen : scope.isGenerator = false) (hk : scope.kind = .function)
    (hcell : ∀ x ∈ scope.names, x.2 ≠ .cell) : codeAny (model prg w) A (.call (.ref f) args) R s := by
  have hst : b0.StaysIn (hideAll s.heap (news.map (·.1))) := fun b o e => hideAll_get _ (H.stays b o e) fun q => by
    obtain ⟨p, hp, rfl⟩ := List.mem_map.mp q
    rw [(hn p hp).2.1] at e; cases e
  refine codeAny_call_def (fd := fnOf name qual params body scope dV kV doc pm an cdv ct) (body := body) (binds := binds) H.rm.room (H.stays _ _ (G.X _ _ ho)) rfl (G.T.nolimit.keeps H.stays) (codeRec_of (G.X.keeps H.stays) hcd) rfl hbind hcell hloc (fun h₁ hns hk₁ => ?_) hco hgen hk
  exact h _ s.heap.objs.size h₁ rfl rfl ⟨hns, fun b o e => hk₁ b o (of_hideAll _ e), Nat.le_of_eq (hideAll_size _ _)⟩
    (fun p hp => ⟨hk₁ _ _ (hn p hp).1, Nat.ne_of_lt (Heap.lt_size (hn p hp).1), hideAll_none _ (List.mem_map_of_mem hp)⟩)
    ⟨H.frames, hst, funFrames_hideAll H.fun' fun env he a ha q => by
      obtain ⟨p, hp, rfl⟩ := List.mem_map.mp ha
      exact (hn p hp).2.2 (List.mem_filterMap.mpr ⟨env, he, q⟩)⟩
    (G.X.keeps hst) (G.T.keeps hst) H.rm _
end

abbrev excBm : List Value := [.type "Exception", .type "BaseException", .type "object"]

theorem cls31 {w : World} {h : Heap} (X : (hd.heap_39 w.params).In h) : ∃ nm q bs sn sub ab col dd k0 k1 k2 k3 k5, h.get? 31 = some (excClassObj nm q 31 30 bs excBm true sn sub ab col dd k0 k1 k2 k3 k5 "Exception.__new__") :=
  ⟨_, _, _, _, _, _, _, _, _, _, _, _, _, X _ _ (by exact rfl)⟩

theorem ns_some_of {K : Frag} {h : Heap} {N : Addr} {mg : Str → Option Value} {n : Str} {v : Value} (X : K.In h) (G : h.Ns N mg) (e : nsIn K N n = some (some v)) : mg n = some v := by
  obtain ⟨o, es, ep, ho, hd, _, hf⟩ := G
  unfold nsIn at e
  split at e
  · rename_i c d es' n' sl q
    have := X _ _ q
    rw [ho] at this
    cases this
    cases hd
    split at e
    · rename_i en he
      cases e
      rw [← hf]
      unfold nsFind findBy
      rw [← Array.find?_toList, he]
      rfl
    · split at e <;> cases e
  · cases e

section
variable {w : World} {h : Heap}
theorem ns30 (X : (hd.heap_39 w.params).In h) : ∃ mN, h.Ns 30 mN ∧ mN "__init__" = some (.ref 28) ∧ mN "__setattr__" = none ∧ mN "kind" = none ∧ mN "__getattribute__" = none ∧ mN "__getattr__" = none := by
  have hn : h.Ns 30 (h.nsMap 30) := .of_isNs (isNs_of_in X (by kernel_rfl))
  refine ⟨_, hn, ns_some_of X hn (by k_is), ns_none_of X hn (by k_is), ns_none_of X hn (by k_is), ns_none_of X hn (by k_is), ns_none_of X hn (by k_is)⟩
end


theorem At.le {n m : Nat} {b0 : Heap} {A : Around} {outer : List Env} {s : Shared} (H : At n b0 A outer s) (h : m ≤ n := by decide) : At m b0 A outer s := ⟨H.rm.le h, H.frames, H.stays, H.fun'⟩
theorem FunFrames.upd {h h' base : Heap} {l : List Env} (hl : h.FunFrames base l) (k : ∀ b o, h.get? b = some o → h'.get? b = some o) : h'.FunFrames base l := hl.of_keeps fun b o e _ => ⟨o, k b o e, rfl⟩
theorem At.grow {n : Nat} {b0 : Heap} {A : Around} {outer : List Env} {s s' : Shared} (H : At n b0 A outer s) (k : ∀ b o, s.heap.get? b = some o → s'.heap.get? b = some o) : At n b0 A outer s' :=
  ⟨H.rm, H.frames, fun b o e => k b o (H.stays b o e), FunFrames.upd H.fun' k⟩
theorem At.make {n : Nat} {b0 : Heap} {A : Around} {outer : List Env} {s : Shared} (H : At (n + 1) b0 A outer s) {C : Addr} {rest : List Value} : At n b0 (A.under (.builtin "type.__call__" ⟨.ref C :: rest, []⟩)) outer s := by
  refine ⟨⟨H.rm.handled, ?_, ?_⟩, ?_, H.stays, H.fun'⟩
  · rw [depth_under_make]; exact room_less H.rm.depth (by decide)
  · exact room_less H.rm.units (by decide)
  · have := H.frames; simp [Around.under, this, Code.envs, Code.isFrame, pushEnvs]

/-- an exception of ours: its kind, its traceback -/
def Exc (h : Heap) (e : Addr) (kind : Str) (tb : Option Addr) : Prop :=
  ∃ d mA tk vs, h.get? e = some { cls := .ref 31, dict := some d, data := .fields vs } ∧ 1 < vs.size ∧ vs[1]? = some (match tb with | none => .none | some T => .ref T) ∧ h.Ns d mA ∧ mA "kind" = some (.str kind tk) ∧ d ≠ e ∧
    ∀ T, tb = some T → T ≠ e ∧ ∃ oT ts, h.get? T = some oT ∧ oT.data = .fields ts ∧ ts[3]? = some .none

/-- all that stood stands, but that frames' slots may turn -/
structure Kept (fs : List Addr) (W : List Addr) (h h' : Heap) : Prop where
  same : ∀ b o, h.get? b = some o → b ∉ W → b ∉ fs → h'.get? b = some o
  slots : ∀ b o, h.get? b = some o → b ∉ W → b ∈ fs → ∃ sl, h'.get? b = some { o with slots := sl }
theorem Kept.refl {fs W : List Addr} {h : Heap} : Kept fs W h h := ⟨fun _ _ e _ _ => e, fun _ o e _ _ => ⟨o.slots, e⟩⟩
theorem Kept.all {fs W : List Addr} {h h' : Heap} (k : ∀ b o, h.get? b = some o → h'.get? b = some o) : Kept fs W h h' := ⟨fun b o e _ _ => k b o e, fun b o e _ _ => ⟨o.slots, k b o e⟩⟩
theorem Kept.any {fs W : List Addr} {h h' : Heap} (k : Kept fs W h h') {b : Addr} {o : Obj} (e : h.get? b = some o) (hw : b ∉ W) : ∃ sl, h'.get? b = some { o with slots := sl } := by
  by_cases hb : b ∈ fs
  · exact k.slots b o e hw hb
  · exact ⟨o.slots, k.same b o e hw hb⟩

theorem ns_slots {h h' : Heap} {d : Addr} {m : Str → Option Value} (x : h.Ns d m) (k : ∀ o, h.get? d = some o → ∃ sl, h'.get? d = some { o with slots := sl }) : h'.Ns d m := by
  obtain ⟨o, es, ep, e, hd, r⟩ := x
  obtain ⟨sl, e'⟩ := k o e
  exact ⟨_, es, ep, e', hd, r⟩

section
variable {M : Model} {A : Around} {E : Value → Shared → Prop} {s : Shared}

theorem entry_new {env : Env} {outer : List Env} {L e : Addr} {oe : Obj} {vs : Array Value} {head : Value} {hadNext : Bool} {Q : Unit → Shared → Prop}
    (hfr : A.frames = some (env :: outer)) (hl : s.heap.FunFrames {} (env :: outer)) (hf : env.frame = some L)
    (he : s.heap.get? e = some oe) (hd : oe.data = .fields vs) (hsz : 1 < vs.size)
    (hQ : ∀ h' T oT ts, s.heap.get? T = none → T ≠ e → (∀ b o, s.heap.get? b = some o → b ≠ e → b ∉ frs (env :: outer) → h'.get? b = some o) → (∀ b o, s.heap.get? b = some o → b ≠ e → ∃ sl, h'.get? b = some { o with slots := sl }) →
      h'.get? e = some (oe.mapFields (·.setIfInBounds 1 (.ref T))) → h'.get? T = some oT → oT.data = .fields ts → ts[3]? = some .none → Q () { s with heap := h' }) :
    wpAny M A (do let a ← frameOf env; let pl ← entryPlaceOf L hadNext; let b ← EntryCells.newEntry head a .none (rawInt L) .none pl; setField (.ref e) 1 b) (fun _ s' => wpAny M A (setFlight (.ref e) none) Q E s') E s := by
  have hene : e ∉ frs (env :: outer) := fun hm => by
    obtain ⟨_, o, ho, hnf⟩ := hl.mem hm
    rw [he] at ho; injection ho with ho; subst ho; exact hnf vs hd
  refine wpAny_bind (wpAny_frameOf_fun hfr hl hf fun h₁ hs₁ => ?_)
  refine wpAny_bind (wpAny_entryPlaceOf fun pl hpl => ?_)
  unfold EntryCells.newEntry newFields
  refine wpAny_bind (wpAny_newObj_type ?_ (hpl.sizeOk5 _ _ _ _ _))
  have he₁ : h₁.get? e = some oe := (hs₁.2.1 e hene).trans he
  generalize htb : ({ cls := .type "traceback", dict := none, data := .fields ([head, .ref L, .none, rawInt L, .none] ++ (if pl.isEmpty then List.replicate 6 Value.none else pl)).toArray } : Obj) = tb
  have htd : tb.data = .fields ([head, .ref L, .none, rawInt L, .none] ++ (if pl.isEmpty then List.replicate 6 Value.none else pl)).toArray := by rw [← htb]
  have htf : tb.isFreed = false := by rw [← htb]; rfl
  have he₂ := Heap.get?_push_of_some (h := h₁) tb he₁
  refine wpAny_setField he₂ hd hsz ?_
  have hTe : h₁.objs.size ≠ e := Nat.ne_of_gt (Heap.lt_size he₁)
  have hd₃ := Obj.data_mapFields hd (·.setIfInBounds 1 (Value.ref h₁.objs.size))
  have he₃ := Heap.get?_update_self (Obj.mapFields (·.setIfInBounds 1 (Value.ref h₁.objs.size))) he₂ (Obj.isFreed_of_fields hd₃)
  have hT₃ := (Heap.get?_update_other (h₁.push tb) (Obj.mapFields (·.setIfInBounds 1 (Value.ref h₁.objs.size))) (Ne.symm hTe)).trans (Heap.get?_push_size h₁ htf)
  unfold setFlight
  refine wpAny_bind (wpAny_field he₃ hd₃ (x := .ref h₁.objs.size) (by simp [hsz]) ?_)
  rw [if_pos (show (Value.ref h₁.objs.size != Value.none) = true from by simp)]
  refine wpAny_setField hT₃ htd (by simp only [List.size_toArray, List.length_append, List.length_cons, List.length_nil] <;> omega) ?_
  have keep : ∀ b o, b ≠ e → h₁.get? b = some o →
      (((h₁.push tb).update e (Obj.mapFields (·.setIfInBounds 1 (Value.ref h₁.objs.size)))).update h₁.objs.size
        (Obj.mapFields (·.setIfInBounds 3 ((none : Option Addr).elim Value.none fun f => rawInt f)))).get? b = some o := fun b o hbe hb => by
    have hbT : h₁.objs.size ≠ b := Nat.ne_of_gt (Heap.lt_size hb)
    rw [Heap.get?_update_other _ _ hbT, Heap.get?_update_other _ _ (Ne.symm hbe)]
    exact Heap.get?_push_of_some _ hb
  refine hQ _ h₁.objs.size _ _ ?_ hTe (fun b o hb hbe hbf => keep b o hbe ((hs₁.2.1 b hbf).trans hb)) (fun b o hb hbe => ?_) ?_ (Heap.get?_update_self _ hT₃ (Obj.isFreed_of_fields (Obj.data_mapFields htd _))) (Obj.data_mapFields htd _) ?_
  · exact Heap.get?_none_of_le (Nat.le_of_eq hs₁.1.symm)
  · obtain ⟨sl, hs⟩ := hs₁.2.2 b o hb
    exact ⟨sl, keep b _ hbe hs⟩
  · rw [Heap.get?_update_other _ _ hTe]; exact he₃
  · first | (simp; done) | (rcases hpl with rfl | ⟨_, _, _, _, _, _, _, rfl⟩ <;> simp)

theorem leave_exc {env : Env} {outer : List Env} {L e : Addr} {kind : Str} {tb : Option Addr} {Q : Unit → Shared → Prop}
    (hfr : A.frames = some (env :: outer)) (hl : s.heap.FunFrames {} (env :: outer)) (hf : env.frame = some L) (hx : Exc s.heap e kind tb)
    (hQ : ∀ h' T, s.heap.get? T = none → (∀ b o, s.heap.get? b = some o → b ≠ e → tb ≠ some b → b ∉ frs (env :: outer) → h'.get? b = some o) → (∀ b o, s.heap.get? b = some o → b ≠ e → tb ≠ some b → ∃ sl, h'.get? b = some { o with slots := sl }) →
      Exc h' e kind (some T) → Q () { s with heap := h' }) : wpAny M A (leaving env (.ref e)) Q E s := by
  obtain ⟨d, mA, tk, vs, he, hsz, h1, hd, hk, hde, hT⟩ := hx
  unfold leaving noteFrame
  simp only [hf]
  refine wpAny_bind (wpAny_bind (wpAny_field he rfl h1 ?_))
  cases tb with
  | none =>
    (try dsimp only)
    rw [if_neg (by decide)]
    refine entry_new hfr hl hf he rfl hsz fun h' T oT ts hTn hTe k1 k2 k3 k4 k5 k6 => hQ h' T hTn (fun b o hb hbe _ hbf => k1 b o hb hbe hbf) (fun b o hb hbe _ => k2 b o hb hbe) ?_
    refine ⟨d, mA, tk, vs.setIfInBounds 1 (.ref T), k3, by simpa using hsz, by simp [hsz], ns_slots hd fun o ho => k2 d o ho hde, hk, hde, fun T' hT' => ?_⟩
    cases hT'; exact ⟨hTe, oT, ts, k4, k5, k6⟩
  | some T0 =>
    (try dsimp only)
    obtain ⟨hT0e, oT0, ts0, hT0, hdT0, h30⟩ := hT T0 rfl
    rw [if_pos (show (Value.ref T0 != Value.none) = true from by simp)]
    refine wpAny_bind (wpAny_field hT0 hdT0 h30 ?_)
    rw [if_neg (show ¬ ((Value.none == rawInt L) = true) from by simp [rawInt])]
    refine wpAny_bind (wpAny_setField hT0 hdT0 (Array.getElem?_eq_some_iff.mp h30).1 ?_)
    have other : ∀ b, b ≠ T0 → (s.heap.update T0 (Obj.mapFields (·.setIfInBounds 3 Value.none))).get? b = s.heap.get? b := fun b hb => Heap.get?_update_other _ _ (Ne.symm hb)
    have noRecord : ∀ b o, s.heap.get? b = some o → (∀ vs, o.data ≠ .fields vs) → b ≠ T0 := fun b o hb hnf q => by
      rw [q, hT0] at hb; injection hb with hb; subst hb; exact hnf ts0 hdT0
    have hd' : d ≠ T0 := by
      obtain ⟨o, es, ep, e1, e2, _⟩ := hd
      exact noRecord d o e1 fun vs q => by rw [e2] at q; cases q
    refine entry_new hfr (hl.of_keeps fun b o hb hnf => ⟨o, (other b (noRecord b o hb hnf)).trans hb, rfl⟩) hf ((other e (Ne.symm hT0e)).trans he) rfl hsz fun h' T oT ts hTn hTe k1 k2 k3 k4 k5 k6 =>
      hQ h' T ?_ (fun b o hb hbe hbt hbf => k1 b o ((other b fun q => hbt (by rw [q])).trans hb) hbe hbf) (fun b o hb hbe hbt => k2 b o ((other b fun q => hbt (by rw [q])).trans hb) hbe) ?_
    · by_cases q : T = T0
      · have hx : (s.heap.update T0 (Obj.mapFields (·.setIfInBounds 3 Value.none))).get? T0 = _ := Heap.get?_update_self _ hT0 (Obj.isFreed_of_fields (Obj.data_mapFields hdT0 _))
        rw [q, hx] at hTn; cases hTn
      · exact (other T q).symm.trans hTn
    · refine ⟨d, mA, tk, vs.setIfInBounds 1 (.ref T), k3, by simpa using hsz, by simp [hsz], ns_slots hd fun o ho => k2 d o ((other d hd').trans ho) hde, hk, hde, fun T' hT' => ?_⟩
      cases hT'; exact ⟨hTe, oT, ts, k4, k5, k6⟩
end

section
variable {n : Nat} {w : World} {loose : List Str} {mean : ExcName → Option Value} {mg mb : Str → Option Value} {b0 : Heap} {A : Around} {outer : List Env} {E : Value → Shared → Prop}
  {kind : Str} {tok : Tok}

theorem kind_low : typeLookup (.type "Exception") "kind" = pure none := by rw [typeLookup_type, builtinLookup_eq_fast]; kernel_rfl

theorem basic_init {s : Shared} {e : Addr} {vs : Array Value} {R : Result → Shared → Prop} (G : Gnd w loose mean mg mb b0) (H : At n b0 A outer s) (he : s.heap.get? e = some { cls := .ref 31, data := .fields vs }) (hv1 : 1 < vs.size) (hv2 : vs[1]? = some .none) (hb : b0.get? e = none) (hf : e ∉ frs outer)
    (k : ∀ h' tk, (∀ b o, s.heap.get? b = some o → b ≠ e → h'.get? b = some o) → Exc h' e kind none → (∃ d, h'.get? e = some { cls := .ref 31, dict := some d, data := .fields vs }) → R (.ok (.ret .none)) { s with heap := h', toks := tk }) :
    codeAny (model prg w) A (.call (.ref 28) ⟨[.ref e, .str kind tok], []⟩) R s := by
  refine' enter (news := [(e, { cls := .ref 31, data := .fields vs })]) G H ?kN ?k6 ?k7 ?k9 ?kB ?_ ?c2 ?c3 ?c4 ?c5
  case kN => exact List.forall_mem_singleton.mpr ⟨he, hb, hf⟩
  case k6 => k_is
  case k7 => k_is
  case k9 => exact BindsTo.of_eq rfl
  case c5 => decide
  case kB => exact locs rfl
  case c2 => exact rfl
  case c3 => exact rfl
  case c4 => exact rfl
  intro g L h1 hg hL F N B X T hrm tk0
  (try dsimp only)
  k_steps
  have X1 := X.keeps F.keep
  obtain ⟨nm, q, bs, sn, sub, ab, col, dd, k0, k1, k2, k3, k5, hC⟩ := cls31 X1
  obtain ⟨mN, hn, _, hsa, hkd, _, _⟩ := ns30 X1
  have he1 := N.get (.head _)
  have I : h1.Inst e 31 (fun _ => none) := ⟨_, he1, rfl, (fun c q => by cases q), .inl ⟨rfl, fun _ => rfl⟩⟩
  have h31 : e ≠ 31 := fun q => by rw [q, hC] at he1; cases he1
  refine store_attr PySem.F.store_Exception hC hn hsa hkd kind_low h31 I (fun h' tk' I' hk hs => ?_) (ns := []) (fun _ _ => by simp_all) (by decide)
  (try dsimp only)
  k_steps
  have hex : ∃ d, h'.get? e = some { cls := .ref 31, dict := some d, data := .fields vs } ∧ d ≠ e ∧ h'.Ns1 d (fun y => if y = ("kind" : Str) then some (.str kind tok) else none) := by
    obtain ⟨o, ho, hoc, _, hod⟩ := I'
    obtain ⟨o1, ho1, c1, c2, c3, _⟩ := hs _ he1
    rw [ho] at ho1; cases ho1
    obtain ⟨oc, odi, oda, osl⟩ := o
    dsimp only at c1 c2 c3 hod
    subst c1 c2 c3
    rcases hod with ⟨_, q⟩ | ⟨d, hd1, hd2, hd3⟩
    · have := q "kind"; rw [if_pos rfl] at this; cases this
    · subst hd1
      exact ⟨d, ho, hd2, hd3⟩
  obtain ⟨d, ho, hd2, hd3⟩ := hex
  refine k h' tk' (fun b o hb hbe => hk b o hbe (fun o₀ dx q1 q2 => ?_) (F.keep b o ?_)) ⟨d, _, _, vs, ho, hv1, hv2, hd3.ns, if_pos rfl, hd2, fun T hT => by cases hT⟩ ⟨d, ho⟩
  · rw [he1] at q1; cases q1; cases q2
  · rw [hg]; exact hideAll_get _ hb (by simpa using hbe)

/-- the call BasicError(kind) -/
theorem basic_call {s : Shared} {Q : Value → Shared → Prop} (G : Gnd w loose mean mg mb b0) (H : At (n + 1) b0 A outer s)
    (k : ∀ h' e tk, (∀ b o, s.heap.get? b = some o → h'.get? b = some o) → s.heap.get? e = none → Exc h' e kind none → (∃ t d, h'.get? e = some { cls := .ref 31, dict := some d, data := .fields #[.ref t, .none, .none, .none, .bool false, .none] }) → Q (.ref e) { s with heap := h', toks := tk }) :
    wpAny (model prg w) A (call (.ref 31) [.str kind tok]) Q E s := by
  have X1 := G.X.keeps H.stays
  obtain ⟨nm, q, bs, sn, sub, ab, col, dd, k0, k1, k2, k3, k5, hC⟩ := cls31 X1
  obtain ⟨mN, hn, hi, _⟩ := ns30 X1
  obtain ⟨hh, gg, d, t, os⟩ := s
  refine wpAny_call_exc_init PySem.F.excBase_Exception hC hn hi (X1 28 _ (by k_is)) rfl fun h' e hm => ?_
  obtain ⟨t0, ht, _, _⟩ := hm.there
  have H1 : At (n + 1) b0 A outer ⟨h', gg, d, t, os⟩ := H.grow hm.keeps
  refine wpAny_call (basic_init G H1.make ht (by simp) (by simp) ?_ ?_ fun h2 tk hk hx hy => ⟨rfl, ?_⟩)
  · cases z : b0.get? e with
    | none => rfl
    | some o => have := H.stays e o z; rw [hm.new] at this; cases this
  · intro z
    obtain ⟨_, o, ho, _⟩ := H.fun'.mem z
    rw [hm.new] at ho; cases ho
  · exact k h2 e tk (fun b o hb => hk b o (hm.keeps b o hb) fun z => by rw [z, hm.new] at hb; cases hb) hm.new hx ⟨t0, hy⟩

theorem raise_stmt {s : Shared} {env : Env} {x : Sem Value} {Q : Flow → Shared → Prop} (hh : A.handled = none)
    (h : wpAny (model prg w) A x (fun v s₁ => ∃ e t d, v = .ref e ∧ (hd.heap_39 w.params).In s₁.heap ∧ s₁.heap.get? e = some { cls := .ref 31, dict := some d, data := .fields #[.ref t, .none, .none, .none, .bool false, .none] } ∧ E (.ref e) s₁) E s) :
    wpAny (model prg w) A (raiseStmt env (some x) none) Q E s := by
  have hcB : (Value.ref 31 :: excBm).contains (.type "BaseException") = true := by decide +kernel
  unfold raiseStmt
  refine wpAny_bind (wpAny_mono h (fun v s₁ h₁ => ?_) fun _ _ x => x)
  obtain ⟨e, t, d, rfl, X1, he, hE⟩ := h₁
  obtain ⟨nm, q, bs, sn, sub, ab, col, dd, k0, k1, k2, k3, k5, hC⟩ := cls31 X1
  obtain ⟨hp, g, d, tk, os⟩ := s₁
  repeat (first | with_reducible refine wpAny_loadPart_at he ?_ | with_reducible refine wpAny_loadPart_at hC ?_ | (with_reducible refine wpAny_isSubtype_exc hC ?_; rw [hcB]) | wp_step)
  exact wpAny_raiseNew_none hh hE
end


section
variable {n : Nat} {w : World} {loose : List Str} {mean : ExcName → Option Value} {mg mb : Str → Option Value} {b0 g : Heap} {A : Around} {outer : List Env} {E : Value → Shared → Prop} {s : Shared}
  {kind : Str} {L a : Addr} {m : Str → Option Value} {name : Str} {scope : Scope} {cd : Value} {cl : List (Str × Addr)} {news : List (Addr × Obj)}

theorem at_in (B : Below A b0 outer g) (F : Fr g L s.heap m) (hr : Rm (n + 1) A) (hk : scope.kind = .function := by rfl) :
    At n b0 (A.deeper (envX name scope L a cd cl)) (envX name scope L a cd cl :: outer) s :=
  have K := pushX (env := envX name scope L a cd cl) B F rfl hk
  ⟨hr.deeper, K.stack, K.stays, K.frames⟩

theorem News.kp {h h' : Heap} (N : News g L h news) (k : ∀ b o, h.get? b = some o → h'.get? b = some o) : News g L h' news := fun p hp => ⟨k _ _ (N p hp).1, (N p hp).2⟩
theorem Fr.kp {h h' : Heap} (F : Fr g L h m) (k : ∀ b o, h.get? b = some o → h'.get? b = some o) : Fr g L h' m := ⟨F.ns.keeps k, fun b o e => k b o (F.keep b o e), F.above⟩

/-- what a raise statement asks of its value -/
def RaisesB (w : World) (E : Value → Shared → Prop) (v : Value) (s₁ : Shared) : Prop :=
  ∃ e t d, v = .ref e ∧ (hd.heap_39 w.params).In s₁.heap ∧ s₁.heap.get? e = some { cls := .ref 31, dict := some d, data := .fields #[.ref t, .none, .none, .none, .bool false, .none] } ∧ E (.ref e) s₁

theorem exec_raise {env env' : Env} {exc : Expr} {pos : Pos} {Q : Flow → Shared → Prop} (hr : Rm n A) (h : wpAny (model prg w) (A.deeper env') (eval exc env) (fun v s₁ => RaisesB w E v s₁) E s) :
    wpAny (model prg w) (A.deeper env') (exec (.Raise (some exc) none pos) env) Q E s := by
  rw [arm_exec_Raise]
  refine wpAny_bind (wpAny_standAt (raise_stmt hr.handled ?_))
  exact wpAny_bind (wpAny_mono h (fun v s₁ h₁ => wpAny_bind (wpAny_standAt (wpAny_pure h₁))) fun _ _ x => x)

theorem fun_empty {h b : Heap} {l : List Env} (x : h.FunFrames b l) : h.FunFrames {} l := funFrames_base (fun b o e => by cases e) x
theorem fun_slots {h h' b : Heap} {l : List Env} (x : h.FunFrames b l) (k : ∀ a o, h.get? a = some o → a ∈ frs l → ∃ sl, h'.get? a = some { o with slots := sl }) : h'.FunFrames b l := by
  induction l with
  | nil => trivial
  | cons env r ih =>
    obtain ⟨hk, ⟨L, o, hf, hn, ho, hd⟩, hr⟩ := x
    obtain ⟨sl, hs⟩ := k L o ho (List.mem_filterMap.mpr ⟨env, .head _, hf⟩)
    refine ⟨hk, ⟨L, _, hf, hn, hs, hd⟩, ih hr fun a o e hm => k a o e ?_⟩
    obtain ⟨env', he, hf'⟩ := List.mem_filterMap.mp hm
    exact List.mem_filterMap.mpr ⟨env', .tail _ he, hf'⟩
theorem fun_in {h b : Heap} {l : List Env} (x : h.FunFrames b l) {a : Addr} (ha : a ∈ frs l) : ∃ o, h.get? a = some o := let ⟨_, o, ho, _⟩ := x.mem ha; ⟨o, ho⟩
theorem fr_self {h : Heap} (F : Fr g L h m) : g.get? L = none := kts_self F
theorem mem_frs {env : Env} {l : List Env} {L b : Addr} (hf : env.frame = some L) (hb : b ∈ frs (env :: l)) : b = L ∨ b ∈ frs l := by
  obtain ⟨env', he, hf'⟩ := List.mem_filterMap.mp hb
  rcases List.mem_cons.mp he with rfl | he
  · rw [hf] at hf'; exact .inl (Option.some.inj hf').symm
  · exact .inr (List.mem_filterMap.mpr ⟨env', he, hf'⟩)

/-- what a call that raises leaves -/
structure Rsd (b0 : Heap) (outer : List Env) (W : List Addr) (h0 h' : Heap) (e : Addr) (kind : Str) : Prop where
  kept : Kept (frs outer) W h0 h'
  new : ∀ b o, h0.get? b = some o → b ∉ W → b ≠ e
  exc : ∃ T, Exc h' e kind (some T) ∧ ∀ b o, h0.get? b = some o → b ∉ W → b ≠ T
  fun' : h'.FunFrames b0 outer
  stays : b0.StaysIn h'

theorem Rsd.wide {h0 g h' : Heap} {W : List Addr} {e : Addr} (R : Rsd b0 outer [] g h' e kind) (hg : g = hideAll h0 W) : Rsd b0 outer W h0 h' e kind := by
  subst hg
  have k : ∀ b o, h0.get? b = some o → b ∉ W → (hideAll h0 W).get? b = some o := fun b o q hb => hideAll_get _ q hb
  obtain ⟨k1, k2, ⟨T, k3, k4⟩, k5, k6⟩ := R
  exact ⟨⟨fun b o q hb hf => k1.same b o (k b o q hb) (by simp) hf, fun b o q hb hf => k1.slots b o (k b o q hb) (by simp) hf⟩, fun b o q hb => k2 b o (k b o q hb) (by simp), ⟨T, k3, fun b o q hb => k4 b o (k b o q hb) (by simp)⟩, k5, k6⟩

/-- an exception made here leaves the frame -/
theorem leave_direct {h1 : Heap} {e : Addr} {Q : Unit → Shared → Prop} (B : Below A b0 outer g) (F : Fr g L h1 m) (N : News g L h1 news) (hk : ∀ b o, h1.get? b = some o → s.heap.get? b = some o) (hne : h1.get? e = none) (hx : Exc s.heap e kind none)
    (hQ : ∀ h', Rsd b0 outer [] g h' e kind → (∀ p ∈ news, h'.get? p.1 = some p.2) → Q () { s with heap := h' })
    (hs : scope.kind = .function := by rfl) :
    wpAny (model prg w) (A.deeper (envX name scope L a cd cl)) (leaving (envX name scope L a cd cl) (.ref e)) Q E s := by
  have K := pushX (env := envX name scope L a cd cl) B (Fr.kp F hk) rfl hs
  refine leave_exc (L := L) K.stack (fun_empty K.frames) rfl hx fun h' T hT p1 p2 p3 => ?_
  have hg : ∀ b o, g.get? b = some o → b ≠ e := fun b o q z => by have := F.keep b o q; rw [z, hne] at this; cases this
  have kp : Kept (frs outer) [] g h' := ⟨fun b o q _ hb => p1 b o (hk b o (F.keep b o q)) (hg b o q) (by simp) fun z => (mem_frs (L := L) rfl z).elim (fun z => by rw [z, fr_self F] at q; cases q) hb,
    fun b o q _ _ => p2 b o (hk b o (F.keep b o q)) (hg b o q) (by simp)⟩
  have ne0 : ∀ b o, b0.get? b = some o → b ∉ frs outer := fun b o q z => by obtain ⟨z1, _⟩ := B.frames.mem z; rw [z1] at q; cases q
  refine hQ h' ⟨kp, fun b o q _ => hg b o q, ⟨T, p3, fun b o q _ z => ?_⟩, fun_slots B.frames fun a o q z => kp.slots a o q (by simp) z, fun b o q => kp.same b o (B.stays b o q) (by simp) (ne0 b o q)⟩ fun p hp => p1 _ _ (hk _ _ (N p hp).1) (fun z => ?_) (by simp) fun z => ?_
  · have := hk _ _ (F.keep b o q); rw [z, hT] at this; cases this
  · have := (N p hp).1; rw [z, hne] at this; cases this
  · rcases mem_frs (L := L) rfl z with z | z
    · exact (N p hp).2.1 z
    · obtain ⟨o, ho⟩ := fun_in B.frames z
      rw [(N p hp).2.2] at ho; cases ho

/-- an exception that a callee raised leaves the frame -/
theorem leave_prop {h2 : Heap} {e : Addr} {W : List Addr} {Q : Unit → Shared → Prop} (B : Below A b0 outer g) (F : Fr g L h2 m) (N : News g L h2 news) (R : Rsd b0 (envX name scope L a cd cl :: outer) W h2 s.heap e kind) (hW : ∀ b ∈ W, g.get? b = none)
    (hQ : ∀ h', Rsd b0 outer [] g h' e kind → (∀ p ∈ news, p.1 ∉ W → (∀ vs, p.2.data ≠ .fields vs) → h'.get? p.1 = some p.2) → (∀ b o, s.heap.get? b = some o → (∀ vs, o.data ≠ .fields vs) → b ∉ frs (envX name scope L a cd cl :: outer) → h'.get? b = some o) →
      Q () { s with heap := h' }) :
    wpAny (model prg w) (A.deeper (envX name scope L a cd cl)) (leaving (envX name scope L a cd cl) (.ref e)) Q E s := by
  obtain ⟨k, hne, ⟨T0, hx, hT0⟩, hff, hst⟩ := R
  refine leave_exc (L := L) (Around.frames_deeper B.stack) (fun_empty hff) rfl hx fun h' T hT p1 p2 p3 => ?_
  have nW : ∀ b o, g.get? b = some o → b ∉ W := fun b o q z => by rw [hW b z] at q; cases q
  have ge : ∀ b o, g.get? b = some o → b ≠ e := fun b o q => hne b o (F.keep b o q) (nW b o q)
  have gT : ∀ b o, g.get? b = some o → b ≠ T0 := fun b o q => hT0 b o (F.keep b o q) (nW b o q)
  have gL : ∀ b o, g.get? b = some o → b ≠ L := fun b o q z => by rw [z, fr_self F] at q; cases q
  have nf : ∀ b o, s.heap.get? b = some o → (∀ vs, o.data ≠ .fields vs) → b ∉ frs (envX name scope L a cd cl :: outer) → h'.get? b = some o := fun b o q hd hb => by
    refine p1 b o q (fun z => ?_) (fun z => ?_) hb
    · obtain ⟨d, _, _, vs, q1, _⟩ := hx; rw [z, q1] at q; cases q; exact hd vs rfl
    · obtain ⟨d, _, _, vs, _, _, _, _, _, _, q1⟩ := hx
      obtain ⟨_, oT, ts, q2, q3, _⟩ := q1 T0 rfl
      rw [← Option.some.inj z, q2] at q; cases q; exact hd ts q3
  have kp : Kept (frs outer) [] g h' := ⟨fun b o q _ hb => p1 b o (k.same b o (F.keep b o q) (nW b o q) fun z => (mem_frs (L := L) rfl z).elim (gL b o q) hb) (ge b o q) (fun z => gT b o q (Option.some.inj z).symm) fun z => (mem_frs (L := L) rfl z).elim (gL b o q) hb,
    fun b o q _ hb => by
      obtain ⟨sl, h3⟩ := k.any (F.keep b o q) (nW b o q)
      obtain ⟨sl', h4⟩ := p2 b _ h3 (ge b o q) (fun z => gT b o q (Option.some.inj z).symm)
      exact ⟨sl', h4⟩⟩
  have ne0 : ∀ b o, b0.get? b = some o → b ∉ frs outer := fun b o q z => by obtain ⟨z1, _⟩ := B.frames.mem z; rw [z1] at q; cases q
  have nfr : ∀ p ∈ news, p.1 ∉ frs (envX name scope L a cd cl :: outer) := fun p hp z => by
    rcases mem_frs (L := L) rfl z with z | z
    · exact (N p hp).2.1 z
    · obtain ⟨o, ho⟩ := fun_in B.frames z
      rw [(N p hp).2.2] at ho; cases ho
  refine hQ h' ⟨kp, fun b o q _ => ge b o q, ⟨T, p3, fun b o q _ z => ?_⟩, fun_slots B.frames fun a o q z => kp.slots a o q (by simp) z, fun b o q => kp.same b o (B.stays b o q) (by simp) (ne0 b o q)⟩ (fun p hp hw hd => nf _ _ (k.same _ _ (N p hp).1 hw (nfr p hp)) hd (nfr p hp)) nf
  obtain ⟨sl, h3⟩ := k.any (F.keep b o q) (nW b o q)
  rw [z, hT] at h3; cases h3
end

def names4 : List Str := ["A", "B$", "C", "D$"]
def isText (x : Str) : Bool := x == ("B$" : Str) || x == ("D$" : Str)
theorem mem4 {x : Str} (h : x ∈ names4) : x = "A" ∨ x = "B$" ∨ x = "C" ∨ x = "D$" := by simpa [names4] using h

/-- a number or a text -/
def IsVal (v : Value) : Prop := (∃ i t, v = .int i t) ∨ ∃ x t, v = .str x t ∧ x.length ≤ 1000
/-- how a value is refused under a name: the empty word says not -/
def fitWord (x : Str) (v : Value) : Str :=
  match v with
  | .int i _ => if isText x then "TM" else if 32767 < i ∨ i < -32768 then "OV" else ""
  | .str y _ => if isText x then (if 255 < y.length then "ST" else "") else "TM"
  | _ => "TM"
/-- what stands at a name that was never put -/
def IsNothing (x : Str) (v : Value) : Prop := if isText x then ∃ t, v = .str "" t else ∃ t, v = .int 0 t

theorem keep0 {h0 g h : Heap} {L : Addr} {m : Str → Option Value} (hg : g = hideAll h0 []) (F : Fr g L h m) : ∀ b o, h0.get? b = some o → h.get? b = some o := by
  subst hg; exact F.keep
theorem keepW {h0 g h : Heap} {L : Addr} {m : Str → Option Value} {W : List Addr} (hg : g = hideAll h0 W) (F : Fr g L h m) : ∀ b o, h0.get? b = some o → b ∉ W → h.get? b = some o := by
  subst hg; exact fun b o e hb => F.keep b o (hideAll_get _ e hb)

/-- all stands but what lies at W -/
abbrev KeepW (W : List Addr) (h h' : Heap) : Prop := ∀ b o, h.get? b = some o → b ∉ W → h'.get? b = some o
theorem fresh_of {h0 g h : Heap} {L : Addr} {W : List Addr} {news : List (Addr × Obj)} {p : Addr × Obj} (hg : g = hideAll h0 W) (N : News g L h news) (hp : p ∈ news) (hW : p.1 ∉ W) : h0.get? p.1 = none := by
  cases q : h0.get? p.1 with
  | none => rfl
  | some o => have := (N p hp).2.2; rw [hg, hideAll_get _ q hW] at this; cases this
theorem nm_nil (a : Addr) : a ∉ ([] : List Addr) := fun h => nomatch h
theorem nm_cons {a b : Nat} {l : List Addr} (h : a ≠ b) (hl : a ∉ l) : a ∉ (b :: l : List Addr) := fun q => (List.mem_cons.mp q).elim h hl
theorem nm_one {a b : Nat} (h : a ≠ b) : a ∉ ([b] : List Addr) := nm_cons h (nm_nil a)

section
variable {g h h' : Heap} {L : Addr} {m : Str → Option Value} {W : List Addr} {news : List (Addr × Obj)}
theorem KeepW.trans {h0 h1 h2 : Heap} (a : KeepW W h0 h1) (b : KeepW W h1 h2) : KeepW W h0 h2 := fun x o e hx => b x o (a x o e hx) hx
theorem KeepW.all {h0 h1 : Heap} (k : ∀ b o, h0.get? b = some o → h1.get? b = some o) : KeepW W h0 h1 := fun b o e _ => k b o e
theorem Fr.kpW (F : Fr g L h m) (k : KeepW W h h') (hW : ∀ b ∈ W, g.get? b = none ∧ b ≠ L) : Fr g L h' m := by
  obtain ⟨oL, es, ep, hL, r⟩ := F.ns
  exact ⟨⟨oL, es, ep, k L oL hL (fun q => (hW L q).2 rfl), r⟩, fun b o e => k b o (F.keep b o e) (fun q => by rw [(hW b q).1] at e; cases e), F.above⟩
theorem News.kpW (N : News g L h news) (k : KeepW W h h') (hW : ∀ p ∈ news, p.1 ∉ W) : News g L h' news := fun p hp => ⟨k _ _ (N p hp).1 (hW p hp), (N p hp).2⟩
theorem News.nil' : News g L h [] := fun _ q => nomatch q
theorem News.one {all r : List (Addr × Obj)} {p : Addr × Obj} (N : News g L h all) (hm : p ∈ all) (R : News g L h r) : News g L h (p :: r) := fun q hq => by
  rcases List.mem_cons.mp hq with rfl | hq
  · exact N _ hm
  · exact R q hq
theorem News.put {r : List (Addr × Obj)} {p : Addr × Obj} (x : h.get? p.1 = some p.2 ∧ p.1 ≠ L ∧ g.get? p.1 = none) (R : News g L h r) : News g L h (p :: r) := fun q hq => by
  rcases List.mem_cons.mp hq with rfl | hq
  · exact x
  · exact R q hq
/-- an entry of before, changed -/
theorem News.old {a : Addr} {o o' : Obj} (N : News g L h news) (hm : (a, o) ∈ news) (e : h'.get? a = some o') {r : List (Addr × Obj)} (R : News g L h' r) : News g L h' ((a, o') :: r) := fun p hp => by
  rcases List.mem_cons.mp hp with rfl | hp
  · exact ⟨e, (N _ hm).2⟩
  · exact R p hp
/-- an object that the callee made -/
theorem News.made {a : Addr} {o : Obj} (F : Fr g L h m) (n : h.get? a = none) (e : h'.get? a = some o) {r : List (Addr × Obj)} (R : News g L h' r) : News g L h' ((a, o) :: r) := fun p hp => by
  rcases List.mem_cons.mp hp with rfl | hp
  · refine ⟨e, fun q => ?_, ?_⟩
    · have : h.get? L = none := q ▸ n
      obtain ⟨oL, _, _, hL, _⟩ := F.ns; rw [this] at hL; cases hL
    · cases q : g.get? a with
      | none => rfl
      | some o' => have := F.keep _ _ q; rw [n] at this; cases this
  · exact R p hp
theorem out_of {g : Heap} {h0 : Heap} {W : List Addr} (hg : g = hideAll h0 W) : ∀ b ∈ W, g.get? b = none := fun b hb => by rw [hg]; exact hideAll_none _ hb
theorem outL_of {g : Heap} {h0 : Heap} {W : List Addr} (hg : g = hideAll h0 W) (hL : L = h0.objs.size) (hW : ∀ b ∈ W, ∃ o, h0.get? b = some o) : ∀ b ∈ W, g.get? b = none ∧ b ≠ L := fun b hb => ⟨out_of hg b hb, fun q => by
  obtain ⟨o, e⟩ := hW b hb
  have := Heap.lt_size e
  rw [q, hL] at this; exact absurd this (Nat.lt_irrefl _)⟩
theorem nf_cons {a : Addr} {name : Str} {scope : Scope} {L f : Addr} {cd : Value} {cl : List (Str × Addr)} {outer : List Env} (h1 : a ≠ L) (h2 : a ∉ frs outer) : a ∉ frs (envX name scope L f cd cl :: outer) := fun q => (mem_frs (L := L) rfl q).elim h1 h2
theorem fresh_back {h0 h1 : Heap} {a : Addr} (n : h1.get? a = none) (k : KeepW W h0 h1) (hW : ∀ b ∈ W, ∃ o, h1.get? b = some o) : h0.get? a = none := by
  cases q : h0.get? a with
  | none => rfl
  | some o =>
    by_cases ha : a ∈ W
    · obtain ⟨o', e⟩ := hW a ha; rw [n] at e; cases e
    · have := k a o q ha; rw [n] at this; cases this
end

def AllNe (d : Nat) : List (Addr × Obj) → Prop
  | [] => True
  | p :: r => @Ne Nat p.1 d ∧ AllNe d r
theorem allNe_ne {d a : Nat} {o : Obj} : ∀ {news : List (Addr × Obj)}, AllNe d news → (a, o) ∈ news → a ≠ d
  | [], _, h => nomatch h
  | p :: r, h, hm => by
    rcases List.mem_cons.mp hm with e | hm
    · have := h.1; rw [← e] at this; exact this
    · exact allNe_ne h.2 hm
theorem allLt_ne {d a : Nat} {o : Obj} : ∀ {news : List (Addr × Obj)}, AllLt d news → (a, o) ∈ news → a ≠ d
  | [], _, h => nomatch h
  | p :: r, h, hm => by
    rcases List.mem_cons.mp hm with e | hm
    · have := h.1; rw [← e] at this; exact Nat.ne_of_lt this
    · exact allLt_ne h.2 hm

local macro_rules | `(tactic| walk_at $s:str) => `(tactic| k_extra $s)
local macro_rules | `(tactic| k_updF) => `(tactic| walk_at "m_updF")
local macro_rules | `(tactic| k_upd) => `(tactic| walk_at "m_upd")
theorem words_final_m_0 : True := by
  k_with "m_steps" => ((all_goals try k_fold); k_steps; (all_goals (try k_unfold)); (all_goals (try dsimp only)))
  k_with "m_at" => (refine' at_in ?zzB ?zzF ?zzR ?zzz; (case zzB => assumption); (case zzF => assumption); (case zzR => exact Rm.le (by assumption)); (case zzz => rfl))
  k_with "m_cont" => all_goals first | (intro h' tk' hk'; (have F' := Fr.kp (by assumption) hk'); (have N' := News.kp (by assumption) hk'); (revert h' tk' hk' F' N'; intros); (try dsimp only); (try k_sweep)) | (intro hc' h' tk' hk'; (have F' := Fr.kp (by assumption) hk'); (have N' := News.kp (by assumption) hk'); (revert hc' h' tk' hk' F' N'; intros); (try dsimp only); (try k_sweep)) | (intro h' tk' ea' hR'; (have hR2 : Rsd _ _ _ _ _ _ _ := hR'); clear hR2; (revert h' tk' ea' hR'; intros); (try dsimp only)) | (intro hc' h' tk' ea' hR'; (have hR2 : Rsd _ _ _ _ _ _ _ := hR'); clear hR2; (revert hc' h' tk' ea' hR'; intros); (try dsimp only))
  k_with "spliced" => (k_here; dsimp only; k_dflt (walk_at "spliced"))
  k_with "m_ne" => (refine neN ?_; (try dsimp only); first | assumption | exact Ne.symm (by assumption) | exact Nat.ne_of_lt (by assumption) | exact Nat.ne_of_gt (by assumption) | exact allLt_ne (by assumption) (by k_mem) | exact Ne.symm (allLt_ne (by assumption) (by k_mem)) | exact allNe_ne (by assumption) (by k_mem) | exact Ne.symm (allNe_ne (by assumption) (by k_mem)) | omega)
  k_with "m_le" => (first | assumption | exact Int.not_lt.mp (by assumption) | exact Int.not_le.mp (by assumption) | exact Nat.le_of_not_lt (by assumption) | exact Nat.lt_of_not_le (by assumption) | omega)
  k_with "m_sm" => (first | assumption | exact Nat.le_trans (by assumption) (by decide) | exact Int.le_trans (by assumption) (by decide) | omega)
  k_with "m_all" => first | exact List.forall_mem_nil _ | (refine' List.forall_mem_cons.mpr ⟨?zza, ?zzb⟩; (case zza => walk_at "m_ne"); (case zzb => walk_at "m_all"))
  k_with "m_updF" => first | (refine' UpdF.head ?zza; (case zza => walk_at "m_all")) | (refine' UpdF.tail ?zza ?zzb; (case zza => walk_at "m_ne"); (case zzb => k_updF))
  k_with "m_upd" => first | (refine' Upd.head ?zza; (case zza => walk_at "m_all")) | (refine' Upd.tail ?zza ?zzb; (case zza => walk_at "m_ne"); (case zzb => k_upd))
  trivial

theorem words_final_m_1 : True := by
  k_with "exec Raise some none" => (k_here; refine exec_raise (by assumption) ?_)
  k_with "call ref" => (k_here; (with_reducible show wpAny _ _ (call (Value.ref 31) [Value.str _ _]) _ _ _); (refine' basic_call (n := 1) ?zzk1 ?zzk2 ?_; (case zzk1 => assumption); (case zzk2 => (refine' at_in ?zzB ?zzF ?zzR ?zzz; (case zzB => assumption); (case zzF => assumption); (case zzR => exact Rm.le (by assumption)); (case zzz => rfl)))); intro hR' eR' tkR' hkR' hneR' hxR' hyR'; (revert hR' eR' tkR' hkR' hneR' hxR' hyR'; intros))
  k_with "RaisesB" => ((rename ∃ t d, _ = some _ => hyX); (obtain ⟨t', d', hy2⟩ := hyX); refine ⟨_, _, _, rfl, Frag.In.keeps (by assumption) (fun b o q => (by assumption : ∀ b o, Heap.get? _ b = some o → Heap.get? _ b = some o) b o (Fr.keep (by assumption) b o q)), hy2, ?_⟩; (revert t' d' hy2; intros))
  k_with "leaving ref" => (k_here; (refine' leave_direct ?zzB ?zzF ?zzN ?zzk ?zzn ?zzx ?_ ?zzs; (case zzx => assumption); (case zzk => assumption); (case zzB => assumption); (case zzF => assumption); (case zzN => assumption); (case zzn => assumption); (case zzs => rfl)); intro h' hRs' hNs'; (revert h' hRs' hNs'; intros); (try dsimp only))
  k_with "eval Call" => (k_here; k_dflt (refine Call_ ?_))
  trivial

section
variable {w : World} {loose : List Str} {mean : ExcName → Option Value} {mg mb : Str → Option Value} {b0 : Heap} {A : Around} {outer : List Env} {s : Shared} {R : Result → Shared → Prop} {t : Tok}

theorem is_text_name_spec (G : Gnd w loose mean mg mb b0) (H : At 1 b0 A outer s) {x : Str} (hx : x ∈ names4)
    (k : ∀ h' tk, (∀ b o, s.heap.get? b = some o → h'.get? b = some o) → R (.ok (.ret (.bool (isText x)))) { s with heap := h', toks := tk }) :
    codeAny (model prg w) A (.call (.ref 41) ⟨[.str x t], []⟩) R s := by
  rcases mem4 hx with rfl | rfl | rfl | rfl
  all_goals
    (refine' enter (news := []) G H ?kN ?k6 ?k7 ?k9 ?kB ?_ ?c2 ?c3 ?c4 ?c5; (case kN => first | exact List.forall_mem_nil _ | assumption); (case k6 => k_is); (case k7 => k_is); (case k9 => exact BindsTo.of_eq rfl); (case c5 => decide); (case kB => exact locs rfl); (case c2 => exact rfl); (case c3 => exact rfl); (case c4 => exact rfl); (try dsimp only))
    intro g L h1 hg hL F N B X T hrm tk0
    walk_at "m_steps"
    exact k _ _ (keep0 hg (by assumption))

theorem fitted_spec (G : Gnd w loose mean mg mb b0) (H : At 4 b0 A outer s) {i : Int}
    (k : ¬ (32767 < i ∨ i < -32768) → ∀ h' tk, (∀ b o, s.heap.get? b = some o → h'.get? b = some o) → R (.ok (.ret (.int i t))) { s with heap := h', toks := tk })
    (e : (32767 < i ∨ i < -32768) → ∀ h' tk ea, Rsd b0 outer [] s.heap h' ea "OV" → R (.error (.ref ea)) { s with heap := h', toks := tk }) :
    codeAny (model prg w) A (.call (.ref 48) ⟨[.int i t], []⟩) R s := by
  (refine' enter (news := []) G H ?kN ?k6 ?k7 ?k9 ?kB ?_ ?c2 ?c3 ?c4 ?c5; (case kN => first | exact List.forall_mem_nil _ | assumption); (case k6 => k_is); (case k7 => k_is); (case k9 => exact BindsTo.of_eq rfl); (case c5 => decide); (case kB => exact locs rfl); (case c2 => exact rfl); (case c3 => exact rfl); (case c4 => exact rfl); (try dsimp only))
  intro g L h1 hg hL F N B X T hrm tk0
  walk_at "m_steps"
  · exact k (by omega) _ _ (keep0 hg (by assumption))
  · exact e (by omega) _ _ _ (Rsd.wide (by assumption) hg)
  · exact e (by omega) _ _ _ (Rsd.wide (by assumption) hg)

theorem fitted_text_spec (G : Gnd w loose mean mg mb b0) (H : At 4 b0 A outer s) {y : Str} (hy : y.length ≤ 1000)
    (k : ¬ 255 < y.length → ∀ h' tk, (∀ b o, s.heap.get? b = some o → h'.get? b = some o) → R (.ok (.ret (.str y t))) { s with heap := h', toks := tk })
    (e : 255 < y.length → ∀ h' tk ea, Rsd b0 outer [] s.heap h' ea "ST" → R (.error (.ref ea)) { s with heap := h', toks := tk }) :
    codeAny (model prg w) A (.call (.ref 55) ⟨[.str y t], []⟩) R s := by
  (refine' enter (news := []) G H ?kN ?k6 ?k7 ?k9 ?kB ?_ ?c2 ?c3 ?c4 ?c5; (case kN => first | exact List.forall_mem_nil _ | assumption); (case k6 => k_is); (case k7 => k_is); (case k9 => exact BindsTo.of_eq rfl); (case c5 => decide); (case kB => exact locs rfl); (case c2 => exact rfl); (case c3 => exact rfl); (case c4 => exact rfl); (try dsimp only))
  intro g L h1 hg hL F N B X T hrm tk0
  walk_at "m_steps"
  · exact e (by omega) _ _ _ (Rsd.wide (by assumption) hg)
  · exact k (by omega) _ _ (keep0 hg (by assumption))

theorem need_number_int (G : Gnd w loose mean mg mb b0) (H : At 4 b0 A outer s) {i : Int}
    (k : ∀ h' tk, (∀ b o, s.heap.get? b = some o → h'.get? b = some o) → R (.ok (.ret (.int i t))) { s with heap := h', toks := tk }) :
    codeAny (model prg w) A (.call (.ref 62) ⟨[.int i t], []⟩) R s := by
  (refine' enter (news := []) G H ?kN ?k6 ?k7 ?k9 ?kB ?_ ?c2 ?c3 ?c4 ?c5; (case kN => first | exact List.forall_mem_nil _ | assumption); (case k6 => k_is); (case k7 => k_is); (case k9 => exact BindsTo.of_eq rfl); (case c5 => decide); (case kB => exact locs rfl); (case c2 => exact rfl); (case c3 => exact rfl); (case c4 => exact rfl); (try dsimp only))
  intro g L h1 hg hL F N B X T hrm tk0
  walk_at "m_steps"
  exact k _ _ (keep0 hg (by assumption))
theorem need_number_str (G : Gnd w loose mean mg mb b0) (H : At 4 b0 A outer s) {y : Str}
    (e : ∀ h' tk ea, Rsd b0 outer [] s.heap h' ea "TM" → R (.error (.ref ea)) { s with heap := h', toks := tk }) :
    codeAny (model prg w) A (.call (.ref 62) ⟨[.str y t], []⟩) R s := by
  (refine' enter (news := []) G H ?kN ?k6 ?k7 ?k9 ?kB ?_ ?c2 ?c3 ?c4 ?c5; (case kN => first | exact List.forall_mem_nil _ | assumption); (case k6 => k_is); (case k7 => k_is); (case k9 => exact BindsTo.of_eq rfl); (case c5 => decide); (case kB => exact locs rfl); (case c2 => exact rfl); (case c3 => exact rfl); (case c4 => exact rfl); (try dsimp only))
  intro g L h1 hg hL F N B X T hrm tk0
  walk_at "m_steps"
  exact e _ _ _ (Rsd.wide (by assumption) hg)
theorem need_text_str (G : Gnd w loose mean mg mb b0) (H : At 4 b0 A outer s) {y : Str}
    (k : ∀ h' tk, (∀ b o, s.heap.get? b = some o → h'.get? b = some o) → R (.ok (.ret (.str y t))) { s with heap := h', toks := tk }) :
    codeAny (model prg w) A (.call (.ref 69) ⟨[.str y t], []⟩) R s := by
  (refine' enter (news := []) G H ?kN ?k6 ?k7 ?k9 ?kB ?_ ?c2 ?c3 ?c4 ?c5; (case kN => first | exact List.forall_mem_nil _ | assumption); (case k6 => k_is); (case k7 => k_is); (case k9 => exact BindsTo.of_eq rfl); (case c5 => decide); (case kB => exact locs rfl); (case c2 => exact rfl); (case c3 => exact rfl); (case c4 => exact rfl); (try dsimp only))
  intro g L h1 hg hL F N B X T hrm tk0
  walk_at "m_steps"
  exact k _ _ (keep0 hg (by assumption))
theorem need_text_int (G : Gnd w loose mean mg mb b0) (H : At 4 b0 A outer s) {i : Int}
    (e : ∀ h' tk ea, Rsd b0 outer [] s.heap h' ea "TM" → R (.error (.ref ea)) { s with heap := h', toks := tk }) :
    codeAny (model prg w) A (.call (.ref 69) ⟨[.int i t], []⟩) R s := by
  (refine' enter (news := []) G H ?kN ?k6 ?k7 ?k9 ?kB ?_ ?c2 ?c3 ?c4 ?c5; (case kN => first | exact List.forall_mem_nil _ | assumption); (case k6 => k_is); (case k7 => k_is); (case k9 => exact BindsTo.of_eq rfl); (case c5 => decide); (case kB => exact locs rfl); (case c2 => exact rfl); (case c3 => exact rfl); (case c4 => exact rfl); (try dsimp only))
  intro g L h1 hg hL F N B X T hrm tk0
  walk_at "m_steps"
  exact e _ _ _ (Rsd.wide (by assumption) hg)
end

theorem words_final_m_2 : True := by
  k_with "leaving ref" => (k_here; (refine' leave_prop ?zzB ?zzF ?zzN ?zzx ?zzW ?_; (case zzx => assumption); (case zzB => assumption); (case zzF => assumption); (case zzN => assumption); (case zzW => first | assumption | exact fun _ z => absurd z List.not_mem_nil)); intro h' hRs' hNs' hOs'; (revert h' hRs' hNs' hOs'; intros); (try dsimp only))
  k_with "call ref" => (k_here; (with_reducible show wpAny _ _ (call (Value.ref 41) [Value.str _ _]) _ _ _); k_dflt (refine' wpAny_call (is_text_name_spec ?zzG ?zzH ?zzx ?_); (case zzG => assumption); (case zzH => walk_at "m_at"); (case zzx => assumption); walk_at "m_cont"))
  k_with "call ref" => (k_here; (with_reducible show wpAny _ _ (call (Value.ref 48) [Value.int _ _]) _ _ _); k_dflt (refine' wpAny_call (fitted_spec ?zzG ?zzH  ?_ ?_); (case zzG => assumption); (case zzH => walk_at "m_at"); walk_at "m_cont"))
  k_with "call ref" => (k_here; (with_reducible show wpAny _ _ (call (Value.ref 55) [Value.str _ _]) _ _ _); k_dflt (refine' wpAny_call (fitted_text_spec ?zzG ?zzH ?zzy ?_ ?_); (case zzG => assumption); (case zzH => walk_at "m_at"); (case zzy => assumption); walk_at "m_cont"))
  k_with "call ref" => (k_here; (with_reducible show wpAny _ _ (call (Value.ref 62) [Value.int _ _]) _ _ _); k_dflt (refine' wpAny_call (need_number_int ?zzG ?zzH  ?_); (case zzG => assumption); (case zzH => walk_at "m_at"); walk_at "m_cont"))
  k_with "call ref" => (k_here; (with_reducible show wpAny _ _ (call (Value.ref 62) [Value.str _ _]) _ _ _); k_dflt (refine' wpAny_call (need_number_str ?zzG ?zzH  ?_); (case zzG => assumption); (case zzH => walk_at "m_at"); walk_at "m_cont"))
  k_with "call ref" => (k_here; (with_reducible show wpAny _ _ (call (Value.ref 69) [Value.str _ _]) _ _ _); k_dflt (refine' wpAny_call (need_text_str ?zzG ?zzH  ?_); (case zzG => assumption); (case zzH => walk_at "m_at"); walk_at "m_cont"))
  k_with "call ref" => (k_here; (with_reducible show wpAny _ _ (call (Value.ref 69) [Value.int _ _]) _ _ _); k_dflt (refine' wpAny_call (need_text_int ?zzG ?zzH  ?_); (case zzG => assumption); (case zzH => walk_at "m_at"); walk_at "m_cont"))
  trivial

section
variable {w : World} {loose : List Str} {mean : ExcName → Option Value} {mg mb : Str → Option Value} {b0 : Heap} {A : Around} {outer : List Env} {s : Shared} {R : Result → Shared → Prop} {t : Tok}

theorem fit_value_spec (G : Gnd w loose mean mg mb b0) (H : At 6 b0 A outer s) {x : Str} {v : Value} (hx : x ∈ names4) (hv : IsVal v)
    (k : fitWord x v = "" → ∀ h' tk, (∀ b o, s.heap.get? b = some o → h'.get? b = some o) → R (.ok (.ret v)) { s with heap := h', toks := tk })
    (e : fitWord x v ≠ "" → ∀ h' tk ea, Rsd b0 outer [] s.heap h' ea (fitWord x v) → R (.error (.ref ea)) { s with heap := h', toks := tk }) :
    codeAny (model prg w) A (.call (.ref 146) ⟨[.str x t, v], []⟩) R s := by
  rcases hv with ⟨i, tv, rfl⟩ | ⟨y, tv, rfl, hy⟩
  all_goals cases hT : isText x
  all_goals
    (refine' enter (news := []) G H ?kN ?k6 ?k7 ?k9 ?kB ?_ ?c2 ?c3 ?c4 ?c5; (case kN => first | exact List.forall_mem_nil _ | assumption); (case k6 => k_is); (case k7 => k_is); (case k9 => exact BindsTo.of_eq rfl); (case c5 => decide); (case kB => exact locs rfl); (case c2 => exact rfl); (case c3 => exact rfl); (case c4 => exact rfl); (try dsimp only))
    intro g L h1 hg hL F N B X T hrm tk0
    walk_at "m_steps"
  · rename_i hc _ _ _ _ _
    exact k (by simp only [fitWord, hT]; rw [if_neg Bool.false_ne_true, if_neg hc]) _ _ (keep0 hg (by assumption))
  · rename_i hc _ _ _ _ _ _ _ _
    have hw : fitWord x (.int i tv) = "OV" := by simp only [fitWord, hT]; rw [if_neg Bool.false_ne_true, if_pos hc]
    exact e (by rw [hw]; decide) _ _ _ (hw ▸ Rsd.wide (by assumption) hg)
  · have hw : fitWord x (.int i tv) = "TM" := by simp only [fitWord, hT]; rw [if_pos trivial]
    exact e (by rw [hw]; decide) _ _ _ (hw ▸ Rsd.wide (by assumption) hg)
  · have hw : fitWord x (.str y tv) = "TM" := by simp only [fitWord, hT]; rw [if_neg Bool.false_ne_true]
    exact e (by rw [hw]; decide) _ _ _ (hw ▸ Rsd.wide (by assumption) hg)
  · rename_i hc _ _ _ _ _
    exact k (by simp only [fitWord, hT]; rw [if_pos trivial, if_neg hc]) _ _ (keep0 hg (by assumption))
  · rename_i hc _ _ _ _ _ _ _ _
    have hw : fitWord x (.str y tv) = "ST" := by simp only [fitWord, hT]; rw [if_pos trivial, if_pos hc]
    exact e (by rw [hw]; decide) _ _ _ (hw ▸ Rsd.wide (by assumption) hg)

theorem nothing_of_spec (G : Gnd w loose mean mg mb b0) (H : At 3 b0 A outer s) {x : Str} (hx : x ∈ names4)
    (k : ∀ v h' tk, IsNothing x v → (∀ b o, s.heap.get? b = some o → h'.get? b = some o) → R (.ok (.ret v)) { s with heap := h', toks := tk }) :
    codeAny (model prg w) A (.call (.ref 118) ⟨[.str x t], []⟩) R s := by
  cases hT : isText x
  all_goals
    (refine' enter (news := []) G H ?kN ?k6 ?k7 ?k9 ?kB ?_ ?c2 ?c3 ?c4 ?c5; (case kN => first | exact List.forall_mem_nil _ | assumption); (case k6 => k_is); (case k7 => k_is); (case k9 => exact BindsTo.of_eq rfl); (case c5 => decide); (case kB => exact locs rfl); (case c2 => exact rfl); (case c3 => exact rfl); (case c4 => exact rfl); (try dsimp only))
    intro g L h1 hg hL F N B X T hrm tk0
    walk_at "m_steps"
  · exact k _ _ _ (by unfold IsNothing; rw [hT]; exact ⟨_, rfl⟩) (keep0 hg (by assumption))
  · exact k _ _ _ (by unfold IsNothing; rw [hT]; exact ⟨_, rfl⟩) (keep0 hg (by assumption))

end

/-- the walk stops here -/
def Stop (P : Prop) : Prop := P
theorem stopM {P : Prop} (h : Stop P) : P := h

/-- a dict with texts for keys -/
def DictObj (w : World) (d : Addr) (o : Obj) (kvs : List (Str × Value)) : Prop := (d == sysModules) = false ∧ o.IsDictOf (PySem.strKind prg w) kvs
abbrev tupObj (its : List Value) : Obj := { cls := .type "tuple", data := .seq its.toArray }
/-- the dict of a Store -/
abbrev storeDict (w : World) (vd ad rd : Addr) (sp : Int) (t1 t2 t3 t4 t5 : Tok) : Obj :=
  dictOf [{ hash := PyData.keyHash w.params (Str.ofString "values"), key := .str (Str.ofString "values") t1, val := .ref vd }, { hash := PyData.keyHash w.params (Str.ofString "arrays"), key := .str (Str.ofString "arrays") t2, val := .ref ad },
    { hash := PyData.keyHash w.params (Str.ofString "randoms"), key := .str (Str.ofString "randoms") t3, val := .ref rd }, { hash := PyData.keyHash w.params (Str.ofString "spot"), key := .str (Str.ofString "spot") t4, val := .int sp t5 }] 4

theorem inst_of {h : Heap} {x dx C : Addr} {od : Obj} (h1 : h.get? x = some (instObj C dx)) (h2 : h.get? dx = some od) : InstAt h x (instObj C dx) C (some od) := ⟨h1, rfl, rfl, h2⟩

section
variable {w : World} {A : Around} {E : Value → Shared → Prop} {s : Shared} {d : Addr} {o : Obj} {kvs : List (Str × Value)} {x : Str} {t : Tok} {g : Heap} {L : Addr} {m : Str → Option Value} {news : List (Addr × Obj)}

theorem DictObj.at {h : Heap} (D : DictObj w d o kvs) (ho : h.get? d = some o) : h.DictOf (PySem.strKind prg w) d kvs := Heap.dictOf_iff.mpr ⟨o, ho, D.2⟩
theorem DictObj.nf (D : DictObj w d o kvs) : ∀ vs, o.data ≠ .fields vs := fun vs q => by obtain ⟨_, es, ep, _, e, _⟩ := D; rw [q] at e; cases e
theorem DictObj.nodup (D : DictObj w d o kvs) : (kvs.map (·.1)).Nodup := by obtain ⟨_, _, _, _, _, _, n⟩ := D.2; exact n

theorem in_dict {Q : Value → Shared → Prop} (ho : s.heap.get? d = some o) (D : DictObj w d o kvs) (h : Q (.bool (valueAt kvs x).isSome) { s with toks := s.toks + 1 }) :
    wpAny (model prg w) A (compareOp .In (.str x t) (.ref d)) Q E s := wpAny_in_of (strKind_is _ _ _ _) D.1 (D.at ho).mapOf h
theorem notin_dict {Q : Value → Shared → Prop} (ho : s.heap.get? d = some o) (D : DictObj w d o kvs) (h : Q (.bool (!(valueAt kvs x).isSome)) { s with toks := s.toks + 1 }) :
    wpAny (model prg w) A (compareOp .NotIn (.str x t) (.ref d)) Q E s := wpAny_notIn_of (strKind_is _ _ _ _) D.1 (D.at ho).mapOf h
theorem sub_dict {value slice : PySem.Expr} {v : Value} {Q : Value → Shared → Prop} (ho : s.heap.get? d = some o) (D : DictObj w d o kvs) (hv : valueAt kvs x = some v) (h : Q v { s with toks := s.toks + 1 })
    (hs : subscripted slice false (.ref d) (.str x t) = operate [.ref d, .str x t] (getItem (.ref d) (.str x t)) := by with_unfolding_all rfl) :
    wpAny (model prg w) A (subscriptTail value slice (.ref d) (.str x t)) Q E s :=
  tail_any (D.at ho).typeIs slot_dict_getitem.lookup (wpAny_getItem_of (strKind_is _ _ _ _) (D.at ho).mapOf hv h) hs
theorem set_dict {news' : Obj → List (Addr × Obj)} {v : Value} {Q : Unit → Shared → Prop} (F : Fr g L s.heap m) (N : News g L s.heap news) (U : UpdF d o news news') (D : DictObj w d o kvs) (hsz : kvs.length ≤ 1000)
    (h : ∀ h' o', Fr g L h' m → News g L h' (news' o') → DictObj w d o' (stored kvs x v) → Q () { s with heap := h', toks := s.toks + 1 }) :
    wpAny (model prg w) A (setItem (.ref d) (.str x t) v) Q E s := by
  obtain ⟨own, rest, rfl, hgr, h1, h2⟩ := U.split
  have hm := N (d, o) (List.mem_append_right _ (.head _))
  refine wpAny_setItem_pairs (strKind_is _ _ _ _) (D.at hm.1) (fun h' hd hs => ?_) (line_le hsz)
  obtain ⟨o', ho', hi⟩ := Heap.dictOf_iff.mp hd
  refine h h' o' ⟨F.ns.sameBut hs hm.2.1.symm, fun b ob e => (hs.2 b fun q => ?_).trans (F.keep b ob e), F.above⟩ (hgr o' ▸ N.setAt h1 h2 hs ho') ⟨D.1, hi⟩
  rw [q, hm.2.2] at e; cases e

theorem mul_one {l : Addr} {v : Value} {k : Nat} {n : Int} {u : Tok} {Q : Value → Shared → Prop} (F : Fr g L s.heap m) (N : News g L s.heap news) (hl : s.heap.get? l = some (listOf #[v] k)) (h0 : 0 ≤ n) (hn : n ≤ 100000)
    (h : ∀ l' h', Fr g L h' m → News g L h' ((l', listOf (List.replicate n.toNat v).toArray 0) :: news) → (∀ p ∈ news, p.1 < l') → Q (.ref l') { s with heap := h' }) :
    wpAny (model prg w) A (binaryOp .Mult (.ref l) (.int n u)) Q E s := by
  refine mul_list F N hl (by omega) (by omega) (by simp; omega) fun h' F' N' => h _ h' F' ?_ fun p hp => Heap.lt_size (N p hp).1
  have e : ∀ k : Nat, ∀ a : Array Value, List.foldl (fun x1 x2 => x1 ++ x2) a (List.replicate k #[v]) = (a.toList ++ List.replicate k v).toArray := by
    intro k
    induction k with
    | zero => intro a; simp
    | succ k ih => intro a; rw [List.replicate_succ, List.foldl_cons, ih]; simp [List.replicate_succ]
  have := e n.toNat #[]
  simp only [List.nil_append] at this
  rw [show (if (#[v] : Array Value).isEmpty = true then 0 else n.toNat) = n.toNat from rfl, this] at N'
  exact N'

theorem tuple_led {vs : List Value} {Q : Value → Shared → Prop} (F : Fr g L s.heap m) (N : News g L s.heap news)
    (h : ∀ D h', Fr g L h' m → News g L h' ((D, tupObj vs) :: news) → (∀ p ∈ news, p.1 < D) → Q (.ref D) { s with heap := h' }) (hz : vs.length ≤ 1000) : wpAny (model prg w) A (newTuple vs) Q E s :=
  newTuple_N F N (fun h' F' N' => h _ h' F' N' fun p hp => Heap.lt_size (N p hp).1) (by first | exact line_le hz | exact Nat.le_succ_of_le (line_le hz))
theorem list_led {vs : List Value} {Q : Value → Shared → Prop} (F : Fr g L s.heap m) (N : News g L s.heap news)
    (h : ∀ D h', Fr g L h' m → News g L h' ((D, listOf vs.toArray 0) :: news) → (∀ p ∈ news, p.1 < D) → Q (.ref D) { s with heap := h' }) (hz : vs.length ≤ 1000) : wpAny (model prg w) A (newList vs) Q E s :=
  newList_N F N (fun h' F' N' => h _ h' F' N' fun p hp => Heap.lt_size (N p hp).1) (by first | exact line_le hz | exact Nat.le_succ_of_le (line_le hz))
theorem len_led {l : Addr} {vs : List Value} {c : Nat} {Q : Value → Shared → Prop} (ho : s.heap.get? l = some (listOf vs.toArray c)) (hz : vs.length ≤ 100000) (h : Q (.int vs.length (s.toks + 1)) { s with toks := s.toks + 1 + 1 }) :
    wpAny (model prg w) A (call (.builtin "len") [.ref l]) Q E s := by
  have e : (List.toArray vs).size = vs.length := List.size_toArray
  exact call_len_list ⟨_, ho, rfl, c, rfl⟩ (by rw [e]; exact Int.lt_of_le_of_lt (Int.ofNat_le.mpr hz) (by decide)) (by rw [e]; exact h)
theorem isList_get {h : Heap} {l : Addr} {a : Array Value} {c : Nat} (e : h.get? l = some (listOf a c)) : h.IsList l a := ⟨_, e, rfl, c, rfl⟩
theorem isTup_get {h : Heap} {l : Addr} {a : List Value} (e : h.get? l = some (tupObj a)) : IsTup h l a.toArray := ⟨_, e, rfl, _, rfl⟩
end

section
variable {w : World} {A : Around} {E : Value → Shared → Prop} {s : Shared} {env : Env} {g : Heap} {x : Str} {body : List Stmt} {Q : Flow → Shared → Prop}
/-- a loop over a list of ints that turns one int -/
theorem iter_one {l : Addr} {vs : List Value} {ns : List Int} {m₀ : Str → Option Value} {news : List (Addr × Obj)} (P : Nat → Int → Prop) (y : Str) {a₀ : Int} {t₀ : Tok}
    (hh : A.handled = none) (hl : g.IsList l vs.toArray) (hi : IntsAre vs ns) (F : Fr g env.locals s.heap m₀) (N : News g env.locals s.heap news) (hy : m₀ y = some (.int a₀ t₀)) (hyx : y ≠ x) (h0 : P 0 a₀)
    (turn : ∀ i n t a ta h tk own, ns[i]? = some n → P i a → Fr g env.locals h (fun z => if z = x then some (.int n t) else if z = y then some (.int a ta) else m₀ z) → News g env.locals h (own ++ news) →
      wpAny (model prg w) A (execs body env) (InvPost g env.locals (fun m' => ∃ a' t', P (i + 1) a' ∧ m' y = some (.int a' t') ∧ ∀ z, z ≠ x → z ≠ y → m' z = m₀ z) (own ++ news) { s with heap := h, toks := tk } Q) E { s with heap := h, toks := tk })
    (done : ∀ (u : Str → Option Value) a t h tk, P ns.length a → Fr g env.locals h (fun z => if z = x then u z else if z = y then some (.int a t) else m₀ z) → News g env.locals h news → Q .next { s with heap := h, toks := tk }) :
    wpAny (model prg w) A (pyIter (.ref l)) (fun it s₂ => LoopAtV prg w A g env x body Q E it s₂) E s := by
  refine iter_inv (fun i m => ∃ a t, P i a ∧ m y = some (.int a t) ∧ ∀ z, z ≠ x → z ≠ y → m z = m₀ z) hh hl hi F N ⟨a₀, t₀, h0, hy, fun _ _ _ => rfl⟩ ?_ ?_
  · rintro i n t m₁ h tk own hn ⟨a, ta, hp, ha, hm⟩ F₁ N₁
    have e : (fun z => if z = x then some (Value.int n t) else m₁ z) = fun z => if z = x then some (Value.int n t) else if z = y then some (Value.int a ta) else m₀ z := by
      funext z
      by_cases h1 : z = x
      · simp [h1]
      · simp only [if_neg h1]
        by_cases h2 : z = y
        · subst h2; simp [ha]
        · simp only [if_neg h2]; exact hm z h1 h2
    rw [e] at F₁
    exact turn i n t a ta h tk own hn hp F₁ N₁
  · rintro m₁ h tk ⟨a, t, hp, ha, hm⟩ F₁ N₁
    refine done m₁ a t h tk hp ?_ N₁
    have e : (fun z => if z = x then m₁ z else if z = y then some (Value.int a t) else m₀ z) = m₁ := by
      funext z
      by_cases h1 : z = x
      · simp [h1]
      · simp only [if_neg h1]
        by_cases h2 : z = y
        · subst h2; simp [ha]
        · simp only [if_neg h2]; exact (hm z h1 h2).symm
    rw [e]; exact F₁
end

section
variable {w : World} {A : Around} {E : Value → Shared → Prop} {s : Shared} {env : Env} {g : Heap} {L : Addr} {m : Str → Option Value} {news : List (Addr × Obj)}

/-- a zip of two lists, just made -/
def ZipAt (g h : Heap) (L : Addr) (news : List (Addr × Obj)) (z l1 l2 : Addr) (xs ys : List Value) : Prop :=
  ∃ TI TO i1 i2, ZipApart z TI TO i1 i2 l1 l2 ∧ (IsZip h z TI TO .none ∧ IsPair h TI (.ref i1) (.ref i2) ∧ (∃ a b, IsPair h TO a b) ∧ h.IsListIter i1 l1 0 ∧ h.IsListIter i2 l2 0 ∧ h.IsList l1 xs.toArray ∧ h.IsList l2 ys.toArray) ∧
    L ∉ [z, TI, TO, i1, i2, l1, l2] ∧ (∀ b ∈ [z, TO, i1, i2], g.get? b = none) ∧ ∀ p ∈ news, p.1 ∉ [z, TO, i1, i2]

theorem call_zip_own {l1 l2 : Addr} {xs ys : List Value} {c1 c2 : Nat} {Q : Value → Shared → Prop} (F : Fr g L s.heap m) (N : News g L s.heap news) (hl1 : s.heap.get? l1 = some (listOf xs.toArray c1)) (hl2 : s.heap.get? l2 = some (listOf ys.toArray c2))
    (h : ∀ h' z, Fr g L h' m → News g L h' news → ZipAt g h' L news z l1 l2 xs ys → Q (.ref z) { s with heap := h' }) :
    wpAny (model prg w) A (call (.type "zip") [.ref l1, .ref l2]) Q E s := by
  have a1 : l1 < s.heap.objs.size := Heap.lt_size hl1
  have a2 : l2 < s.heap.objs.size := Heap.lt_size hl2
  have hLs : L < s.heap.objs.size := F.ns.lt
  have hab : g.objs.size ≤ L := F.above
  have nl : ∀ {l : Addr} {xs : List Value} {c : Nat}, s.heap.get? l = some (listOf xs.toArray c) → L ≠ l := fun e q => by
    obtain ⟨o, es, ep, ho, hd, _⟩ := F.ns
    rw [q, e] at ho; cases ho; cases hd
  refine call_zip_2 (isList_get hl1) (isList_get hl2) fun h' hz hTI hTO hit1 hit2 hsz hk => ?_
  refine h h' _ (Fr.kp F hk) (News.kp N hk) ⟨_, _, _, _, zipApart_new a1 a2, ⟨hz, hTI, ⟨_, _, hTO⟩, hit1, hit2, isList_get (hk _ _ hl1), isList_get (hk _ _ hl2)⟩, ?_, ?_, ?_⟩
  · intro hm
    simp only [List.mem_cons, List.not_mem_nil, or_false] at hm
    have up : ∀ k, L ≠ s.heap.objs.size + k := fun k e => Nat.ne_of_lt (Nat.lt_of_lt_of_le hLs (Nat.le_add_right _ k)) e
    rcases hm with e | e | e | e | e | e | e
    · exact up 4 e
    · exact up 2 e
    · exact up 3 e
    · exact up 0 e
    · exact up 1 e
    · exact nl hl1 e
    · exact nl hl2 e
  · intro b hb
    simp only [List.mem_cons, List.not_mem_nil, or_false] at hb
    have nw : ∀ k, g.get? (s.heap.objs.size + k) = none := fun k => Heap.get?_none_of_le (Nat.le_trans hab (Nat.le_trans (Nat.le_of_lt hLs) (Nat.le_add_right _ k)))
    rcases hb with rfl | rfl | rfl | rfl
    · exact nw 4
    · exact nw 3
    · exact nw 0
    · exact nw 1
  · intro p hp hm
    have hq1 := Heap.lt_size (N p hp).1
    simp only [List.mem_cons, List.not_mem_nil, or_false] at hm
    have dn : ∀ k, p.1 ≠ s.heap.objs.size + k := fun k e => Nat.ne_of_lt (Nat.lt_of_lt_of_le hq1 (Nat.le_add_right _ k)) e
    rcases hm with e | e | e | e
    · exact dn 4 e
    · exact dn 3 e
    · exact dn 0 e
    · exact dn 1 e

variable {xi xc : Str} {body : List Stmt} {Q : Flow → Shared → Prop}
theorem iter_zip_gen {z l1 l2 : Addr} {xs ys : List Value} {as bs : List Int} {m₀ : Str → Option Value} (J : Nat → (Str → Option Value) → Prop) (hh : A.handled = none)
    (Z : ZipAt g s.heap env.locals news z l1 l2 xs ys) (hi1 : IntsAre xs as) (hi2 : IntsAre ys bs) (F : Fr g env.locals s.heap m₀) (N : News g env.locals s.heap news) (h0 : J 0 m₀)
    (turn : ∀ i a b ta tb m₁ h tk own, as[i]? = some a → bs[i]? = some b → J i m₁ → Fr g env.locals h (fun z => if z = xc then some (.int b tb) else if z = xi then some (.int a ta) else m₁ z) → News g env.locals h (own ++ news) →
      wpAny (model prg w) A (execs body env) (InvPost g env.locals (J (i + 1)) (own ++ news) { s with heap := h, toks := tk } Q) E { s with heap := h, toks := tk })
    (done : ∀ m' h tk, J (min as.length bs.length) m' → Fr g env.locals h m' → News g env.locals h news → Q .next { s with heap := h, toks := tk }) :
    wpAny (model prg w) A (pyIter (.ref z)) (fun it s₂ => PairAt3 prg w A g env xi xc body Q E it s₂) E s := by
  obtain ⟨TI, TO, i1, i2, D, hst, hLf, hwr, hnw⟩ := Z
  have W := WalksT.zip2 (prog := prg) (w := w) hh z TI TO i1 i2 l1 l2 D xs.toArray ys.toArray
  refine W.self 0 _ _ _ hst ?_
  have hn : min xs.toArray.size ys.toArray.size = min as.length bs.length := by rw [List.size_toArray, List.size_toArray, hi1.length, hi2.length]
  refine ⟨z, [z, TI, TO, i1, i2, l1, l2], [z, TO, i1, i2], _, _, _, _, (fun i v0 v1 => ∃ a b ta tb, as[i]? = some a ∧ bs[i]? = some b ∧ v0 = .int a ta ∧ v1 = .int b tb), m₀, news,
    (fun i m' n' => n' = news ∧ J i m'), rfl, W, ?_, hLf, hwr, hnw, hst, F, N, ⟨rfl, h0⟩, ?_, ?_⟩
  · rintro i vals ⟨x, x', hx, hx', rfl⟩
    obtain ⟨a, ta, rfl, ha⟩ := IntsAre.at hi1 i x (by simpa using hx)
    obtain ⟨b, tb, rfl, hb⟩ := IntsAre.at hi2 i x' (by simpa using hx')
    exact ⟨_, _, rfl, a, b, ta, tb, ha, hb, rfl, rfl⟩
  · rintro i v0 v1 m₁ news₁ s₁ own ⟨hh', tk', rfl⟩ _ ⟨a, b, ta, tb, ha, hb, rfl, rfl⟩ ⟨rfl, hJ⟩ hmap hsub F₁ N₁
    refine wpAny_mono (turn i a b ta tb m₁ hh' tk' own ha hb hJ F₁ N₁) (fun f s₂ p => ?_) fun _ _ e => e
    have fin : InvEnd g env.locals (J (i + 1)) (own ++ news₁) { s with heap := hh', toks := tk' } s₂ → LoopStep2 g env.locals own news₁ (fun m' n' => n' = news₁ ∧ J (i + 1) m') { s with heap := hh', toks := tk' } .next s₂ := by
      rintro ⟨h', tk, m', news', e, F', N', hn, hJ⟩
      exact ⟨rfl, h', tk, m', news₁, e, F', fun p hp => N' p (hn p hp), rfl, rfl, hJ⟩
    cases f with
    | ret v => exact p
    | brk => exact p
    | next => exact fin p
    | cont => exact fin p
  · rintro h' tk m' news' F' N' hmap ⟨rfl, hJ⟩
    exact done m' h' tk (by rw [← hn]; exact hJ) F' N'
/-- two names set, a third known, the others as they were -/
theorem map3 {m₀ m₁ : Str → Option Value} {y : Str} {u : Option Value} {a b : Str → Option Value} (hm : m₁ y = u) (hz : ∀ z, z ≠ xc → z ≠ xi → z ≠ y → m₁ z = m₀ z) : (fun z => if z = xc then a z else if z = xi then b z else m₁ z) = fun z => if z = xc then a z else if z = xi then b z else if z = y then u else m₀ z := by
  funext z
  by_cases h1 : z = xc
  · rw [if_pos h1, if_pos h1]
  · rw [if_neg h1, if_neg h1]
    by_cases h2 : z = xi
    · rw [if_pos h2, if_pos h2]
    · rw [if_neg h2, if_neg h2]
      by_cases h3 : z = y
      · rw [if_pos h3, h3, hm]
      · rw [if_neg h3, hz z h1 h2 h3]
theorem map_self {m₁ : Str → Option Value} : (fun z => if z = xc then m₁ z else if z = xi then m₁ z else m₁ z) = m₁ := by
  funext z
  by_cases h1 : z = xc
  · rw [if_pos h1]
  · rw [if_neg h1]
    by_cases h2 : z = xi
    · rw [if_pos h2]
    · rw [if_neg h2]
theorem iter_zip_one {z l1 l2 : Addr} {xs ys : List Value} {as bs : List Int} {m₀ : Str → Option Value} (P : Nat → Int → Prop) (y : Str) {a₀ : Int} {t₀ : Tok} (hh : A.handled = none)
    (Z : ZipAt g s.heap env.locals news z l1 l2 xs ys) (hi1 : IntsAre xs as) (hi2 : IntsAre ys bs) (F : Fr g env.locals s.heap m₀) (N : News g env.locals s.heap news) (hy : m₀ y = some (.int a₀ t₀)) (hyi : y ≠ xi) (hyc : y ≠ xc) (h0 : P 0 a₀)
    (turn : ∀ i a b ta tb v tv h tk own, as[i]? = some a → bs[i]? = some b → P i v → Fr g env.locals h (fun z => if z = xc then some (.int b tb) else if z = xi then some (.int a ta) else if z = y then some (.int v tv) else m₀ z) → News g env.locals h (own ++ news) →
      wpAny (model prg w) A (execs body env) (InvPost g env.locals (fun m' => ∃ v' t', P (i + 1) v' ∧ m' y = some (.int v' t') ∧ ∀ z, z ≠ xc → z ≠ xi → z ≠ y → m' z = m₀ z) (own ++ news) { s with heap := h, toks := tk } Q) E { s with heap := h, toks := tk })
    (done : ∀ (u₁ u₂ : Str → Option Value) v t h tk, P (min as.length bs.length) v → Fr g env.locals h (fun z => if z = xc then u₁ z else if z = xi then u₂ z else if z = y then some (.int v t) else m₀ z) → News g env.locals h news → Q .next { s with heap := h, toks := tk }) :
    wpAny (model prg w) A (pyIter (.ref z)) (fun it s₂ => PairAt3 prg w A g env xi xc body Q E it s₂) E s := by
  refine iter_zip_gen (fun i m' => ∃ v t, P i v ∧ m' y = some (.int v t) ∧ ∀ z, z ≠ xc → z ≠ xi → z ≠ y → m' z = m₀ z) hh Z hi1 hi2 F N ⟨a₀, t₀, h0, hy, fun _ _ _ _ => rfl⟩ (fun i a b ta tb m₁ h tk own ha hb hJ F₁ N₁ => ?_) fun m' h tk hJ F' N' => ?_
  · obtain ⟨v, tv, hp, hm, hz⟩ := hJ
    have e := map3 (xi := xi) (xc := xc) (a := fun _ => some (.int b tb)) (b := fun _ => some (.int a ta)) hm hz
    rw [e] at F₁
    exact turn i a b ta tb v tv h tk own ha hb hp F₁ N₁
  · obtain ⟨v, t, hp, hm, hz⟩ := hJ
    refine done m' m' v t h tk hp ?_ N'
    rw [← map3 (xi := xi) (xc := xc) (a := m') (b := m') hm hz, map_self]; exact F'
end

local macro_rules | `(tactic| k_inst) => `(tactic| walk_at "m_inst")
theorem words_final_m_3 : True := by
  k_with "m_get" => first | assumption | exact Fr.keep (by assumption) _ _ (by assumption) | exact News.get (by assumption) (by k_mem)
  k_with "m_inst" => (refine' inst_of ?zza ?zzb; (case zza => exact Fr.keep (by assumption) _ _ (by assumption)); (case zzb => walk_at "m_get"))
  k_with "pyIter ref" => (k_here; k_dflt (refine stopM ?_))
  k_with "exec For Name Name cons nil" => (k_here; k_dflt (refine' For_invVF ?zzF ?zzk1 ?zzk2 ?_; (case zzF => assumption); (case zzk1 => exact rfl); (case zzk2 => exact rfl); k_whole))
  k_with "compareOp In str ref" => (k_here; k_dflt (refine' in_dict ?zzg ?zzD ?_; (case zzg => walk_at "m_get"); (case zzD => assumption)))
  k_with "compareOp NotIn str ref" => (k_here; k_dflt (refine' notin_dict ?zzg ?zzD ?_; (case zzg => walk_at "m_get"); (case zzD => assumption)))
  k_with "subscriptTail" => (k_here; (with_reducible show wpAny _ _ (subscriptTail _ _ (Value.ref _) (Value.str _ _)) _ _ _); k_dflt (refine' sub_dict ?zzg ?zzD ?zzv ?_; (case zzg => walk_at "m_get"); (case zzD => assumption); (case zzv => assumption)))
  k_with "setItem ref str" => (k_here; k_dflt (refine' set_dict ?zzF ?zzN ?zzU ?zzD ?zzz ?_; (case zzF => assumption); (case zzN => assumption); (case zzU => k_updF); (case zzD => assumption); (case zzz => walk_at "m_sm")); intro h' o' F' N' D'; (try dsimp only at N'); (revert h' o' F' N' D'; intros); (try k_sweep))
  k_with "binaryOp Mult ref int" => (k_here; k_dflt (refine' mul_one ?zzF ?zzN ?zzg ?zza ?zzb ?_; (case zzF => assumption); (case zzN => assumption); (case zzg => walk_at "m_get"); (case zza => walk_at "m_sm"); (case zzb => walk_at "m_sm")); intro l' h' F' N' l1; (try (have lA' := allLt_of l1)); (try k_lt l1); (first | (revert l' h' F' N' l1 lA'; intros) | (revert l' h' F' N' l1; intros)); (try k_sweep))
  k_with "newTuple" => (k_here; k_dflt (refine' tuple_led ?zzF ?zzN ?_ ?zzz; (case zzF => assumption); (case zzN => assumption); (case zzz => (simp; done))); intro D' h' F' N' l1; (try (have lA' := allLt_of l1)); (try k_lt l1); (first | (revert D' h' F' N' l1 lA'; intros) | (revert D' h' F' N' l1; intros)); (try k_sweep))
  k_with "newList" => (k_here; k_dflt (refine' list_led ?zzF ?zzN ?_ ?zzz; (case zzF => assumption); (case zzN => assumption); (case zzz => (simp; done))); intro D' h' F' N' l1; (try (have lA' := allLt_of l1)); (try k_lt l1); (first | (revert D' h' F' N' l1 lA'; intros) | (revert D' h' F' N' l1; intros)); (try k_sweep))
  k_with "call builtin:len" => (k_here; (with_reducible show wpAny _ _ (call (Value.builtin "len") [Value.ref _]) _ _ _); k_dflt (refine' len_led ?zzg ?zzz ?_; (case zzg => walk_at "m_get"); (case zzz => walk_at "m_sm")))
  k_with "call ref" => (k_here; (with_reducible show wpAny _ _ (call (Value.ref 118) [Value.str _ _]) _ _ _); k_dflt (refine' wpAny_call (nothing_of_spec ?zzG ?zzH ?zzx ?_); (case zzG => assumption); (case zzH => walk_at "m_at"); (case zzx => assumption)); intro v' h' tk' hv' hk'; (have F' := Fr.kp (by assumption) hk'); (have N' := News.kp (by assumption) hk'); (revert v' h' tk' hv' hk' F' N'; intros); (try dsimp only); (try k_sweep))
  trivial

section
variable {w : World} {loose : List Str} {mean : ExcName → Option Value} {mg mb : Str → Option Value} {b0 : Heap} {A : Around} {outer : List Env} {s : Shared} {R : Result → Shared → Prop} {t : Tok}

/-- the product of the bounds, each with one more -/
def manyOf (ns : List Int) : Int := ns.foldl (fun a b => a * (b + 1)) 1
/-- why an array is refused: the empty word says not -/
def madeWord (ns : List Int) : Str := if ns.any (fun b => decide (b < 0)) then "FC" else if 3 < ns.length ∨ 4096 < manyOf ns then "OM" else ""

theorem many_succ {ns : List Int} {i : Nat} {n : Int} (h : ns[i]? = some n) : manyOf (ns.take (i + 1)) = manyOf (ns.take i) * (n + 1) := by
  rw [manyOf, List.take_add_one, h]; simp [manyOf]
theorem mem_take_succ {ns : List Int} {i : Nat} {n b : Int} (h : ns[i]? = some n) (hb : b ∈ ns.take (i + 1)) : b ∈ ns.take i ∨ b = n := by
  rw [List.take_add_one, h] at hb; simpa using hb
theorem many_acc (ns : List Int) (hp : ∀ b ∈ ns, 0 ≤ b) : ∀ a : Int, 1 ≤ a → 1 ≤ ns.foldl (fun a b => a * (b + 1)) a := by
  induction ns with
  | nil => intro a ha; exact ha
  | cons n r ih =>
    intro a ha
    refine ih (fun b hb => hp b (.tail _ hb)) _ ?_
    have h1 := hp n (.head _)
    have : (1 : Int) * 1 ≤ a * (n + 1) := Int.mul_le_mul ha (Int.le_add_of_nonneg_left h1) (by decide) (Int.le_trans (by decide) ha)
    exact Int.le_trans (by decide) this
theorem many_pos {ns : List Int} (hp : ∀ b ∈ ns, 0 ≤ b) : 1 ≤ manyOf ns := many_acc ns hp 1 (by decide)

theorem made_array_spec (G : Gnd w loose mean mg mb b0) (H : At 6 b0 A outer s) {x : Str} (hx : x ∈ names4) {st sd vd ad rd l : Addr} {sp : Int} {t1 t2 t3 t4 t5 : Tok} {oa : Obj} {kvs : List (Str × Value)} {vs : List Value} {ns : List Int} {c : Nat}
    (hst : s.heap.get? st = some (instObj 107 sd)) (hsd : s.heap.get? sd = some (storeDict w vd ad rd sp t1 t2 t3 t4 t5)) (hA : s.heap.get? ad = some oa) (hD : DictObj w ad oa kvs) (hsz : kvs.length ≤ 900)
    (hb : b0.get? ad = none) (hf : ad ∉ frs outer) (hne : ad ≠ sd ∧ ad ≠ st ∧ ad ≠ l) (hl : s.heap.get? l = some (listOf vs.toArray c)) (hi : IntsAre vs ns) (hlen : ns.length ≤ 4) (hsm : ∀ n ∈ ns, n ≤ 1000)
    (k : madeWord ns = "" → ∀ h' tk tup its nv oa' , KeepW [ad] s.heap h' → h'.get? ad = some oa' → DictObj w ad oa' (stored kvs x (.ref tup)) → IsNothing x nv → h'.get? tup = some (tupObj [.ref l, .ref its]) → h'.get? its = some (listOf (List.replicate (manyOf ns).toNat nv).toArray 0) →
      s.heap.get? tup = none → s.heap.get? its = none → R (.ok (.ret .none)) { s with heap := h', toks := tk })
    (e : madeWord ns ≠ "" → ∀ h' tk ea, Rsd b0 outer [ad] s.heap h' ea (madeWord ns) → h'.get? ad = some oa → R (.error (.ref ea)) { s with heap := h', toks := tk }) :
    codeAny (model prg w) A (.call (.ref 125) ⟨[.ref st, .str x t, .ref l], []⟩) R s := by
  have hN : ∀ p ∈ [(ad, oa)], s.heap.get? p.1 = some p.2 ∧ b0.get? p.1 = none ∧ p.1 ∉ frs outer := List.forall_mem_singleton.mpr ⟨hA, hb, hf⟩
  (refine' enter (news := [(ad, oa)]) G H ?kN ?k6 ?k7 ?k9 ?kB ?_ ?c2 ?c3 ?c4 ?c5; (case kN => first | exact List.forall_mem_nil _ | assumption); (case k6 => k_is); (case k7 => k_is); (case k9 => exact BindsTo.of_eq rfl); (case c5 => decide); (case kB => exact locs rfl); (case c2 => exact rfl); (case c3 => exact rfl); (case c4 => exact rfl); (try dsimp only))
  intro g L h1 hg hL F N B X T hrm tk0
  replace hg : g = hideAll s.heap [ad] := hg
  have hst' : g.get? st = some (instObj 107 sd) := by rw [hg]; exact hideAll_get _ hst (by simpa using hne.2.1.symm)
  have hsd' : g.get? sd = some (storeDict w vd ad rd sp t1 t2 t3 t4 t5) := by rw [hg]; exact hideAll_get _ hsd (by simpa using hne.1.symm)
  have hl' : g.get? l = some (listOf vs.toArray c) := by rw [hg]; exact hideAll_get _ hl (by simpa using hne.2.2.symm)
  walk_at "m_steps"
  rename Fr g L _ _ => F1
  rename News g L _ _ => N1
  show wpAny _ _ _ _ _ _
  refine iter_one (env := envOf _ _ _ _ _) (fun i a => a = manyOf (ns.take i) ∧ ∀ b ∈ ns.take i, 0 ≤ b) "many" hrm.handled (isList_get hl') hi F1 N1 rfl (by decide) ⟨rfl, fun b hb => nomatch hb⟩ ?_ ?_
  · rintro i n t a ta h tk own hin ⟨rfl, hpos⟩ F2 N2
    have hn1 := hsm n (List.mem_of_getElem? hin)
    clear F1 N1
    walk_at "m_steps"
    · refine InvEnd.intro (by assumption) (by assumption) (fun p hp => hp) ⟨_, _, ⟨(many_succ hin).symm, fun b hb => ?_⟩, rfl, fun z h1 h2 => ?_⟩
      · rcases mem_take_succ hin hb with hb | rfl
        · exact hpos b hb
        · assumption
      · simp only [if_neg h1, if_neg h2]
    · have hw : madeWord ns = "FC" := if_pos (List.any_eq_true.mpr ⟨n, List.mem_of_getElem? hin, decide_eq_true (by walk_at "m_le")⟩)
      exact e (by rw [hw]; decide) _ _ _ (hw ▸ Rsd.wide (by assumption) hg) (by rename ∀ p ∈ _, _ = some _ => q; exact q (ad, oa) (by simp))
  · rintro u a ta h tk ⟨rfl, hpos⟩ F2 N2
    clear F1 N1
    have hvl := hi.length
    have hany : ns.any (fun b => decide (b < 0)) = false := by
      rw [List.take_length] at hpos
      rw [List.any_eq_false]; exact fun b hb z => Int.not_lt.mpr (hpos b hb) (of_decide_eq_true z)
    rw [List.take_length] at *
    have hm0 := many_pos hpos
    walk_at "m_steps"
    · have hw : madeWord ns = "OM" := by unfold madeWord; rw [hany, if_neg Bool.false_ne_true, if_pos (by first | exact .inr (by assumption) | exact .inl (three_lt (by assumption) hvl))]
      exact e (by rw [hw]; decide) _ _ _ (hw ▸ Rsd.wide (by assumption) hg) (by rename ∀ p ∈ _, _ = some _ => q; exact q (ad, oa) (by simp))
    · have hw : madeWord ns = "OM" := by unfold madeWord; rw [hany, if_neg Bool.false_ne_true, if_pos (by first | exact .inr (by assumption) | exact .inl (three_lt (by assumption) hvl))]
      exact e (by rw [hw]; decide) _ _ _ (hw ▸ Rsd.wide (by assumption) hg) (by rename ∀ p ∈ _, _ = some _ => q; exact q (ad, oa) (by simp))
    · have hw : madeWord ns = "" := by unfold madeWord; rw [hany, if_neg Bool.false_ne_true, if_neg (not_many (by assumption) (by assumption) hvl)]
      rename News g L _ _ => N9
      rename DictObj w ad _ (stored _ _ _) => D9
      rename IsNothing _ _ => hno
      exact k hw _ _ _ _ _ _ (keepW hg (by assumption)) (N9.get (by k_mem)) D9 hno (N9.get (by k_mem)) (N9.get (by k_mem)) (fresh_of hg N9 (.head _) (nm_one (by walk_at "m_ne"))) (fresh_of hg N9 (.tail _ (.head _)) (nm_one (by walk_at "m_ne")))
end

section
variable {w : World} {loose : List Str} {mean : ExcName → Option Value} {mg mb : Str → Option Value} {b0 : Heap} {A : Around} {outer : List Env} {s : Shared} {R : Result → Shared → Prop} {t : Tok}

/-- why dim is refused -/
def dimWord (kvs : List (Str × Value)) (x : Str) (ns : List Int) : Str := if (valueAt kvs x).isSome then "DD" else madeWord ns

theorem dim_array_spec (G : Gnd w loose mean mg mb b0) (H : At 8 b0 A outer s) {x : Str} (hx : x ∈ names4) {st sd vd ad rd l : Addr} {sp : Int} {t1 t2 t3 t4 t5 : Tok} {oa : Obj} {kvs : List (Str × Value)} {vs : List Value} {ns : List Int} {c : Nat}
    (hst : s.heap.get? st = some (instObj 107 sd)) (hsd : s.heap.get? sd = some (storeDict w vd ad rd sp t1 t2 t3 t4 t5)) (hA : s.heap.get? ad = some oa) (hD : DictObj w ad oa kvs) (hsz : kvs.length ≤ 900)
    (hb : b0.get? ad = none) (hf : ad ∉ frs outer) (hne : ad ≠ sd ∧ ad ≠ st ∧ ad ≠ l) (hl : s.heap.get? l = some (listOf vs.toArray c)) (hi : IntsAre vs ns) (hlen : ns.length ≤ 4) (hsm : ∀ n ∈ ns, n ≤ 1000)
    (k : dimWord kvs x ns = "" → ∀ h' tk tup its nv oa' , KeepW [ad] s.heap h' → h'.get? ad = some oa' → DictObj w ad oa' (stored kvs x (.ref tup)) → IsNothing x nv → h'.get? tup = some (tupObj [.ref l, .ref its]) → h'.get? its = some (listOf (List.replicate (manyOf ns).toNat nv).toArray 0) →
      s.heap.get? tup = none → s.heap.get? its = none → R (.ok (.ret .none)) { s with heap := h', toks := tk })
    (e : dimWord kvs x ns ≠ "" → ∀ h' tk ea, Rsd b0 outer [ad] s.heap h' ea (dimWord kvs x ns) → h'.get? ad = some oa → R (.error (.ref ea)) { s with heap := h', toks := tk }) :
    codeAny (model prg w) A (.call (.ref 132) ⟨[.ref st, .str x t, .ref l], []⟩) R s := by
  have hN : ∀ p ∈ [(ad, oa)], s.heap.get? p.1 = some p.2 ∧ b0.get? p.1 = none ∧ p.1 ∉ frs outer := List.forall_mem_singleton.mpr ⟨hA, hb, hf⟩
  (refine' enter (news := [(ad, oa)]) G H ?kN ?k6 ?k7 ?k9 ?kB ?_ ?c2 ?c3 ?c4 ?c5; (case kN => first | exact List.forall_mem_nil _ | assumption); (case k6 => k_is); (case k7 => k_is); (case k9 => exact BindsTo.of_eq rfl); (case c5 => decide); (case kB => exact locs rfl); (case c2 => exact rfl); (case c3 => exact rfl); (case c4 => exact rfl); (try dsimp only))
  intro g L h1 hg hL F N B X T hrm tk0
  replace hg : g = hideAll s.heap [ad] := hg
  have hst' : g.get? st = some (instObj 107 sd) := by rw [hg]; exact hideAll_get _ hst (by simpa using hne.2.1.symm)
  have hsd' : g.get? sd = some (storeDict w vd ad rd sp t1 t2 t3 t4 t5) := by rw [hg]; exact hideAll_get _ hsd (by simpa using hne.1.symm)
  have hl' : g.get? l = some (listOf vs.toArray c) := by rw [hg]; exact hideAll_get _ hl (by simpa using hne.2.2.symm)
  have hWL := outL_of hg hL (List.forall_mem_singleton.mpr ⟨_, hA⟩)
  walk_at "m_steps"
  · rename (valueAt kvs x).isSome = true => hin
    have hw : dimWord kvs x ns = "DD" := if_pos hin
    exact e (by rw [hw]; decide) _ _ _ (hw ▸ Rsd.wide (by assumption) hg) (by rename ∀ p ∈ _, _ = some _ => q; exact q (ad, oa) (by simp))
  · rename Fr g L _ _ => F1
    rename News g L _ _ => N1
    rename (valueAt kvs x).isSome = false => hin
    have hdw : dimWord kvs x ns = madeWord ns := if_neg (by rw [hin]; decide)
    have hWo := out_of hg
    rw [hdw] at k e
    refine wpAny_call (made_array_spec G (at_in B F1 (Rm.le hrm)) hx (F1.keep _ _ hst') (F1.keep _ _ hsd') (N1.get (.head _)) hD hsz hb (nf_cons (hWL ad (.head _)).2 hf) hne (F1.keep _ _ hl') hi hlen hsm ?_ ?_)
    · intro hw h2 tk2 tup its nv oa' hk hoa hd hno ht hii n1 n2
      have F2 := Fr.kpW F1 hk hWL
      have N2 : News g L h2 [] := News.nil'
      (try dsimp only)
      walk_at "m_steps"
      have hW2 : ∀ b ∈ [ad], ∃ o, Heap.get? _ b = some o := List.forall_mem_singleton.mpr ⟨_, N1.get (.head _)⟩
      exact k hw _ _ _ _ _ _ (KeepW.trans (keepW hg F1) hk) hoa hd hno ht hii (fresh_back n1 (keepW hg F1) hW2) (fresh_back n2 (keepW hg F1) hW2)
    · intro hw h2 tk2 ea hR hoa
      (try dsimp only)
      walk_at "m_steps"
      rename ∀ (b : Addr) (o : Obj), _ → (∀ vs, o.data ≠ .fields vs) → _ → _ => hO
      exact e hw _ _ _ (Rsd.wide (by assumption) hg) (hO ad _ hoa hD.nf (nf_cons (hWL ad (.head _)).2 hf))
end

theorem words_final_m_4 : True := by
  k_with "exec For Tuple Call" => (k_here; (with_reducible show wpAny _ _ (exec (Stmt.For (Expr.Tuple _ _ _) (Expr.Call (Expr.Name (Str.ofString "zip") _) [_, _] _ _) _ _ _) _) _ _ _); k_dflt (refine' For_pair3F ?zzF ?zzhh ?zzhxi ?zzhxc ?zzhp ?_ ?zzhs; (case zzF => assumption); (case zzhh => exact Rm.dh (by assumption)); (case zzhxi => exact rfl); (case zzhxc => exact rfl); (case zzhp => exact rfl); (case zzhs => intro _; exact rfl)))
  k_with "call type:zip" => (k_here; (with_reducible show wpAny _ _ (call (Value.type "zip") [Value.ref _, Value.ref _]) _ _ _); k_dflt (refine' call_zip_own ?zzF ?zzN ?zza ?zzb ?_; (case zzF => assumption); (case zzN => assumption); (case zza => walk_at "m_get"); (case zzb => walk_at "m_get")); intro h' z' F' N' Z'; (revert h' z' F' N' Z'; intros); (try k_sweep))
  trivial

section
variable {w : World} {loose : List Str} {mean : ExcName → Option Value} {mg mb : Str → Option Value} {b0 : Heap} {A : Around} {outer : List Env} {s : Shared} {R : Result → Shared → Prop} {t : Tok}

/-- where the indexes lead, without a look at the bounds -/
def placeL (l : List (Int × Int)) : Int := l.foldl (fun a p => a * (p.1 + 1) + p.2) 0
def placeOf (bs is : List Int) : Int := placeL (bs.zip is)
/-- why indexes are refused -/
def spotWord : List (Int × Int) → Str
  | [] => ""
  | (b, i) :: r => if i < 0 then "FC" else if b < i then "BS" else spotWord r
def placeWord (bs is : List Int) : Str := if bs.length = is.length then spotWord (bs.zip is) else "BS"
theorem place_succ {l : List (Int × Int)} {i : Nat} {b j : Int} (h : l[i]? = some (b, j)) : placeL (l.take (i + 1)) = placeL (l.take i) * (b + 1) + j := by
  rw [placeL, List.take_add_one, h]; simp [placeL]
theorem spot_at {l : List (Int × Int)} {i : Nat} {b j : Int} (h : l[i]? = some (b, j)) (h0 : spotWord (l.take i) = "") :
    (j < 0 → spotWord l = "FC") ∧ (0 ≤ j → b < j → spotWord l = "BS") ∧ (0 ≤ j → j ≤ b → spotWord (l.take (i + 1)) = "") := by
  induction l generalizing i with
  | nil => simp at h
  | cons p r ih =>
    obtain ⟨b', j'⟩ := p
    cases i with
    | zero =>
      simp only [List.getElem?_cons_zero, Option.some.injEq, Prod.mk.injEq] at h
      obtain ⟨rfl, rfl⟩ := h
      refine ⟨fun h1 => if_pos h1, fun h1 h2 => ?_, fun h1 h2 => ?_⟩
      · rw [spotWord, if_neg (Int.not_lt.mpr h1), if_pos h2]
      · rw [List.take_succ_cons, List.take_zero, spotWord, if_neg (Int.not_lt.mpr h1), if_neg (Int.not_lt.mpr h2)]; rfl
    | succ i =>
      simp only [List.getElem?_cons_succ] at h
      rw [List.take_succ_cons, spotWord] at h0
      by_cases c1 : j' < 0
      · rw [if_pos c1] at h0; exact absurd h0 (by decide)
      · rw [if_neg c1] at h0
        by_cases c2 : b' < j'
        · rw [if_pos c2] at h0; exact absurd h0 (by decide)
        · rw [if_neg c2] at h0
          obtain ⟨k1, k2, k3⟩ := ih h h0
          simp only [List.take_succ_cons, spotWord, if_neg c1, if_neg c2]
          exact ⟨k1, k2, k3⟩

theorem array_place_old (G : Gnd w loose mean mg mb b0) (H : At 6 b0 A outer s) {x : Str} {st sd vd ad rd tup bl its il : Addr} {sp : Int} {t1 t2 t3 t4 t5 : Tok} {oa : Obj} {kvs : List (Str × Value)} {bvs ivs : List Value} {bs is : List Int} {c c' : Nat}
    (hst : s.heap.get? st = some (instObj 107 sd)) (hsd : s.heap.get? sd = some (storeDict w vd ad rd sp t1 t2 t3 t4 t5)) (hA : s.heap.get? ad = some oa) (hD : DictObj w ad oa kvs) (hv : valueAt kvs x = some (.ref tup))
    (ht : s.heap.get? tup = some (tupObj [.ref bl, .ref its])) (hbl : s.heap.get? bl = some (listOf bvs.toArray c)) (hbi : IntsAre bvs bs) (hil : s.heap.get? il = some (listOf ivs.toArray c')) (hii : IntsAre ivs is)
    (hb4 : bs.length ≤ 4) (hi4 : is.length ≤ 4) (hbs : ∀ b ∈ bs, 0 ≤ b ∧ b ≤ 1000)
    (k : placeWord bs is = "" → ∀ h' tk tk', (∀ b o, s.heap.get? b = some o → h'.get? b = some o) → R (.ok (.ret (.int (placeOf bs is) tk'))) { s with heap := h', toks := tk })
    (e : placeWord bs is ≠ "" → ∀ h' tk ea, Rsd b0 outer [] s.heap h' ea (placeWord bs is) → R (.error (.ref ea)) { s with heap := h', toks := tk }) :
    codeAny (model prg w) A (.call (.ref 139) ⟨[.ref st, .str x t, .ref il], []⟩) R s := by
  (refine' enter (news := []) G H ?kN ?k6 ?k7 ?k9 ?kB ?_ ?c2 ?c3 ?c4 ?c5; (case kN => first | exact List.forall_mem_nil _ | assumption); (case k6 => k_is); (case k7 => k_is); (case k9 => exact BindsTo.of_eq rfl); (case c5 => decide); (case kB => exact locs rfl); (case c2 => exact rfl); (case c3 => exact rfl); (case c4 => exact rfl); (try dsimp only))
  intro g L h1 hg hL F N B X T hrm tk0
  replace hg : g = hideAll s.heap [] := hg
  have hst' : g.get? st = some (instObj 107 sd) := by rw [hg]; exact hst
  have hsd' : g.get? sd = some (storeDict w vd ad rd sp t1 t2 t3 t4 t5) := by rw [hg]; exact hsd
  have hA' : g.get? ad = some oa := by rw [hg]; exact hA
  have ht' : g.get? tup = some (tupObj [.ref bl, .ref its]) := by rw [hg]; exact ht
  have hbl' : g.get? bl = some (listOf bvs.toArray c) := by rw [hg]; exact hbl
  have hil' : g.get? il = some (listOf ivs.toArray c') := by rw [hg]; exact hil
  have htT := isTup_get ht'
  have hsome : (valueAt kvs x).isSome = true := by rw [hv]; rfl
  have hl1 := hbi.length
  have hl2 := hii.length
  walk_at "m_steps"
  · have hw : placeWord bs is = "BS" := if_neg (len_ne (by assumption) hl1 hl2)
    exact e (by rw [hw]; decide) _ _ _ (hw ▸ Rsd.wide (by assumption) hg)
  · rename Fr g L _ _ => F1
    rename News g L _ _ => N1
    rename ZipAt _ _ _ _ _ _ _ _ _ => Z
    have hlen : bs.length = is.length := len_eq (by assumption) hl1 hl2
    show wpAny _ _ _ _ _ _
    refine iter_zip_one (env := envOf _ _ _ _ _) (fun i v => v = placeL ((bs.zip is).take i) ∧ spotWord ((bs.zip is).take i) = "") "found" hrm.dh Z hbi hii F1 N1 rfl (by decide) (by decide) ⟨rfl, rfl⟩ ?_ ?_
    · rintro i a b ta tb v tv h tk own ha hb ⟨rfl, hsp⟩ F2 N2
      clear F1 N1 Z
      have hab := hbs a (List.mem_of_getElem? ha)
      have hz := zip_get ha hb
      obtain ⟨s1, s2, s3⟩ := spot_at hz hsp
      have hpw : placeWord bs is = spotWord (bs.zip is) := if_pos hlen
      walk_at "m_steps"
      · refine InvEnd.intro (by assumption) (by assumption) (fun p hp => hp) ⟨_, _, ⟨(place_succ hz).symm, s3 (by assumption) (by assumption)⟩, rfl, fun z h1 h2 h3 => ?_⟩
        simp only [if_neg h1, if_neg h2, if_neg h3]
      · have hw : placeWord bs is = "BS" := hpw.trans (s2 (by walk_at "m_le") (by walk_at "m_le"))
        exact e (by rw [hw]; decide) _ _ _ (hw ▸ Rsd.wide (by assumption) hg)
      · have hw : placeWord bs is = "FC" := hpw.trans (s1 (by walk_at "m_le"))
        exact e (by rw [hw]; decide) _ _ _ (hw ▸ Rsd.wide (by assumption) hg)
    · rintro u1 u2 v tv h tk ⟨rfl, hsp⟩ F2 N2
      clear F1 N1 Z
      have hpw : placeWord bs is = spotWord (bs.zip is) := if_pos hlen
      have htk : (bs.zip is).take (min bs.length is.length) = bs.zip is := List.take_of_length_le (by rw [List.length_zip]; exact Nat.le_refl _)
      rw [htk] at hsp F2
      walk_at "m_steps"
      exact k (hpw.trans hsp) _ _ _ (keep0 hg (by assumption))
end

theorem valueAt_stored {kvs : List (Str × Value)} {x : Str} {v : Value} : valueAt (stored kvs x v) x = some v := by
  unfold stored valueAt
  split
  · rename_i h
    obtain ⟨p, hp, hx⟩ := List.any_eq_true.mp h
    have hx : p.1 = x := by simpa using hx
    have : ∀ l : List (Str × Value), p ∈ l → ((l.map fun kv => if kv.1 = x then (kv.1, v) else kv).find? fun kv => kv.1 = x).map (·.2) = some v := by
      intro l
      induction l with
      | nil => intro h; cases h
      | cons q r ih =>
        intro hm
        rw [List.map_cons, List.find?_cons]
        by_cases hq : q.1 = x
        · simp [hq]
        · have : p ∈ r := by
            rcases List.mem_cons.mp hm with rfl | h
            · exact absurd hx hq
            · exact h
          rw [if_neg hq, decide_eq_false hq]
          exact ih this
    exact this _ hp
  · rename_i h
    have hn : kvs.find? (fun kv => kv.1 = x) = none := by
      rw [List.find?_eq_none]
      intro p hp hx
      exact h (List.any_eq_true.mpr ⟨p, hp, by simpa using hx⟩)
    simp [List.find?_append, hn]
theorem stored_new {kvs : List (Str × Value)} {x : Str} {v : Value} (h : valueAt kvs x = none) : stored kvs x v = kvs ++ [(x, v)] := by
  unfold stored
  rw [if_neg]
  intro hc
  obtain ⟨p, hp, hx⟩ := List.any_eq_true.mp hc
  unfold valueAt at h
  rw [Option.map_eq_none_iff, List.find?_eq_none] at h
  exact h p hp (by simpa using hx)

theorem ints_rep (n : Nat) (i : Int) (t : Tok) : IntsAre (List.replicate n (.int i t)) (List.replicate n i) := by
  induction n with
  | zero => exact .nil
  | succ n ih => exact .cons _ _ ih

/-- an array of usual bounds, made by being asked; what lies in it -/
def ArrIs (w : World) (h0 h' : Heap) (ad : Addr) (kvs : List (Str × Value)) (x : Str) (n : Nat) (items : List Value) : Prop :=
  ∃ tup its bl tb oa', h'.get? ad = some oa' ∧ DictObj w ad oa' (stored kvs x (.ref tup)) ∧ h'.get? tup = some (tupObj [.ref bl, .ref its]) ∧ h'.get? bl = some (listOf (List.replicate n (.int 10 tb)).toArray 0) ∧
    h'.get? its = some (listOf items.toArray 0) ∧ h0.get? tup = none ∧ h0.get? its = none ∧ h0.get? bl = none ∧ its ≠ bl ∧ its ≠ tup ∧ bl ≠ tup
/-- the same, full of nothing -/
def NewArr (w : World) (h0 h' : Heap) (ad : Addr) (kvs : List (Str × Value)) (x : Str) (n : Nat) : Prop :=
  ∃ nv, IsNothing x nv ∧ ArrIs w h0 h' ad kvs x n (List.replicate (manyOf (List.replicate n 10)).toNat nv)
section
variable {w : World} {h0 h1 h' h'' g : Heap} {L ad : Addr} {kvs : List (Str × Value)} {x : Str} {n : Nat} {items : List Value} {oa : Obj} {news : List (Addr × Obj)} {m : Str → Option Value}
theorem ArrIs.back (X : ArrIs w h1 h' ad kvs x n items) (k : KeepW [ad] h0 h1) (hW : h1.get? ad = some oa) : ArrIs w h0 h' ad kvs x n items := by
  refine foldG fun G9 hG9 => ?_
  obtain ⟨tup, its, bl, tb, oa', q1, q2, q3, q4, q5, q6, q7, q8, q9⟩ := X
  refine hG9 ?_
  clear hG9 G9
  have hW : ∀ b ∈ [ad], ∃ o, h1.get? b = some o := List.forall_mem_singleton.mpr ⟨oa, hW⟩
  exact ⟨tup, its, bl, tb, oa', q1, q2, q3, q4, q5, fresh_back q6 k hW, fresh_back q7 k hW, fresh_back q8 k hW, q9⟩
theorem ArrIs.fwd (X : ArrIs w h0 h' ad kvs x n items) (k : ∀ b o, h'.get? b = some o → (∀ vs, o.data ≠ .fields vs) → (b = ad ∨ h0.get? b = none) → h''.get? b = some o) : ArrIs w h0 h'' ad kvs x n items := by
  refine foldG fun G9 hG9 => ?_
  obtain ⟨tup, its, bl, tb, oa', q1, q2, q3, q4, q5, q6, q7, q8, q9⟩ := X
  refine hG9 ?_
  clear hG9 G9
  exact ⟨tup, its, bl, tb, oa', k _ _ q1 q2.nf (.inl rfl), q2, k _ _ q3 (fun _ z => by cases z) (.inr q6), k _ _ q4 (fun _ z => by cases z) (.inr q8), k _ _ q5 (fun _ z => by cases z) (.inr q7), q6, q7, q8, q9⟩
theorem ArrIs.led (X : ArrIs w h1 h' ad kvs x n items) (F : Fr g L h1 m) (N : News g L h1 news) (hm : (ad, oa) ∈ news) :
    ∃ tup its bl tb oa', DictObj w ad oa' (stored kvs x (.ref tup)) ∧ News g L h' [(tup, tupObj [.ref bl, .ref its]), (its, listOf items.toArray 0), (bl, listOf (List.replicate n (.int 10 tb)).toArray 0), (ad, oa')] ∧ its ≠ bl ∧ its ≠ tup ∧ bl ≠ tup ∧ ad ≠ its ∧ ad ≠ tup ∧ ad ≠ bl ∧
      ∀ h9 items', News g L h9 [(tup, tupObj [.ref bl, .ref its]), (its, listOf items'.toArray 0), (bl, listOf (List.replicate n (.int 10 tb)).toArray 0), (ad, oa')] → ArrIs w h1 h9 ad kvs x n items' := by
  refine foldG fun G9 hG9 => ?_
  obtain ⟨tup, its, bl, tb, oa', q1, q2, q3, q4, q5, q6, q7, q8, q9, q10, q11⟩ := X
  refine hG9 ?_
  clear hG9 G9
  have e := N.get hm
  exact ⟨tup, its, bl, tb, oa', q2, News.made F q6 q3 (News.made F q7 q5 (News.made F q8 q4 (News.old N hm q1 News.nil'))), q9, q10, q11, (fun q => by rw [q, q7] at e; cases e), (fun q => by rw [q, q6] at e; cases e), (fun q => by rw [q, q8] at e; cases e),
    fun h9 items' M => ⟨tup, its, bl, tb, oa', M.get (.tail _ (.tail _ (.tail _ (.head _)))), q2, M.get (.head _), M.get (.tail _ (.tail _ (.head _))), M.get (.tail _ (.head _)), q6, q7, q8, q9, q10, q11⟩⟩
theorem NewArr.back (X : NewArr w h1 h' ad kvs x n) (k : KeepW [ad] h0 h1) (hW : h1.get? ad = some oa) : NewArr w h0 h' ad kvs x n := let ⟨nv, a, b⟩ := X; ⟨nv, a, b.back k hW⟩
theorem NewArr.fwd (X : NewArr w h0 h' ad kvs x n) (k : ∀ b o, h'.get? b = some o → (∀ vs, o.data ≠ .fields vs) → (b = ad ∨ h0.get? b = none) → h''.get? b = some o) : NewArr w h0 h'' ad kvs x n := let ⟨nv, a, b⟩ := X; ⟨nv, a, b.fwd k⟩
end
theorem out_frs {A : Around} {b0 g h : Heap} {outer : List Env} {L f : Addr} {m : Str → Option Value} {name : Str} {scope : Scope} {cd : Value} {cl : List (Str × Addr)} (B : Below A b0 outer g) (F : Fr g L h m) {b : Addr} (n : h.get? b = none) : b ∉ frs (envX name scope L f cd cl :: outer) := fun z => by
  rcases mem_frs (L := L) rfl z with z | z
  · obtain ⟨oL, _, _, hL, _⟩ := F.ns; rw [← z, n] at hL; cases hL
  · obtain ⟨o, ho⟩ := fun_in B.frames z
    have := F.keep _ _ ho; rw [n] at this; cases this

theorem usual_made {n : Nat} (h : n ≤ 3) : madeWord (List.replicate n 10) = "" := by
  have := nat_four (Nat.lt_succ_of_le h)
  rcases this with rfl | rfl | rfl | rfl <;> decide

section
variable {w : World} {loose : List Str} {mean : ExcName → Option Value} {mg mb : Str → Option Value} {b0 : Heap} {A : Around} {outer : List Env} {s : Shared} {R : Result → Shared → Prop} {t : Tok}

theorem array_place_new (G : Gnd w loose mean mg mb b0) (H : At 8 b0 A outer s) {x : Str} (hx : x ∈ names4) {st sd vd ad rd il : Addr} {sp : Int} {t1 t2 t3 t4 t5 : Tok} {oa : Obj} {kvs : List (Str × Value)} {ivs : List Value} {is : List Int} {c' : Nat}
    (hst : s.heap.get? st = some (instObj 107 sd)) (hsd : s.heap.get? sd = some (storeDict w vd ad rd sp t1 t2 t3 t4 t5)) (hA : s.heap.get? ad = some oa) (hD : DictObj w ad oa kvs) (hsz : kvs.length ≤ 900) (hv : valueAt kvs x = none)
    (hb : b0.get? ad = none) (hf : ad ∉ frs outer) (hne : ad ≠ sd ∧ ad ≠ st ∧ ad ≠ il) (hil : s.heap.get? il = some (listOf ivs.toArray c')) (hii : IntsAre ivs is) (hi4 : is.length ≤ 3)
    (k : placeWord (List.replicate is.length 10) is = "" → ∀ h' tk tk', KeepW [ad] s.heap h' → NewArr w s.heap h' ad kvs x is.length → R (.ok (.ret (.int (placeOf (List.replicate is.length 10) is) tk'))) { s with heap := h', toks := tk })
    (e : placeWord (List.replicate is.length 10) is ≠ "" → ∀ h' tk ea, Rsd b0 outer [ad] s.heap h' ea (placeWord (List.replicate is.length 10) is) → NewArr w s.heap h' ad kvs x is.length → R (.error (.ref ea)) { s with heap := h', toks := tk }) :
    codeAny (model prg w) A (.call (.ref 139) ⟨[.ref st, .str x t, .ref il], []⟩) R s := by
  have hN : ∀ p ∈ [(ad, oa)], s.heap.get? p.1 = some p.2 ∧ b0.get? p.1 = none ∧ p.1 ∉ frs outer := List.forall_mem_singleton.mpr ⟨hA, hb, hf⟩
  (refine' enter (news := [(ad, oa)]) G H ?kN ?k6 ?k7 ?k9 ?kB ?_ ?c2 ?c3 ?c4 ?c5; (case kN => first | exact List.forall_mem_nil _ | assumption); (case k6 => k_is); (case k7 => k_is); (case k9 => exact BindsTo.of_eq rfl); (case c5 => decide); (case kB => exact locs rfl); (case c2 => exact rfl); (case c3 => exact rfl); (case c4 => exact rfl); (try dsimp only))
  intro g L h1 hg hL F N B X T hrm tk0
  replace hg : g = hideAll s.heap [ad] := hg
  have hst' : g.get? st = some (instObj 107 sd) := by rw [hg]; exact hideAll_get _ hst (by simpa using hne.2.1.symm)
  have hsd' : g.get? sd = some (storeDict w vd ad rd sp t1 t2 t3 t4 t5) := by rw [hg]; exact hideAll_get _ hsd (by simpa using hne.1.symm)
  have hil' : g.get? il = some (listOf ivs.toArray c') := by rw [hg]; exact hideAll_get _ hil (by simpa using hne.2.2.symm)
  have hWL := outL_of hg hL (List.forall_mem_singleton.mpr ⟨_, hA⟩)
  have hWo := out_of hg
  have hnone : (valueAt kvs x).isSome = false := by rw [hv]; rfl
  have hl2 := hii.length
  walk_at "m_steps"
  rename Fr g L _ _ => F1
  rename News g L _ _ => N1
  rename_i D0 h2 lA0 l10 l' h3 lA1 l11
  have hLad := (hWL ad (.head _)).2
  obtain ⟨bvs, hbv⟩ : ∃ bvs, bvs = List.replicate is.length (Value.int 10 264) := ⟨_, rfl⟩
  obtain ⟨bs, hbs⟩ : ∃ bs : List Int, bs = List.replicate is.length 10 := ⟨_, rfl⟩
  have hbi : IntsAre bvs bs := by rw [hbv, hbs]; exact ints_rep _ _ _
  have hbl := hbi.length
  have hbl2 : bs.length = is.length := by rw [hbs, List.length_replicate]
  have hb10 : ∀ b ∈ bs, b = 10 := fun b hb => by rw [hbs] at hb; exact List.eq_of_mem_replicate hb
  have hl'' : h3.get? l' = some (listOf bvs.toArray 0) := by
    have := N1.get (.head _)
    rw [show ((ivs.length : Int)).toNat = is.length from (Int.toNat_natCast _).trans hl2, ← hbv] at this
    exact this
  have hmw : madeWord bs = "" := hbs ▸ usual_made hi4
  have hil3 : h3.get? il = some (listOf ivs.toArray c') := F1.keep _ _ hil'
  have hl'n : s.heap.get? l' = none := fresh_of hg N1 (.head _) (nm_one (Nat.ne_of_gt l11.2))
  refine wpAny_call (made_array_spec G (at_in B F1 (Rm.le hrm)) hx (F1.keep _ _ hst') (F1.keep _ _ hsd') (N1.get (.tail _ (.tail _ (.head _)))) hD hsz hb (nf_cons hLad hf) ⟨hne.1, hne.2.1, Nat.ne_of_lt l11.2⟩ hl'' hbi (by rw [hbl2]; exact Nat.le_succ_of_le hi4) (fun n hn => by rw [hb10 n hn]; decide) ?_ (fun hc => absurd hmw hc))
  intro _ h4 tk4 tup its nv oa' hk hoa hd hno ht hit n1 n2
  have F2 := Fr.kpW F1 hk hWL
  have hil4 : h4.get? il = some (listOf ivs.toArray c') := F2.keep _ _ hil'
  have hl4 : h4.get? l' = some (listOf bvs.toArray 0) := hk _ _ hl'' (nm_one (Nat.ne_of_gt l11.2))
  have N2 : News g L h4 [(tup, tupObj [.ref l', .ref its]), (its, _), (l', _), (ad, oa')] :=
    News.made F1 n1 ht (News.made F1 n2 hit (News.old N1 (.head _) hl4 (News.old N1 (.tail _ (.tail _ (.head _))) hoa News.nil')))
  have hW2 : ∀ b ∈ [ad], ∃ o, Heap.get? h3 b = some o := List.forall_mem_singleton.mpr ⟨_, N1.get (.tail _ (.tail _ (.head _)))⟩
  have m1 := fresh_back n1 (keepW hg F1) hW2
  have m2 := fresh_back n2 (keepW hg F1) hW2
  have m4 : its ≠ tup := fun q => by rw [q, ht] at hit; simp [tupObj, W.listOf] at hit
  have m5 : l' ≠ tup := fun q => by rw [← q, N1.get (.head _)] at n1; cases n1
  have m3 : its ≠ l' := fun q => by rw [q, N1.get (.head _)] at n2; cases n2
  clear F1 N1
  have hvx : valueAt (stored kvs x (.ref tup)) x = some (.ref tup) := valueAt_stored
  have htT := isTup_get ht
  (try dsimp only)
  walk_at "m_steps"
  · exact absurd hbl2 (len_ne (by assumption) hbl hl2)
  rename Fr g L _ _ => F1
  rename News g L _ _ => N1
  rename ZipAt _ _ _ _ _ _ _ _ _ => Z
  show wpAny _ _ _ _ _ _
  rw [← hbs] at k e
  have hpw : placeWord bs is = spotWord (bs.zip is) := if_pos hbl2
  have mk : ∀ {h' : Heap} {own : List (Addr × Obj)}, (∀ p ∈ own ++ [(tup, tupObj [.ref l', .ref its]), (its, listOf (List.replicate (manyOf bs).toNat nv).toArray 0), (l', listOf bvs.toArray 0), (ad, oa')], h'.get? p.1 = some p.2) → NewArr w s.heap h' ad kvs x is.length := fun {_ own} N =>
    have N := fun p hp => N p (List.mem_append_right own hp)
    ⟨nv, hno, tup, its, l', 264, oa', N _ (.tail _ (.tail _ (.tail _ (.head _)))), hd, N _ (.head _), hbv ▸ N _ (.tail _ (.tail _ (.head _))), hbs ▸ N _ (.tail _ (.head _)), m1, m2, hl'n, m3, m4, m5⟩
  refine iter_zip_one (env := envOf _ _ _ _ _) (fun i v => v = placeL ((bs.zip is).take i) ∧ spotWord ((bs.zip is).take i) = "") "found" hrm.dh Z hbi hii F1 N1 rfl (by decide) (by decide) ⟨rfl, rfl⟩ ?_ ?_
  · rintro i a b ta tb v tv h tk own ha hb ⟨rfl, hsp⟩ F2 N2
    clear F1 N1 Z
    have hab := hb10 a (List.mem_of_getElem? ha)
    have hz := zip_get ha hb
    obtain ⟨s1, s2, s3⟩ := spot_at hz hsp
    walk_at "m_steps"
    · refine InvEnd.intro (by assumption) (by assumption) (fun p hp => hp) ⟨_, _, ⟨(place_succ hz).symm, s3 (by assumption) (by assumption)⟩, rfl, fun z h1 h2 h3 => ?_⟩
      simp only [if_neg h1, if_neg h2, if_neg h3]
    · have hw : placeWord bs is = "BS" := hpw.trans (s2 (by walk_at "m_le") (by walk_at "m_le"))
      exact e (by rw [hw]; decide) _ _ _ (by rw [hw]; exact Rsd.wide (by assumption) hg) (by rename ∀ p ∈ _, _ = some _ => q; exact mk q)
    · have hw : placeWord bs is = "FC" := hpw.trans (s1 (by walk_at "m_le"))
      exact e (by rw [hw]; decide) _ _ _ (by rw [hw]; exact Rsd.wide (by assumption) hg) (by rename ∀ p ∈ _, _ = some _ => q; exact mk q)
  · rintro u1 u2 v tv h tk ⟨rfl, hsp⟩ F2 N2
    clear F1 N1 Z
    have htk : (bs.zip is).take (min bs.length is.length) = bs.zip is := List.take_of_length_le (by rw [List.length_zip]; exact Nat.le_refl _)
    rw [htk] at hsp F2
    walk_at "m_steps"
    exact k (hpw.trans hsp) _ _ _ (keepW hg (by assumption)) (mk (own := []) (fun p hp => ((by assumption : News g L _ _) p hp).1))
end

theorem place_acc : ∀ (l : List (Int × Int)) (a M : Int), 0 ≤ a → a < M → spotWord l = "" → 0 ≤ l.foldl (fun a p => a * (p.1 + 1) + p.2) a ∧ l.foldl (fun a p => a * (p.1 + 1) + p.2) a < (l.map (·.1)).foldl (fun a b => a * (b + 1)) M
  | [], _, _, h0, h1, _ => ⟨h0, h1⟩
  | (b, i) :: r, a, M, h0, h1, h => by
    rw [spotWord] at h
    by_cases c1 : i < 0
    · rw [if_pos c1] at h; exact absurd h (by decide)
    · rw [if_neg c1] at h
      by_cases c2 : b < i
      · rw [if_pos c2] at h; exact absurd h (by decide)
      · rw [if_neg c2] at h
        have hb1 : 0 ≤ b + 1 := Int.le_add_one (Int.le_trans (Int.not_lt.mp c1) (Int.not_lt.mp c2))
        refine place_acc r (a * (b + 1) + i) (M * (b + 1)) (Int.add_nonneg (Int.mul_nonneg h0 hb1) (Int.not_lt.mp c1)) ?_ h
        have : (a + 1) * (b + 1) ≤ M * (b + 1) := Int.mul_le_mul_of_nonneg_right (Int.add_one_le_of_lt h1) hb1
        rw [Int.add_mul, Int.one_mul] at this
        exact Int.lt_of_lt_of_le (Int.add_lt_add_left (Int.lt_add_one_of_le (Int.not_lt.mp c2)) _) this
theorem place_lt {bs is : List Int} (h : placeWord bs is = "") : 0 ≤ placeOf bs is ∧ placeOf bs is < manyOf bs := by
  unfold placeWord at h
  by_cases c : bs.length = is.length
  · rw [if_pos c] at h
    have := place_acc (bs.zip is) 0 1 (by decide) (by decide) h
    rw [List.map_fst_zip (Nat.le_of_eq c)] at this
    exact this
  · rw [if_neg c] at h; exact absurd h (by decide)
theorem usual_many {n : Nat} (h : n ≤ 3) : manyOf (List.replicate n 10) ≤ 4096 := by
  have := nat_four (Nat.lt_succ_of_le h)
  rcases this with rfl | rfl | rfl | rfl <;> decide
theorem usual_small {n : Nat} (h : n ≤ 3) : (manyOf (List.replicate n 10)).toNat ≤ 4096 := Int.toNat_le.mpr (usual_many h)

section
variable {w : World} {A : Around} {E : Value → Shared → Prop} {s : Shared} {g : Heap} {L : Addr} {m : Str → Option Value} {news news' : List (Addr × Obj)} {l : Addr} {vs : List Value} {c : Nat} {k : Int} {u : Tok} {v : Value}
theorem sub_list {value slice : PySem.Expr} {Q : Value → Shared → Prop} (hl : s.heap.get? l = some (listOf vs.toArray c)) (h0 : 0 ≤ k) (hz : vs.length ≤ 100000) (hx : vs[k.toNat]? = some v) (h : Q v s)
    (hs : subscripted slice false (.ref l) (.int k u) = operate [.ref l, .int k u] (getItem (.ref l) (.int k u)) := by with_unfolding_all rfl) (ht : ∀ r, letTemporaryGo value (.ref l) r = pure () := by intro _; with_unfolding_all rfl) :
    wpAny (model prg w) A (subscriptTail value slice (.ref l) (.int k u)) Q E s := by
  have := (List.getElem?_eq_some_iff.mp hx).1
  exact subscriptTail_builtin (isList_get hl).typeIs list_getitem_lookup (getItem_listL (isList_get hl) h0 (by omega) hx h) hs ht
theorem ki_setL_at {vs : List Value} {j : Nat} {v : Value} (h : j < vs.length) : ki_setL vs j v = some (vs.set j v) := by
  induction vs generalizing j with
  | nil => exact absurd h (Nat.not_lt_zero _)
  | cons x r ih =>
    cases j with
    | zero => rfl
    | succ j => rw [ki_setL, ih (by simpa using h)]; rfl
theorem set_list {Q : Unit → Shared → Prop} (F : Fr g L s.heap m) (N : News g L s.heap news) (U : Upd l (listOf vs.toArray c) (listOf (vs.set k.toNat v).toArray c) news news') (h0 : 0 ≤ k) (hz : vs.length ≤ 100000) (hk : k.toNat < vs.length)
    (h : ∀ h', Fr g L h' m → News g L h' news' → Q () { s with heap := h' }) : wpAny (model prg w) A (setItem (.ref l) (.int k u) v) Q E s :=
  ki_set F N h0 (by omega) (ki_setL_at hk) U h
end

theorem words_final_m_5 : True := by
  k_with "subscriptTail" => (k_here; (with_reducible show wpAny _ _ (subscriptTail _ _ (Value.ref _) (Value.int _ _)) _ _ _); k_dflt (refine' item_tupleL (isTup_get ?zzt) ?zza ?zzb ?zzc ?zzd ?_; (case zzt => walk_at "m_get"); (case zza => decide); (case zzb => decide); (case zzc => exact rfl); (case zzd => exact rfl)))
  k_with "subscriptTail" => (k_here; (with_reducible show wpAny _ _ (subscriptTail _ _ (Value.ref _) (Value.int _ _)) _ _ _); k_dflt (refine' sub_list ?zzg ?zza ?zzz ?zzv ?_; (case zzg => walk_at "m_get"); (case zza => assumption); (case zzz => walk_at "m_sm"); (case zzv => assumption)))
  k_with "setItem ref int" => (k_here; k_dflt (refine' set_list ?zzF ?zzN ?zzU ?zza ?zzz ?zzk ?_; (case zzF => assumption); (case zzN => assumption); (case zzU => k_upd); (case zza => assumption); (case zzz => walk_at "m_sm"); (case zzk => assumption)); intro h' F' N'; (try dsimp only at N'); (revert h' F' N'; intros); (try k_sweep))
  trivial

section
variable {w : World} {loose : List Str} {mean : ExcName → Option Value} {mg mb : Str → Option Value} {b0 : Heap} {A : Around} {outer : List Env} {s : Shared} {R : Result → Shared → Prop} {t : Tok}

theorem element_old (G : Gnd w loose mean mg mb b0) (H : At 10 b0 A outer s) {x : Str} {st sd vd ad rd tup bl its il : Addr} {sp : Int} {t1 t2 t3 t4 t5 : Tok} {oa : Obj} {kvs : List (Str × Value)} {bvs ivs items : List Value} {bs is : List Int} {c c' c2 : Nat} {v : Value}
    (hst : s.heap.get? st = some (instObj 107 sd)) (hsd : s.heap.get? sd = some (storeDict w vd ad rd sp t1 t2 t3 t4 t5)) (hA : s.heap.get? ad = some oa) (hD : DictObj w ad oa kvs) (hv : valueAt kvs x = some (.ref tup))
    (ht : s.heap.get? tup = some (tupObj [.ref bl, .ref its])) (hbl : s.heap.get? bl = some (listOf bvs.toArray c)) (hbi : IntsAre bvs bs) (hil : s.heap.get? il = some (listOf ivs.toArray c')) (hii : IntsAre ivs is)
    (hb4 : bs.length ≤ 4) (hi4 : is.length ≤ 4) (hbs : ∀ b ∈ bs, 0 ≤ b ∧ b ≤ 1000) (hit : s.heap.get? its = some (listOf items.toArray c2))
    (hz : items.length ≤ 100000) (hin : placeWord bs is = "" → 0 ≤ placeOf bs is ∧ items[(placeOf bs is).toNat]? = some v)
    (k : placeWord bs is = "" → ∀ h' tk, (∀ b o, s.heap.get? b = some o → h'.get? b = some o) → R (.ok (.ret v)) { s with heap := h', toks := tk })
    (e : placeWord bs is ≠ "" → ∀ h' tk ea, Rsd b0 outer [] s.heap h' ea (placeWord bs is) → R (.error (.ref ea)) { s with heap := h', toks := tk }) :
    codeAny (model prg w) A (.call (.ref 97) ⟨[.ref st, .str x t, .ref il], []⟩) R s := by
  (refine' enter (news := []) G H ?kN ?k6 ?k7 ?k9 ?kB ?_ ?c2 ?c3 ?c4 ?c5; (case kN => first | exact List.forall_mem_nil _ | assumption); (case k6 => k_is); (case k7 => k_is); (case k9 => exact BindsTo.of_eq rfl); (case c5 => decide); (case kB => exact locs rfl); (case c2 => exact rfl); (case c3 => exact rfl); (case c4 => exact rfl); (try dsimp only))
  intro g L h1 hg hL F N B X T hrm tk0
  replace hg : g = hideAll s.heap [] := hg
  have hst' : g.get? st = some (instObj 107 sd) := by rw [hg]; exact hst
  have hsd' : g.get? sd = some (storeDict w vd ad rd sp t1 t2 t3 t4 t5) := by rw [hg]; exact hsd
  have hA' : g.get? ad = some oa := by rw [hg]; exact hA
  have ht' : g.get? tup = some (tupObj [.ref bl, .ref its]) := by rw [hg]; exact ht
  have hbl' : g.get? bl = some (listOf bvs.toArray c) := by rw [hg]; exact hbl
  have hil' : g.get? il = some (listOf ivs.toArray c') := by rw [hg]; exact hil
  have hit' : g.get? its = some (listOf items.toArray c2) := by rw [hg]; exact hit
  have htT := isTup_get ht'
  walk_at "m_steps"
  rename Fr g L _ _ => F1
  rename News g L _ _ => N1
  refine wpAny_call (array_place_old G (at_in B F1 (Rm.le hrm)) (F1.keep _ _ hst') (F1.keep _ _ hsd') (F1.keep _ _ hA') hD hv (F1.keep _ _ ht') (F1.keep _ _ hbl') hbi (F1.keep _ _ hil') hii hb4 hi4 hbs ?_ ?_)
  · intro hw h2 tk2 tk' hk
    obtain ⟨hin1, hin2⟩ := hin hw
    have F2 := Fr.kp F1 hk
    have N2 := News.kp N1 hk
    clear F1 N1
    generalize placeOf bs is = at' at *
    (try dsimp only)
    walk_at "m_steps"
    exact k hw _ _ (keep0 hg (by assumption))
  · intro hw h2 tk2 ea hR
    (try dsimp only)
    walk_at "m_steps"
    exact e hw _ _ _ (Rsd.wide (by assumption) hg)

theorem element_new (G : Gnd w loose mean mg mb b0) (H : At 10 b0 A outer s) {x : Str} (hx : x ∈ names4) {st sd vd ad rd il : Addr} {sp : Int} {t1 t2 t3 t4 t5 : Tok} {oa : Obj} {kvs : List (Str × Value)} {ivs : List Value} {is : List Int} {c' : Nat}
    (hst : s.heap.get? st = some (instObj 107 sd)) (hsd : s.heap.get? sd = some (storeDict w vd ad rd sp t1 t2 t3 t4 t5)) (hA : s.heap.get? ad = some oa) (hD : DictObj w ad oa kvs) (hsz : kvs.length ≤ 900) (hv : valueAt kvs x = none)
    (hb : b0.get? ad = none) (hf : ad ∉ frs outer) (hne : ad ≠ sd ∧ ad ≠ st ∧ ad ≠ il) (hil : s.heap.get? il = some (listOf ivs.toArray c')) (hii : IntsAre ivs is) (hi4 : is.length ≤ 3)
    (k : placeWord (List.replicate is.length 10) is = "" → ∀ h' tk v, IsNothing x v → KeepW [ad] s.heap h' → NewArr w s.heap h' ad kvs x is.length → R (.ok (.ret v)) { s with heap := h', toks := tk })
    (e : placeWord (List.replicate is.length 10) is ≠ "" → ∀ h' tk ea, Rsd b0 outer [ad] s.heap h' ea (placeWord (List.replicate is.length 10) is) → NewArr w s.heap h' ad kvs x is.length → R (.error (.ref ea)) { s with heap := h', toks := tk }) :
    codeAny (model prg w) A (.call (.ref 97) ⟨[.ref st, .str x t, .ref il], []⟩) R s := by
  have hN : ∀ p ∈ [(ad, oa)], s.heap.get? p.1 = some p.2 ∧ b0.get? p.1 = none ∧ p.1 ∉ frs outer := List.forall_mem_singleton.mpr ⟨hA, hb, hf⟩
  (refine' enter (news := [(ad, oa)]) G H ?kN ?k6 ?k7 ?k9 ?kB ?_ ?c2 ?c3 ?c4 ?c5; (case kN => first | exact List.forall_mem_nil _ | assumption); (case k6 => k_is); (case k7 => k_is); (case k9 => exact BindsTo.of_eq rfl); (case c5 => decide); (case kB => exact locs rfl); (case c2 => exact rfl); (case c3 => exact rfl); (case c4 => exact rfl); (try dsimp only))
  intro g L h1 hg hL F N B X T hrm tk0
  replace hg : g = hideAll s.heap [ad] := hg
  have hst' : g.get? st = some (instObj 107 sd) := by rw [hg]; exact hideAll_get _ hst (by simpa using hne.2.1.symm)
  have hsd' : g.get? sd = some (storeDict w vd ad rd sp t1 t2 t3 t4 t5) := by rw [hg]; exact hideAll_get _ hsd (by simpa using hne.1.symm)
  have hil' : g.get? il = some (listOf ivs.toArray c') := by rw [hg]; exact hideAll_get _ hil (by simpa using hne.2.2.symm)
  have hWL := outL_of hg hL (List.forall_mem_singleton.mpr ⟨_, hA⟩)
  have hWo := out_of hg
  walk_at "m_steps"
  rename Fr g L _ _ => F1
  rename News g L _ _ => N1
  refine wpAny_call (array_place_new G (at_in B F1 (Rm.le hrm)) hx (F1.keep _ _ hst') (F1.keep _ _ hsd') (N1.get (.head _)) hD hsz hv hb (nf_cons (hWL ad (.head _)).2 hf) hne (F1.keep _ _ hil') hii hi4 ?_ ?_)
  · intro hw h2 tk2 tk' hk hnew
    refine foldG fun G9 hG9 => ?_
    obtain ⟨p0, p1⟩ := place_lt hw
    obtain ⟨nv, hno, hX⟩ := hnew
    obtain ⟨tup, its, bl, tb, oa', hd, N2, z1, z2, z3, z4, z5, z6, mk⟩ := hX.led F1 N1 (.head _)
    have F2 := Fr.kpW F1 hk hWL
    have back := fun h9 items' M => (mk h9 items' M).back (keepW hg F1) (N1.get (.head _))
    clear F1 N1 mk
    obtain ⟨items, hitems⟩ : ∃ items, items = List.replicate (manyOf (List.replicate is.length 10)).toNat nv := ⟨_, rfl⟩
    refine hG9 ?_
    clear hG9 G9
    have hzn : items.length = (manyOf (List.replicate is.length 10)).toNat := by rw [hitems, List.length_replicate]
    have hpm : (placeOf (List.replicate is.length 10) is).toNat < (manyOf (List.replicate is.length 10)).toNat := (Int.toNat_lt_toNat (Int.lt_of_le_of_lt p0 p1)).mpr p1
    have hz : items.length ≤ 100000 := by rw [hzn]; exact Nat.le_trans (usual_small hi4) (by decide)
    have hat : items[(placeOf (List.replicate is.length 10) is).toNat]? = some nv := by rw [hitems]; exact List.getElem?_replicate_of_lt hpm
    rw [← hitems] at N2
    have hvx : valueAt (stored kvs x (.ref tup)) x = some (.ref tup) := valueAt_stored
    have htT := isTup_get (N2.get (.head _))
    generalize placeOf (List.replicate is.length 10) is = at' at *
    (try dsimp only)
    walk_at "m_steps"
    exact k hw _ _ _ hno (keepW hg (by assumption)) ⟨nv, hno, back _ _ (hitems ▸ (by assumption))⟩
  · intro hw h2 tk2 ea hR hnew
    (try dsimp only)
    walk_at "m_steps"
    rename ∀ (b : Addr) (o : Obj), _ → (∀ vs, o.data ≠ .fields vs) → _ → _ => hO
    exact e hw _ _ _ (Rsd.wide (by assumption) hg) ((hnew.fwd fun b o q1 q2 q3 => hO b o q1 q2 (q3.elim (fun z => z ▸ nf_cons (hWL ad (.head _)).2 hf) fun z => out_frs B F1 z)).back (keepW hg F1) (N1.get (.head _)))
end

theorem words_final_m_6 : True := by
  k_with "assign Tuple" => (k_here; (with_reducible show wpAny _ _ (assign (Expr.Tuple _ _ _) _ (Value.ref _)) _ _ _); k_dflt (refine' unpackN_ ?zzF ?zzN ?zzT ?zzk1 ?zzk2 ?zzk3 ?_; (case zzF => assumption); (case zzN => assumption); (case zzT => exact isTup_get (by walk_at "m_get")); (case zzk1 => exact Rm.dh (by assumption)); (case zzk2 => exact rfl); (case zzk3 => exact rfl)); intro h' F' N'; (revert h' F' N'; intros); (try k_sweep))
  k_with "call ref" => (k_here; (with_reducible show wpAny _ _ (call (Value.ref 146) [Value.str _ _, _]) _ _ _); k_dflt (refine' wpAny_call (fit_value_spec ?zzG ?zzH ?zzx ?zzv ?_ ?_); (case zzG => assumption); (case zzH => walk_at "m_at"); (case zzx => assumption); (case zzv => assumption); walk_at "m_cont"))
  trivial

section
variable {w : World} {loose : List Str} {mean : ExcName → Option Value} {mg mb : Str → Option Value} {b0 : Heap} {A : Around} {outer : List Env} {s : Shared} {R : Result → Shared → Prop} {t : Tok}

theorem put_plain (G : Gnd w loose mean mg mb b0) (H : At 10 b0 A outer s) {x : Str} (hx : x ∈ names4) {v : Value} (hv : IsVal v) {st sd vd ad rd wh : Addr} {sp : Int} {t1 t2 t3 t4 t5 : Tok} {ov : Obj} {kvs : List (Str × Value)}
    (hst : s.heap.get? st = some (instObj 107 sd)) (hsd : s.heap.get? sd = some (storeDict w vd ad rd sp t1 t2 t3 t4 t5)) (hV : s.heap.get? vd = some ov) (hD : DictObj w vd ov kvs) (hsz : kvs.length ≤ 900)
    (hb : b0.get? vd = none) (hf : vd ∉ frs outer) (hne : vd ≠ sd ∧ vd ≠ st ∧ vd ≠ wh) (hwh : s.heap.get? wh = some (tupObj [.str x t, .none]))
    (k : fitWord x v = "" → ∀ h' tk ov', KeepW [vd] s.heap h' → h'.get? vd = some ov' → DictObj w vd ov' (stored kvs x v) → R (.ok (.ret .none)) { s with heap := h', toks := tk })
    (e : fitWord x v ≠ "" → ∀ h' tk ea, Rsd b0 outer [vd] s.heap h' ea (fitWord x v) → h'.get? vd = some ov → R (.error (.ref ea)) { s with heap := h', toks := tk }) :
    codeAny (model prg w) A (.call (.ref 153) ⟨[.ref st, .ref wh, v], []⟩) R s := by
  have hN : ∀ p ∈ [(vd, ov)], s.heap.get? p.1 = some p.2 ∧ b0.get? p.1 = none ∧ p.1 ∉ frs outer := List.forall_mem_singleton.mpr ⟨hV, hb, hf⟩
  (refine' enter (news := [(vd, ov)]) G H ?kN ?k6 ?k7 ?k9 ?kB ?_ ?c2 ?c3 ?c4 ?c5; (case kN => first | exact List.forall_mem_nil _ | assumption); (case k6 => k_is); (case k7 => k_is); (case k9 => exact BindsTo.of_eq rfl); (case c5 => decide); (case kB => exact locs rfl); (case c2 => exact rfl); (case c3 => exact rfl); (case c4 => exact rfl); (try dsimp only))
  intro g L h1 hg hL F N B X T hrm tk0
  replace hg : g = hideAll s.heap [vd] := hg
  have hst' : g.get? st = some (instObj 107 sd) := by rw [hg]; exact hideAll_get _ hst (by simpa using hne.2.1.symm)
  have hsd' : g.get? sd = some (storeDict w vd ad rd sp t1 t2 t3 t4 t5) := by rw [hg]; exact hideAll_get _ hsd (by simpa using hne.1.symm)
  have hwh' : g.get? wh = some (tupObj [.str x t, .none]) := by rw [hg]; exact hideAll_get _ hwh (by simpa using hne.2.2.symm)
  have htT := isTup_get hwh'
  walk_at "m_steps"
  · rename fitWord x v = "" => hw
    rename DictObj w vd _ (stored _ _ _) => D9
    exact k hw _ _ _ (keepW hg (by assumption)) (News.get (by assumption) (by k_mem)) D9
  · rename ¬ fitWord x v = "" => hw
    rename ∀ p : Addr × Obj, p ∈ _ → p.1 ∉ _ → _ => q
    exact e hw _ _ _ (Rsd.wide (by assumption) hg) (q (vd, ov) (by simp) (nm_nil _) hD.nf)

theorem put_bad (G : Gnd w loose mean mg mb b0) (H : At 10 b0 A outer s) {x : Str} (hx : x ∈ names4) {v : Value} (hv : IsVal v) {st wh il : Addr} (hw : fitWord x v ≠ "") (hwh : s.heap.get? wh = some (tupObj [.str x t, .ref il]))
    (e : ∀ h' tk ea, Rsd b0 outer [] s.heap h' ea (fitWord x v) → R (.error (.ref ea)) { s with heap := h', toks := tk }) :
    codeAny (model prg w) A (.call (.ref 153) ⟨[.ref st, .ref wh, v], []⟩) R s := by
  (refine' enter (news := []) G H ?kN ?k6 ?k7 ?k9 ?kB ?_ ?c2 ?c3 ?c4 ?c5; (case kN => first | exact List.forall_mem_nil _ | assumption); (case k6 => k_is); (case k7 => k_is); (case k9 => exact BindsTo.of_eq rfl); (case c5 => decide); (case kB => exact locs rfl); (case c2 => exact rfl); (case c3 => exact rfl); (case c4 => exact rfl); (try dsimp only))
  intro g L h1 hg hL F N B X T hrm tk0
  replace hg : g = hideAll s.heap [] := hg
  have hwh' : g.get? wh = some (tupObj [.str x t, .ref il]) := by rw [hg]; exact hwh
  have htT := isTup_get hwh'
  walk_at "m_steps"
  · rename fitWord x v = "" => hz
    exact absurd hz hw
  · exact e _ _ _ (Rsd.wide (by assumption) hg)

theorem put_old (G : Gnd w loose mean mg mb b0) (H : At 10 b0 A outer s) {x : Str} (hx : x ∈ names4) {v : Value} (hv : IsVal v) {st sd vd ad rd wh tup bl its il : Addr} {sp : Int} {t1 t2 t3 t4 t5 : Tok} {oa : Obj} {kvs : List (Str × Value)} {bvs ivs items : List Value} {bs is : List Int} {c c' c2 : Nat}
    (hst : s.heap.get? st = some (instObj 107 sd)) (hsd : s.heap.get? sd = some (storeDict w vd ad rd sp t1 t2 t3 t4 t5)) (hA : s.heap.get? ad = some oa) (hD : DictObj w ad oa kvs) (hvx : valueAt kvs x = some (.ref tup))
    (ht : s.heap.get? tup = some (tupObj [.ref bl, .ref its])) (hbl : s.heap.get? bl = some (listOf bvs.toArray c)) (hbi : IntsAre bvs bs) (hil : s.heap.get? il = some (listOf ivs.toArray c')) (hii : IntsAre ivs is)
    (hb4 : bs.length ≤ 4) (hi4 : is.length ≤ 4) (hbs : ∀ b ∈ bs, 0 ≤ b ∧ b ≤ 1000) (hit : s.heap.get? its = some (listOf items.toArray c2)) (hz : items.length ≤ 100000)
    (hin : placeWord bs is = "" → 0 ≤ placeOf bs is ∧ (placeOf bs is).toNat < items.length)
    (hb : b0.get? its = none) (hf : its ∉ frs outer) (hne : its ≠ sd ∧ its ≠ st ∧ its ≠ wh ∧ its ≠ ad ∧ its ≠ tup ∧ its ≠ bl ∧ its ≠ il) (hwh : s.heap.get? wh = some (tupObj [.str x t, .ref il]))
    (k : fitWord x v = "" → placeWord bs is = "" → ∀ h' tk, KeepW [its] s.heap h' → h'.get? its = some (listOf (items.set (placeOf bs is).toNat v).toArray c2) → R (.ok (.ret .none)) { s with heap := h', toks := tk })
    (e1 : fitWord x v ≠ "" → ∀ h' tk ea, Rsd b0 outer [its] s.heap h' ea (fitWord x v) → h'.get? its = some (listOf items.toArray c2) → R (.error (.ref ea)) { s with heap := h', toks := tk })
    (e2 : fitWord x v = "" → placeWord bs is ≠ "" → ∀ h' tk ea, Rsd b0 outer [its] s.heap h' ea (placeWord bs is) → h'.get? its = some (listOf items.toArray c2) → R (.error (.ref ea)) { s with heap := h', toks := tk }) :
    codeAny (model prg w) A (.call (.ref 153) ⟨[.ref st, .ref wh, v], []⟩) R s := by
  have hN : ∀ p ∈ [(its, listOf items.toArray c2)], s.heap.get? p.1 = some p.2 ∧ b0.get? p.1 = none ∧ p.1 ∉ frs outer := List.forall_mem_singleton.mpr ⟨hit, hb, hf⟩
  refine foldG fun G9 hG9 => ?_
  obtain ⟨z1, z2, z3, z4, z5, z6, z7⟩ := hne
  refine hG9 ?_
  clear hG9 G9
  (refine' enter (news := [(its, listOf items.toArray c2)]) G H ?kN ?k6 ?k7 ?k9 ?kB ?_ ?c2 ?c3 ?c4 ?c5; (case kN => first | exact List.forall_mem_nil _ | assumption); (case k6 => k_is); (case k7 => k_is); (case k9 => exact BindsTo.of_eq rfl); (case c5 => decide); (case kB => exact locs rfl); (case c2 => exact rfl); (case c3 => exact rfl); (case c4 => exact rfl); (try dsimp only))
  intro g L h1 hg hL F N B X T hrm tk0
  replace hg : g = hideAll s.heap [its] := hg
  have up : ∀ b o, s.heap.get? b = some o → its ≠ b → g.get? b = some o := fun b o q z => by rw [hg]; exact hideAll_get _ q (nm_one z.symm)
  have hst' := up _ _ hst z2
  have hsd' := up _ _ hsd z1
  have hwh' := up _ _ hwh z3
  have hA' := up _ _ hA z4
  have ht' := up _ _ ht z5
  have hbl' := up _ _ hbl z6
  have hil' := up _ _ hil z7
  have htT := isTup_get ht'
  walk_at "m_steps"
  · rename Fr g L _ _ => F1
    rename News g L _ _ => N1
    rename fitWord x v = "" => hfw
    refine wpAny_call (array_place_old G (at_in B F1 (Rm.le hrm)) (F1.keep _ _ hst') (F1.keep _ _ hsd') (F1.keep _ _ hA') hD hvx (F1.keep _ _ ht') (F1.keep _ _ hbl') hbi (F1.keep _ _ hil') hii hb4 hi4 hbs ?_ ?_)
    · intro hw h2 tk2 tk' hk
      obtain ⟨hin1, hin2⟩ := hin hw
      have F2 := Fr.kp F1 hk
      have N2 := News.kp N1 hk
      clear F1 N1
      generalize placeOf bs is = at' at *
      (try dsimp only)
      walk_at "m_steps"
      exact k hfw hw _ _ (keepW hg (by assumption)) (News.get (by assumption) (by k_mem))
    · intro hw h2 tk2 ea hR
      (try dsimp only)
      walk_at "m_steps"
      rename ∀ p : Addr × Obj, p ∈ _ → p.1 ∉ _ → _ => q
      exact e2 hfw hw _ _ _ (Rsd.wide (by assumption) hg) (q (its, listOf items.toArray c2) (by simp) (nm_nil _) (fun _ z => by cases z))
  · rename ¬ fitWord x v = "" => hw
    rename ∀ p : Addr × Obj, p ∈ _ → p.1 ∉ _ → _ => q
    exact e1 hw _ _ _ (Rsd.wide (by assumption) hg) (q (its, listOf items.toArray c2) (by simp) (nm_nil _) (fun _ z => by cases z))

theorem put_new (G : Gnd w loose mean mg mb b0) (H : At 10 b0 A outer s) {x : Str} (hx : x ∈ names4) {v : Value} (hv : IsVal v) {st sd vd ad rd wh il : Addr} {sp : Int} {t1 t2 t3 t4 t5 : Tok} {oa : Obj} {kvs : List (Str × Value)} {ivs : List Value} {is : List Int} {c' : Nat}
    (hst : s.heap.get? st = some (instObj 107 sd)) (hsd : s.heap.get? sd = some (storeDict w vd ad rd sp t1 t2 t3 t4 t5)) (hA : s.heap.get? ad = some oa) (hD : DictObj w ad oa kvs) (hsz : kvs.length ≤ 900) (hva : valueAt kvs x = none)
    (hb : b0.get? ad = none) (hf : ad ∉ frs outer) (hne : ad ≠ sd ∧ ad ≠ st ∧ ad ≠ il ∧ ad ≠ wh) (hil : s.heap.get? il = some (listOf ivs.toArray c')) (hii : IntsAre ivs is) (hi4 : is.length ≤ 3) (hwh : s.heap.get? wh = some (tupObj [.str x t, .ref il]))
    (k : fitWord x v = "" → placeWord (List.replicate is.length 10) is = "" → ∀ h' tk nv, IsNothing x nv → KeepW [ad] s.heap h' → ArrIs w s.heap h' ad kvs x is.length ((List.replicate (manyOf (List.replicate is.length 10)).toNat nv).set (placeOf (List.replicate is.length 10) is).toNat v) → R (.ok (.ret .none)) { s with heap := h', toks := tk })
    (e1 : fitWord x v ≠ "" → ∀ h' tk ea, Rsd b0 outer [ad] s.heap h' ea (fitWord x v) → h'.get? ad = some oa → R (.error (.ref ea)) { s with heap := h', toks := tk })
    (e2 : fitWord x v = "" → placeWord (List.replicate is.length 10) is ≠ "" → ∀ h' tk ea, Rsd b0 outer [ad] s.heap h' ea (placeWord (List.replicate is.length 10) is) → NewArr w s.heap h' ad kvs x is.length → R (.error (.ref ea)) { s with heap := h', toks := tk }) :
    codeAny (model prg w) A (.call (.ref 153) ⟨[.ref st, .ref wh, v], []⟩) R s := by
  have hN : ∀ p ∈ [(ad, oa)], s.heap.get? p.1 = some p.2 ∧ b0.get? p.1 = none ∧ p.1 ∉ frs outer := List.forall_mem_singleton.mpr ⟨hA, hb, hf⟩
  obtain ⟨z1, z2, z3, z4⟩ := hne
  (refine' enter (news := [(ad, oa)]) G H ?kN ?k6 ?k7 ?k9 ?kB ?_ ?c2 ?c3 ?c4 ?c5; (case kN => first | exact List.forall_mem_nil _ | assumption); (case k6 => k_is); (case k7 => k_is); (case k9 => exact BindsTo.of_eq rfl); (case c5 => decide); (case kB => exact locs rfl); (case c2 => exact rfl); (case c3 => exact rfl); (case c4 => exact rfl); (try dsimp only))
  intro g L h1 hg hL F N B X T hrm tk0
  replace hg : g = hideAll s.heap [ad] := hg
  have up : ∀ b o, s.heap.get? b = some o → ad ≠ b → g.get? b = some o := fun b o q z => by rw [hg]; exact hideAll_get _ q (nm_one z.symm)
  have hst' := up _ _ hst z2
  have hsd' := up _ _ hsd z1
  have hwh' := up _ _ hwh z4
  have hil' := up _ _ hil z3
  have htT := isTup_get hwh'
  have hWL := outL_of hg hL (List.forall_mem_singleton.mpr ⟨_, hA⟩)
  have hWo := out_of hg
  walk_at "m_steps"
  · rename Fr g L _ _ => F1
    rename News g L _ _ => N1
    rename fitWord x v = "" => hfw
    refine wpAny_call (array_place_new G (at_in B F1 (Rm.le hrm)) hx (F1.keep _ _ hst') (F1.keep _ _ hsd') (N1.get (.head _)) hD hsz hva hb (nf_cons (hWL ad (.head _)).2 hf) ⟨z1, z2, z3⟩ (F1.keep _ _ hil') hii hi4 ?_ ?_)
    · intro hw h2 tk2 tk' hk hnew
      refine foldG fun G9 hG9 => ?_
      obtain ⟨p0, p1⟩ := place_lt hw
      obtain ⟨nv, hno, hX⟩ := hnew
      obtain ⟨tup, its, bl, tb, oa', hd, N2, y1, y2, y3, y4, y5, y6, mk⟩ := hX.led F1 N1 (.head _)
      have F2 := Fr.kpW F1 hk hWL
      have y7 := y1.symm
      have y8 := y2.symm
      have back := fun h9 items' M => (mk h9 items' M).back (keepW hg F1) (N1.get (.head _))
      clear F1 N1 mk
      obtain ⟨items, hitems⟩ : ∃ items, items = List.replicate (manyOf (List.replicate is.length 10)).toNat nv := ⟨_, rfl⟩
      refine hG9 ?_
      clear hG9 G9
      have hzn : items.length = (manyOf (List.replicate is.length 10)).toNat := by rw [hitems, List.length_replicate]
      have hpm : (placeOf (List.replicate is.length 10) is).toNat < (manyOf (List.replicate is.length 10)).toNat := (Int.toNat_lt_toNat (Int.lt_of_le_of_lt p0 p1)).mpr p1
      have hz : items.length ≤ 100000 := by rw [hzn]; exact Nat.le_trans (usual_small hi4) (by decide)
      have hat : (placeOf (List.replicate is.length 10) is).toNat < items.length := by rw [hzn]; exact hpm
      rw [← hitems] at N2
      have k := fun h' tk => k hfw hw h' tk nv hno
      have hvx : valueAt (stored kvs x (.ref tup)) x = some (.ref tup) := valueAt_stored
      have htT := isTup_get (N2.get (.head _))
      rw [← hitems] at k
      generalize placeOf (List.replicate is.length 10) is = at' at *
      (try dsimp only)
      walk_at "m_steps"
      exact k _ _ (keepW hg (by assumption)) (back _ _ (by assumption))
    · intro hw h2 tk2 ea hR hnew
      (try dsimp only)
      walk_at "m_steps"
      rename ∀ (b : Addr) (o : Obj), _ → (∀ vs, o.data ≠ .fields vs) → _ → _ => hO
      exact e2 hfw hw _ _ _ (Rsd.wide (by assumption) hg) ((hnew.fwd fun b o q1 q2 q3 => hO b o q1 q2 (q3.elim (fun z => z ▸ nf_cons (hWL ad (.head _)).2 hf) fun z => out_frs B F1 z)).back (keepW hg F1) (N1.get (.head _)))
  · rename ¬ fitWord x v = "" => hw
    rename ∀ p : Addr × Obj, p ∈ _ → p.1 ∉ _ → _ => q
    exact e1 hw _ _ _ (Rsd.wide (by assumption) hg) (q (ad, oa) (by simp) (nm_nil _) hD.nf)
end

section
variable {w : World} {A : Around} {E : Value → Shared → Prop} {s : Shared} {d : Addr} {o : Obj} {kvs : List (Str × Value)} {x : Str} {t : Tok}
theorem get_method {pl : Sem Bool} {Q : Value × List Value → Shared → Prop} (ho : s.heap.get? d = some o) (D : DictObj w d o kvs) (h : Q (.builtin "dict.get", [.ref d]) s) : wpAny (model prg w) A (getMethod (.ref d) "get" pl) Q E s :=
  getMethod_builtin (D.at ho).typeIs PySem.F.plainAttrs_dict PySem.F.slot_dict_get PySem.F.type_dict_get (D.at ho).mapOf.noDict h
theorem get_dict2 {dflt : Value} {Q : Value → Shared → Prop} (ho : s.heap.get? d = some o) (D : DictObj w d o kvs) (h : Q ((valueAt kvs x).getD dflt) { s with toks := s.toks + 1 }) :
    wpAny (model prg w) A (call (.builtin "dict.get") [.ref d, .str x t, dflt]) Q E s :=
  call_meetsIn PySem.F.slot_dict_get (D.at ho).typeIs PySem.F.entry_dict_get (PySem.F.args_dict_get_3 _ _ _) (meets_dict_get_default (PySem.strKind prg w) d (strKind_is _ _ _ _) D.1 dflt) ⟨_, (D.at ho).mapOf, h⟩
end
section
variable {w : World} {A : Around} {E : Value → Shared → Prop} {s : Shared} {l : Addr} {vs : List Value} {ns : List Int} {c : Nat} {k : Int} {u : Tok}
theorem sub_ints {value slice : PySem.Expr} {Q : Value → Shared → Prop} (hl : s.heap.get? l = some (listOf vs.toArray c)) (hi : IntsAre vs ns) (h0 : 0 ≤ k) (hk : k < vs.length) (hz : vs.length ≤ 100000) (h : ∀ t, Q (.int (ns.getD k.toNat 0) t) s)
    (hs : subscripted slice false (.ref l) (.int k u) = operate [.ref l, .int k u] (getItem (.ref l) (.int k u)) := by with_unfolding_all rfl) (ht : ∀ r, letTemporaryGo value (.ref l) r = pure () := by intro _; with_unfolding_all rfl) :
    wpAny (model prg w) A (subscriptTail value slice (.ref l) (.int k u)) Q E s := by
  have hn := hi.length
  have hj : k.toNat < ns.length := toNat_lt4 h0 (by rw [← hn]; exact hk)
  obtain ⟨t, e⟩ := hi.get k.toNat _ (List.getElem?_eq_getElem hj)
  refine sub_list hl h0 hz e ?_ hs ht
  have := h t
  rw [List.getD_eq_getElem?_getD, List.getElem?_eq_getElem hj] at this
  exact this
end

theorem words_final_m_7 : True := by
  k_with "getMethod ref" => (k_here; (with_reducible show wpAny _ _ (getMethod (Value.ref _) (Str.ofString "get") _) _ _ _); k_dflt (refine' get_method ?zzg ?zzD ?_; (case zzg => walk_at "m_get"); (case zzD => assumption)))
  k_with "call builtin:dict.get" => (k_here; (with_reducible show wpAny _ _ (call (Value.builtin "dict.get") [Value.ref _, Value.str _ _, _]) _ _ _); k_dflt (refine' get_dict2 ?zzg ?zzD ?_; (case zzg => walk_at "m_get"); (case zzD => assumption)))
  k_with "subscriptTail" => (k_here; (with_reducible show wpAny _ _ (subscriptTail _ _ (Value.ref _) (Value.int (Int.fmod _ _) _)) _ _ _); k_dflt (refine' sub_ints ?zzg ?zzi ?zza ?zzb ?zzz ?_; (case zzg => walk_at "m_get"); (case zzi => assumption); (case zza => exact Int.fmod_nonneg_of_pos _ (by first | decide | omega)); (case zzb => exact Int.fmod_lt_of_pos _ (by first | decide | omega)); (case zzz => walk_at "m_sm")); intro _)
  trivial

section
variable {w : World} {loose : List Str} {mean : ExcName → Option Value} {mg mb : Str → Option Value} {b0 : Heap} {A : Around} {outer : List Env} {s : Shared} {R : Result → Shared → Prop} {t : Tok}

theorem read_spec (G : Gnd w loose mean mg mb b0) (H : At 6 b0 A outer s) {x : Str} (hx : x ∈ names4) {st sd vd ad rd : Addr} {sp : Int} {t1 t2 t3 t4 t5 : Tok} {ov : Obj} {kvs : List (Str × Value)}
    (hst : s.heap.get? st = some (instObj 107 sd)) (hsd : s.heap.get? sd = some (storeDict w vd ad rd sp t1 t2 t3 t4 t5)) (hV : s.heap.get? vd = some ov) (hD : DictObj w vd ov kvs)
    (k : ∀ h' tk v, (valueAt kvs x = some v ∨ valueAt kvs x = none ∧ IsNothing x v) → (∀ b o, s.heap.get? b = some o → h'.get? b = some o) → R (.ok (.ret v)) { s with heap := h', toks := tk }) :
    codeAny (model prg w) A (.call (.ref 90) ⟨[.ref st, .str x t], []⟩) R s := by
  (refine' enter (news := []) G H ?kN ?k6 ?k7 ?k9 ?kB ?_ ?c2 ?c3 ?c4 ?c5; (case kN => first | exact List.forall_mem_nil _ | assumption); (case k6 => k_is); (case k7 => k_is); (case k9 => exact BindsTo.of_eq rfl); (case c5 => decide); (case kB => exact locs rfl); (case c2 => exact rfl); (case c3 => exact rfl); (case c4 => exact rfl); (try dsimp only))
  intro g L h1 hg hL F N B X T hrm tk0
  replace hg : g = hideAll s.heap [] := hg
  have hst' : g.get? st = some (instObj 107 sd) := by rw [hg]; exact hst
  have hsd' : g.get? sd = some (storeDict w vd ad rd sp t1 t2 t3 t4 t5) := by rw [hg]; exact hsd
  have hV' : g.get? vd = some ov := by rw [hg]; exact hV
  walk_at "m_steps"
  refine k _ _ _ ?_ (keep0 hg (by assumption))
  rename IsNothing _ _ => hno
  cases q : valueAt kvs x with
  | none => exact .inr ⟨rfl, hno⟩
  | some v => exact .inl rfl
/-- a random number told, and where the next lies -/
def randOf (ns : List Int) (sp n : Int) : Int × Int :=
  if ns.length = 0 then (0, sp) else if n ≤ 0 then (ns.getD ((sp - 1).fmod ns.length).toNat 0, sp) else ((ns.getD (sp.fmod ns.length).toNat 0).fmod n, sp + 1)
theorem random_spec (G : Gnd w loose mean mg mb b0) (H : At 6 b0 A outer s) {n : Int} {st sd vd ad rd : Addr} {sp : Int} {t1 t2 t3 t4 t5 : Tok} {vs : List Value} {ns : List Int} {c : Nat}
    (hst : s.heap.get? st = some (instObj 107 sd)) (hsd : s.heap.get? sd = some (storeDict w vd ad rd sp t1 t2 t3 t4 t5)) (hr : s.heap.get? rd = some (listOf vs.toArray c)) (hi : IntsAre vs ns) (hb : b0.get? sd = none) (hf : sd ∉ frs outer) (hne : sd ≠ st ∧ sd ≠ rd) (hz : ns.length ≤ 64) (hsp : 0 ≤ sp ∧ sp ≤ 1000)
    (k : ∀ h' tk t' t5', KeepW [sd] s.heap h' → h'.get? sd = some (storeDict w vd ad rd (randOf ns sp n).2 t1 t2 t3 t4 t5') → R (.ok (.ret (.int (randOf ns sp n).1 t'))) { s with heap := h', toks := tk }) :
    codeAny (model prg w) A (.call (.ref 104) ⟨[.ref st, .int n t], []⟩) R s := by
  have hN : ∀ p ∈ [(sd, storeDict w vd ad rd sp t1 t2 t3 t4 t5)], s.heap.get? p.1 = some p.2 ∧ b0.get? p.1 = none ∧ p.1 ∉ frs outer := List.forall_mem_singleton.mpr ⟨hsd, hb, hf⟩
  (refine' enter (news := [(sd, storeDict w vd ad rd sp t1 t2 t3 t4 t5)]) G H ?kN ?k6 ?k7 ?k9 ?kB ?_ ?c2 ?c3 ?c4 ?c5; (case kN => first | exact List.forall_mem_nil _ | assumption); (case k6 => k_is); (case k7 => k_is); (case k9 => exact BindsTo.of_eq rfl); (case c5 => decide); (case kB => exact locs rfl); (case c2 => exact rfl); (case c3 => exact rfl); (case c4 => exact rfl); (try dsimp only))
  intro g L h1 hg hL F N B X T hrm tk0
  replace hg : g = hideAll s.heap [sd] := hg
  have hst' : g.get? st = some (instObj 107 sd) := by rw [hg]; exact hideAll_get _ hst (nm_one hne.1.symm)
  have hr' : g.get? rd = some (listOf vs.toArray c) := by rw [hg]; exact hideAll_get _ hr (nm_one hne.2.symm)
  have hl := hi.length
  walk_at "m_steps"
  · rename (vs.length : Int) = 0 => h0
    have hr : randOf ns sp n = (0, sp) := if_pos (hl.symm.trans (Int.ofNat.inj h0))
    rw [hr] at k
    exact k _ _ _ _ (keepW hg F) (N.get (.head _))
  · rename ¬ (vs.length : Int) = 0 => h0
    rename n ≤ 0 => h2
    have hr : randOf ns sp n = (ns.getD ((sp - 1).fmod vs.length).toNat 0, sp) := by rw [randOf, if_neg (fun z => h0 (by rw [hl, z]; rfl)), if_pos h2, hl]
    rw [hr] at k
    exact k _ _ _ _ (keepW hg F) (N.get (.head _))
  · rename ¬ (vs.length : Int) = 0 => h0
    rename ¬ n ≤ 0 => h2
    have hr : randOf ns sp n = ((ns.getD (sp.fmod vs.length).toNat 0).fmod n, sp + 1) := by rw [randOf, if_neg (fun z => h0 (by rw [hl, z]; rfl)), if_neg h2, hl]
    rw [hr] at k
    exact k _ _ _ _ (keepW hg (by assumption)) (News.get (by assumption) (by k_mem))
end

section
variable {w : World} {A : Around} {E : Value → Shared → Prop} {s : Shared} {x y : Str} {t u : Tok} {i : Int} {Q : Value → Shared → Prop}
theorem mul_text (hk : x.length = 1) (h0 : 0 ≤ i) (h1 : i ≤ 300) (h : ∀ t' k, (Txt.mul x i).length ≤ 300 → Q (.str (Txt.mul x i) t') { s with toks := k }) :
    wpAny (model prg w) A (binaryOp .Mult (.str x t) (.int i u)) Q E s :=
  KXi.mul hk (by decide) (by omega) (by omega) fun t' k _ z => h t' k (by have := z h0; omega)
theorem add_text (hx : x.length ≤ 10) (hy : y.length ≤ 300) (h : ∀ t' k, (x ++ y).length ≤ 310 → Q (.str (x ++ y) t') { s with toks := k }) :
    wpAny (model prg w) A (binaryOp .Add (.str x t) (.str y u)) Q E s :=
  KXadd.add hx hy (by decide) fun t' k z => h t' k (by omega)
end

/-- its signs are signs -/
def IsOk (v : Value) : Prop := ∀ x t, v = .str x t → PyData.strOk x = true
theorem ok_app {x y : Str} (hx : PyData.strOk x = true) (hy : PyData.strOk y = true) : PyData.strOk (x ++ y) = true := by
  unfold PyData.strOk at *
  rw [Str.cps_append]
  rw [Array.all_append, hx, hy]; rfl
theorem ok_mul {x : Str} (hx : PyData.strOk x = true) (i : Int) : PyData.strOk (Txt.mul x i) = true := by
  have e : ∀ (k : Nat) (a : Array Nat), a.all (· < 0x110000) = true → ((List.replicate k x.cps).foldl (· ++ ·) a).all (· < 0x110000) = true := by
    intro k
    induction k with
    | zero => intro a h; exact h
    | succ k ih =>
      intro a h
      rw [List.replicate_succ, List.foldl_cons]
      refine ih _ ?_
      unfold PyData.strOk at hx
      rw [Array.all_append, h, hx]; rfl
  unfold Txt.mul
  split
  · decide +kernel
  · split
    · exact hx
    · exact e _ _ (by decide +kernel)
theorem isOk_str {x : Str} {t : Tok} (h : PyData.strOk x = true) : IsOk (.str x t) := fun _ _ e => by cases e; exact h
theorem isOk_int {i : Int} {t : Tok} : IsOk (.int i t) := fun _ _ e => by cases e

/-- while it stands, a menu's place is not walked case by case -/
def Menu : Prop := True
section
variable {w : World} {A : Around} {E : Value → Shared → Prop} {s : Shared} {l : Addr} {vs : List Value} {c : Nat} {k : Int} {u : Tok}
/-- an item of a menu at a place that is not known: what holds of all items holds of it -/
theorem sub_menu {value slice : PySem.Expr} {Q : Value → Shared → Prop} (P : Value → Prop) (hl : s.heap.get? l = some (listOf vs.toArray c)) (hP : ∀ v ∈ vs, P v) (h0 : 0 ≤ k) (hk : k < vs.length) (hz : vs.length ≤ 100000) (h : ∀ v, P v → Q v s)
    (hs : subscripted slice false (.ref l) (.int k u) = operate [.ref l, .int k u] (getItem (.ref l) (.int k u)) := by with_unfolding_all rfl) :
    wpAny (model prg w) A (subscriptTail value slice (.ref l) (.int k u)) Q E s := by
  have hj : k.toNat < vs.length := toNat_lt4 h0 hk
  exact item_listR (isList_get hl) h0 (by omega) (by rw [List.getElem?_toArray]; exact List.getElem?_eq_getElem hj) (h _ (hP _ (List.getElem_mem hj))) hs
end

theorem len4 {x : Str} (h : x ∈ names4) : 1 ≤ x.length ∧ x.length ≤ 2 := by
  rcases mem4 h with rfl | rfl | rfl | rfl <;> exact ⟨by decide, by decide⟩
/-- the last sign -/
def lastOf (x : Str) : Str := Txt.item x ((x.length : Int) - 1)
theorem last4 {x : Str} (h : x ∈ names4) : (lastOf x == ("$" : Str)) = isText x := by
  rcases mem4 h with rfl | rfl | rfl | rfl <;> decide +kernel
section
variable {w : World} {A : Around} {E : Value → Shared → Prop} {s : Shared} {x : Str} {t u : Tok} {Q : Value → Shared → Prop}
theorem len_name (hx : x ∈ names4) (h : Q (.int x.length (s.toks + 1)) { s with toks := s.toks + 1 + 1 }) : wpAny (model prg w) A (call (.builtin "len") [.str x t]) Q E s :=
  len_str (by have := (len4 hx).2; omega) h
theorem sub_last {value slice : PySem.Expr} (hx : x ∈ names4) (h : Q (.str (lastOf x) s.toks) { s with toks := s.toks + 1 })
    (hs : subscripted slice false (.str x t) (.int ((x.length : Int) - 1) u) = operate [.str x t, .int ((x.length : Int) - 1) u] (getItem (.str x t) (.int ((x.length : Int) - 1) u)) := by with_unfolding_all rfl)
    (ht : ∀ r, letTemporaryGo value (.str x t) r = pure () := by intro _; with_unfolding_all rfl) :
    wpAny (model prg w) A (subscriptTail value slice (.str x t) (.int ((x.length : Int) - 1) u)) Q E s := by
  have := len4 hx
  exact KXi.item (n := x.length) rfl (by omega) (by omega) (by omega) (fun _ => h) hs ht
theorem eq_last (hx : x ∈ names4) (h : Q (.bool (isText x)) s) : wpAny (model prg w) A (compareOp .Eq (.str (lastOf x) t) (.str "$" u)) Q E s := by
  refine eq_str ?_
  rw [last4 hx]; exact h
theorem eq_lastB {b : Bool} (hx : x ∈ names4) (hb : isText x = b) (h : Q (.bool b) s) : wpAny (model prg w) A (compareOp .Eq (.str (lastOf x) t) (.str "$" u)) Q E s := eq_last hx (hb ▸ h)
end

theorem words_final_m_7b : True := by
  k_with "subscriptTail" => (k_here; (fail_if_success (fail_if_success (with_reducible rename Menu => hmn9))); (with_reducible show wpAny _ _ (subscriptTail _ _ (Value.ref _) (Value.int _ _)) _ _ _); k_dflt (refine stopM ?_))
  trivial

theorem words_final_m_7c : True := by
  k_with "call builtin:len" => (k_here; (with_reducible show wpAny _ _ (call (Value.builtin "len") [Value.str _ _]) _ _ _); k_dflt (refine' len_name ?zzx ?_; (case zzx => assumption)))
  k_with "subscriptTail" => (k_here; (with_reducible show wpAny _ _ (subscriptTail _ _ (Value.str _ _) (Value.int _ _)) _ _ _); k_dflt (refine' sub_last ?zzx ?_; (case zzx => assumption)))
  k_with "compareOp Eq str str" => (k_here; (with_reducible show wpAny _ _ (compareOp CmpOp.Eq (Value.str (lastOf _) _) _) _ _ _); k_dflt (refine' eq_last ?zzx ?_; (case zzx => assumption)))
  k_with "compareOp Eq str str" => (k_here; (with_reducible show wpAny _ _ (compareOp CmpOp.Eq (Value.str (lastOf _) _) _) _ _ _); k_dflt (refine' eq_lastB ?zzx ?zzb ?_; (case zzx => assumption); (case zzb => assumption)))
  trivial

theorem words_final_m_8 : True := by
  k_with "binaryOp Mult str int" => (k_here; k_dflt (refine' mul_text ?zza ?zzb ?zzc ?_; (case zza => decide); (case zzb => omega); (case zzc => omega)); intro _ _ _)
  k_with "binaryOp Add str str" => (k_here; k_dflt (refine' add_text ?zza ?zzb ?_; (case zza => decide); (case zzb => assumption)); intro _ _ _)
  trivial

section
variable {w : World} {loose : List Str} {mean : ExcName → Option Value} {mg mb : Str → Option Value} {b0 : Heap} {A : Around} {outer : List Env} {s : Shared} {R : Result → Shared → Prop} {t : Tok}

theorem law_names_spec (G : Gnd w loose mean mg mb b0) (H : At 3 b0 A outer s)
    (k : ∀ h' tk l vs, (∀ b o, s.heap.get? b = some o → h'.get? b = some o) → s.heap.get? l = none → h'.get? l = some (listOf vs.toArray 0) → (∃ a b c d, vs = [.str "A" a, .str "B$" b, .str "C" c, .str "D$" d]) → R (.ok (.ret (.ref l))) { s with heap := h', toks := tk }) :
    codeAny (model prg w) A (.call (.ref 160) ⟨[], []⟩) R s := by
  (refine' enter (news := []) G H ?kN ?k6 ?k7 ?k9 ?kB ?_ ?c2 ?c3 ?c4 ?c5; (case kN => first | exact List.forall_mem_nil _ | assumption); (case k6 => k_is); (case k7 => k_is); (case k9 => exact BindsTo.of_eq rfl); (case c5 => decide); (case kB => exact locs rfl); (case c2 => exact rfl); (case c3 => exact rfl); (case c4 => exact rfl); (try dsimp only))
  intro g L h1 hg hL F N B X T hrm tk0
  replace hg : g = hideAll s.heap [] := hg
  walk_at "m_steps"
  exact k _ _ _ _ (keep0 hg (by assumption)) (fresh_of hg (by assumption : News g L _ _) (.head _) (nm_nil _)) (News.get (by assumption) (by k_mem)) ⟨_, _, _, _, rfl⟩
theorem law_value_spec (G : Gnd w loose mean mg mb b0) (H : At 3 b0 A outer s) {n : Int}
    (k : ∀ h' tk v, (∀ b o, s.heap.get? b = some o → h'.get? b = some o) → IsVal v → IsOk v → R (.ok (.ret v)) { s with heap := h', toks := tk }) :
    codeAny (model prg w) A (.call (.ref 174) ⟨[.int n t], []⟩) R s := by
  (refine' enter (news := []) G H ?kN ?k6 ?k7 ?k9 ?kB ?_ ?c2 ?c3 ?c4 ?c5; (case kN => first | exact List.forall_mem_nil _ | assumption); (case k6 => k_is); (case k7 => k_is); (case k9 => exact BindsTo.of_eq rfl); (case c5 => decide); (case kB => exact locs rfl); (case c2 => exact rfl); (case c3 => exact rfl); (case c4 => exact rfl); (try dsimp only))
  intro g L h1 hg hL F N B X T hrm tk0
  replace hg : g = hideAll s.heap [] := hg
  have f5 : 0 ≤ (n.fdiv 7).fmod 5 ∧ (n.fdiv 7).fmod 5 < 5 := ⟨Int.fmod_nonneg_of_pos _ (by decide), Int.fmod_lt_of_pos _ (by decide)⟩
  have f2 : 0 ≤ (n.fdiv 7).fmod 2 ∧ (n.fdiv 7).fmod 2 < 2 := ⟨Int.fmod_nonneg_of_pos _ (by decide), Int.fmod_lt_of_pos _ (by decide)⟩
  have f7 : 0 ≤ n.fmod 7 ∧ n.fmod 7 < 7 := ⟨Int.fmod_nonneg_of_pos _ (by decide), Int.fmod_lt_of_pos _ (by decide)⟩
  have hmn : Menu := trivial
  walk_at "m_steps"
  all_goals
    rename News g L _ _ => N1
    rename Fr g L _ _ => F1
    show wpAny _ _ _ _ _ _
    refine sub_menu (fun v => IsVal v ∧ IsOk v) (N1.get (.head _)) ?_ (by omega) ?_ (Nat.le_of_ble_eq_true rfl) ?_
  all_goals first
    | (intro v hv; clear hmn; walk_at "m_steps"; exact k _ _ _ (keep0 hg F1) hv.1 hv.2)
    | (show _ < _; simp only [List.length_cons, List.length_nil]; omega)
    | repeat (first | exact List.forall_mem_nil _ | refine List.forall_mem_cons.mpr ⟨⟨by first | exact .inl ⟨_, _, rfl⟩ | exact .inr ⟨_, _, rfl, by first | decide | omega⟩, by first | exact isOk_int | exact isOk_str (by decide +kernel) | exact isOk_str (ok_app (by decide +kernel) (ok_mul (by decide +kernel) _)) | exact isOk_str (ok_mul (by decide +kernel) _)⟩, ?_⟩)
end

/-- the places that are asked -/
def SpotsOk (is : List Int) : Prop := ∃ a b c m, is = [a, b, c].take m ∧ (0 ≤ a ∧ a < 5) ∧ (b = -1 ∨ b = 0 ∨ b = 3 ∨ b = 10 ∨ b = 11 ∨ b = 12 ∨ b = 2) ∧ (0 ≤ c ∧ c < 3) ∧ 1 ≤ m
section
variable {w : World} {loose : List Str} {mean : ExcName → Option Value} {mg mb : Str → Option Value} {b0 : Heap} {A : Around} {outer : List Env} {s : Shared} {R : Result → Shared → Prop} {t : Tok}

theorem spots_range {a b c : Int} (f1 : 0 ≤ a ∧ a < 5) (hb : b = -1 ∨ b = 0 ∨ b = 3 ∨ b = 10 ∨ b = 11 ∨ b = 12 ∨ b = 2) (f2 : 0 ≤ c ∧ c < 3) : ∀ i ∈ [a, b, c], -1000 ≤ i ∧ i ≤ 1000 := by
  refine List.forall_mem_cons.mpr ⟨⟨Int.le_trans (by decide) f1.1, Int.le_trans (Int.le_of_lt f1.2) (by decide)⟩, List.forall_mem_cons.mpr ⟨?_, List.forall_mem_singleton.mpr ⟨Int.le_trans (by decide) f2.1, Int.le_trans (Int.le_of_lt f2.2) (by decide)⟩⟩⟩
  rcases hb with rfl | rfl | rfl | rfl | rfl | rfl | rfl <;> decide
theorem law_spots_spec (G : Gnd w loose mean mg mb b0) (H : At 3 b0 A outer s) {n : Int}
    (k : ∀ h' tk l vs is, (∀ b o, s.heap.get? b = some o → h'.get? b = some o) → s.heap.get? l = none → h'.get? l = some (listOf vs.toArray 0) → IntsAre vs is → is.length ≤ 3 → (∀ i ∈ is, -1000 ≤ i ∧ i ≤ 1000) → SpotsOk is → R (.ok (.ret (.ref l))) { s with heap := h', toks := tk }) :
    codeAny (model prg w) A (.call (.ref 188) ⟨[.int n t], []⟩) R s := by
  (refine' enter (news := []) G H ?kN ?k6 ?k7 ?k9 ?kB ?_ ?c2 ?c3 ?c4 ?c5; (case kN => first | exact List.forall_mem_nil _ | assumption); (case k6 => k_is); (case k7 => k_is); (case k9 => exact BindsTo.of_eq rfl); (case c5 => decide); (case kB => exact locs rfl); (case c2 => exact rfl); (case c3 => exact rfl); (case c4 => exact rfl); (try dsimp only))
  intro g L h1 hg hL F N B X T hrm tk0
  replace hg : g = hideAll s.heap [] := hg
  have f1 : 0 ≤ n.fmod 5 ∧ n.fmod 5 < 5 := ⟨Int.fmod_nonneg_of_pos _ (by decide), Int.fmod_lt_of_pos _ (by decide)⟩
  have f2 : 0 ≤ (n.fdiv 35).fmod 3 ∧ (n.fdiv 35).fmod 3 < 3 := ⟨Int.fmod_nonneg_of_pos _ (by decide), Int.fmod_lt_of_pos _ (by decide)⟩
  have f3 : 0 ≤ (n.fdiv 105).fmod 3 := Int.fmod_nonneg_of_pos _ (by decide)
  have hmn : Menu := trivial
  walk_at "m_steps"
  rename News g L _ _ => N1
  clear hmn
  show wpAny _ _ _ _ _ _
  refine sub_menu (fun v => ∃ b u, v = .int b u ∧ (b = -1 ∨ b = 0 ∨ b = 3 ∨ b = 10 ∨ b = 11 ∨ b = 12 ∨ b = 2)) (N1.get (.head _)) ?_ (Int.fmod_nonneg_of_pos _ (by decide)) (Int.fmod_lt_of_pos _ (by decide)) (Nat.le_of_ble_eq_true rfl) ?_
  · repeat (first | exact List.forall_mem_nil _ | refine List.forall_mem_cons.mpr ⟨⟨_, _, rfl, by decide⟩, ?_⟩)
  rintro _ ⟨b, u, rfl, hbb⟩
  walk_at "m_steps"
  all_goals
    rename IntsAre _ _ => hI
    rename (List.take _ _).length ≤ _ => hLe
    refine k _ _ _ _ _ (keep0 hg (by assumption)) (fresh_of hg (by assumption : News g L _ _) (.head _) (nm_nil _)) (News.get (by assumption) (by k_mem)) hI (Nat.le_trans hLe (by simp)) (fun i hi => spots_range f1 hbb f2 i (List.mem_of_mem_take hi)) ⟨_, _, _, _, rfl, f1, hbb, f2, by omega⟩
theorem law_bounds_spec (G : Gnd w loose mean mg mb b0) (H : At 3 b0 A outer s) {n : Int}
    (k : ∀ h' tk l vs is, (∀ b o, s.heap.get? b = some o → h'.get? b = some o) → s.heap.get? l = none → h'.get? l = some (listOf vs.toArray 0) → IntsAre vs is → is.length ≤ 4 → (∀ i ∈ is, i ≤ 1000) → R (.ok (.ret (.ref l))) { s with heap := h', toks := tk }) :
    codeAny (model prg w) A (.call (.ref 195) ⟨[.int n t], []⟩) R s := by
  (refine' enter (news := []) G H ?kN ?k6 ?k7 ?k9 ?kB ?_ ?c2 ?c3 ?c4 ?c5; (case kN => first | exact List.forall_mem_nil _ | assumption); (case k6 => k_is); (case k7 => k_is); (case k9 => exact BindsTo.of_eq rfl); (case c5 => decide); (case kB => exact locs rfl); (case c2 => exact rfl); (case c3 => exact rfl); (case c4 => exact rfl); (try dsimp only))
  intro g L h1 hg hL F N B X T hrm tk0
  replace hg : g = hideAll s.heap [] := hg
  have f1 : 0 ≤ n.fmod 6 ∧ n.fmod 6 < 6 := ⟨Int.fmod_nonneg_of_pos _ (by decide), Int.fmod_lt_of_pos _ (by decide)⟩
  have f2 : 0 ≤ (n.fdiv 6).fmod 3 ∧ (n.fdiv 6).fmod 3 < 3 := ⟨Int.fmod_nonneg_of_pos _ (by decide), Int.fmod_lt_of_pos _ (by decide)⟩
  have hmn : Menu := trivial
  walk_at "m_steps"
  rename News g L _ _ => N1
  clear hmn
  show wpAny _ _ _ _ _ _
  refine sub_menu (fun v => ∃ b u, v = .int b u ∧ b ≤ 1000) (N1.get (.head _)) ?_ (Int.fmod_nonneg_of_pos _ (by decide)) (Int.fmod_lt_of_pos _ (by decide)) (Nat.le_of_ble_eq_true rfl) ?_
  · repeat (first | exact List.forall_mem_nil _ | refine List.forall_mem_cons.mpr ⟨⟨_, _, rfl, by decide⟩, ?_⟩)
  rintro _ ⟨b, u, rfl, hbb⟩
  walk_at "m_steps"
  all_goals
    rename IntsAre _ _ => hI
    rename (List.take _ _).length ≤ _ => hLe
    refine k _ _ _ _ _ (keep0 hg (by assumption)) (fresh_of hg (by assumption : News g L _ _) (.head _) (nm_nil _)) (News.get (by assumption) (by k_mem)) hI (Nat.le_trans hLe (by simp)) (fun i hi => (List.forall_mem_cons.mpr ⟨Int.le_trans (Int.le_of_lt f1.2) (by decide), List.forall_mem_cons.mpr ⟨Int.le_trans (Int.le_of_lt f2.2) (by decide), List.forall_mem_cons.mpr ⟨hbb, List.forall_mem_singleton.mpr (by decide)⟩⟩⟩ : ∀ i ∈ _, i ≤ (1000 : Int)) i (List.mem_of_mem_take hi))
end

section
variable {w : World} {loose : List Str} {mean : ExcName → Option Value} {mg mb : Str → Option Value} {b0 : Heap} {A : Around} {outer : List Env} {s : Shared} {R : Result → Shared → Prop} {t : Tok}

theorem law_fits_spec (G : Gnd w loose mean mg mb b0) (H : At 3 b0 A outer s) {x : Str} {v : Value} (hx : x ∈ names4) (hv : IsVal v)
    (k : ∀ h' tk tv, (∀ b o, s.heap.get? b = some o → h'.get? b = some o) → R (.ok (.ret (.str (fitWord x v) tv))) { s with heap := h', toks := tk }) :
    codeAny (model prg w) A (.call (.ref 181) ⟨[.str x t, v], []⟩) R s := by
  have k2 : ∀ z, fitWord x v = z → ∀ h' tk tv, (∀ b o, s.heap.get? b = some o → h'.get? b = some o) → R (.ok (.ret (.str z tv))) { s with heap := h', toks := tk } := fun z q => q ▸ k
  clear k
  rcases hv with ⟨i, tv, rfl⟩ | ⟨y, tv, rfl, hy⟩
  all_goals cases hT : isText x
  all_goals
    (refine' enter (news := []) G H ?kN ?k6 ?k7 ?k9 ?kB ?_ ?c2 ?c3 ?c4 ?c5; (case kN => first | exact List.forall_mem_nil _ | assumption); (case k6 => k_is); (case k7 => k_is); (case k9 => exact BindsTo.of_eq rfl); (case c5 => decide); (case kB => exact locs rfl); (case c2 => exact rfl); (case c3 => exact rfl); (case c4 => exact rfl); (try dsimp only))
    intro g L h1 hg hL F N B X T hrm tk0
    replace hg : g = hideAll s.heap [] := hg
    walk_at "m_steps"
  all_goals
    refine k2 _ ?_ _ _ _ (keep0 hg (by assumption))
    simp only [fitWord, hT]
    first
      | rfl
      | (rw [if_neg (by decide), if_pos (by omega)])
      | (rw [if_neg (by decide), if_neg (by omega)])
      | (rw [if_pos trivial, if_pos (by omega)])
      | (rw [if_pos trivial, if_neg (by omega)])
end

section
variable {w : World} {loose : List Str} {mean : ExcName → Option Value} {mg mb : Str → Option Value} {b0 : Heap} {A : Around} {outer : List Env} {s : Shared} {R : Result → Shared → Prop} {t : Tok}

/-- an entry of the book: its bounds, its dict of what was written -/
def BookNew (w : World) (h0 h' : Heap) (bd : Addr) (kvs : List (Str × Value)) (x : Str) (l : Addr) : Prop :=
  ∃ tup wd ob' ow, h'.get? bd = some ob' ∧ DictObj w bd ob' (stored kvs x (.ref tup)) ∧ h'.get? tup = some (tupObj [.ref l, .ref wd]) ∧ h'.get? wd = some ow ∧ DictObj w wd ow [] ∧ h0.get? tup = none ∧ h0.get? wd = none ∧ tup ≠ wd

theorem adne {a b : Nat} (h : a ≠ b) : @Ne Addr a b := h
theorem keep_all {h0 g h : Heap} {L a : Addr} {m : Str → Option Value} {o : Obj} (hg : g = hideAll h0 [a]) (F : Fr g L h m) (e0 : h0.get? a = some o) (e : h.get? a = some o) : ∀ b o, h0.get? b = some o → h.get? b = some o := fun b o' q => by
  by_cases hb : b = a
  · subst hb; rw [e0] at q; cases q; exact e
  · exact keepW hg F b o' q (nm_one hb)
theorem law_made_spec (G : Gnd w loose mean mg mb b0) (H : At 4 b0 A outer s) {x : Str} (hx : x ∈ names4) {bd l : Addr} {ob : Obj} {kvs : List (Str × Value)} {vs : List Value} {ns : List Int} {c : Nat}
    (hA : s.heap.get? bd = some ob) (hD : DictObj w bd ob kvs) (hsz : kvs.length ≤ 900)
    (hb : b0.get? bd = none) (hf : bd ∉ frs outer) (hne : bd ≠ l) (hl : s.heap.get? l = some (listOf vs.toArray c)) (hi : IntsAre vs ns) (hlen : ns.length ≤ 4) (hsm : ∀ n ∈ ns, n ≤ 1000)
    (k : ∀ h' tk tv, (madeWord ns = "" → KeepW [bd] s.heap h' ∧ BookNew w s.heap h' bd kvs x l) → (madeWord ns ≠ "" → ∀ b o, s.heap.get? b = some o → h'.get? b = some o) → R (.ok (.ret (.str (madeWord ns) tv))) { s with heap := h', toks := tk }) :
    codeAny (model prg w) A (.call (.ref 202) ⟨[.ref bd, .str x t, .ref l], []⟩) R s := by
  have hN : ∀ p ∈ [(bd, ob)], s.heap.get? p.1 = some p.2 ∧ b0.get? p.1 = none ∧ p.1 ∉ frs outer := List.forall_mem_singleton.mpr ⟨hA, hb, hf⟩
  (refine' enter (news := [(bd, ob)]) G H ?kN ?k6 ?k7 ?k9 ?kB ?_ ?c2 ?c3 ?c4 ?c5; (case kN => first | exact List.forall_mem_nil _ | assumption); (case k6 => k_is); (case k7 => k_is); (case k9 => exact BindsTo.of_eq rfl); (case c5 => decide); (case kB => exact locs rfl); (case c2 => exact rfl); (case c3 => exact rfl); (case c4 => exact rfl); (try dsimp only))
  intro g L h1 hg hL F N B X T hrm tk0
  replace hg : g = hideAll s.heap [bd] := hg
  have hl' : g.get? l = some (listOf vs.toArray c) := by rw [hg]; exact hideAll_get _ hl (by simpa using hne.symm)
  walk_at "m_steps"
  rename Fr g L _ _ => F1
  rename News g L _ _ => N1
  show wpAny _ _ _ _ _ _
  refine iter_one (env := envOf _ _ _ _ _) (fun i a => a = manyOf (ns.take i) ∧ ∀ b ∈ ns.take i, 0 ≤ b) "many" hrm.handled (isList_get hl') hi F1 N1 rfl (by decide) ⟨rfl, fun b hb => nomatch hb⟩ ?_ ?_
  · rintro i n t a ta h tk own hin ⟨rfl, hpos⟩ F2 N2
    have hn1 := hsm n (List.mem_of_getElem? hin)
    clear F1 N1
    walk_at "m_steps"
    · have hw : madeWord ns = "FC" := if_pos (List.any_eq_true.mpr ⟨n, List.mem_of_getElem? hin, decide_eq_true (by walk_at "m_le")⟩)
      rw [hw] at k
      exact k _ _ _ (fun q => absurd q (by decide)) fun _ => keep_all hg F2 hA (News.get N2 (List.mem_append_right _ (.head _)))
    · refine InvEnd.intro (by assumption) (by assumption) (fun p hp => hp) ⟨_, _, ⟨(many_succ hin).symm, fun b hb => ?_⟩, rfl, fun z h1 h2 => ?_⟩
      · rcases mem_take_succ hin hb with hb | rfl
        · exact hpos b hb
        · walk_at "m_le"
      · simp only [if_neg h1, if_neg h2]
  · rintro u a ta h tk ⟨rfl, hpos⟩ F2 N2
    clear F1 N1
    have hvl := hi.length
    have hany : ns.any (fun b => decide (b < 0)) = false := by
      rw [List.take_length] at hpos
      rw [List.any_eq_false]; exact fun b hb z => Int.not_lt.mpr (hpos b hb) (of_decide_eq_true z)
    rw [List.take_length] at *
    have hm0 := many_pos hpos
    walk_at "m_steps"
    · have hw : madeWord ns = "OM" := by unfold madeWord; rw [hany, if_neg Bool.false_ne_true, if_pos (by first | exact .inr (by assumption) | exact .inl (three_lt (by assumption) hvl))]
      rw [hw] at k
      exact k _ _ _ (fun q => absurd q (by decide)) fun _ => keep_all hg F2 hA (News.get N2 (.head _))
    · have hw : madeWord ns = "OM" := by unfold madeWord; rw [hany, if_neg Bool.false_ne_true, if_pos (by first | exact .inr (by assumption) | exact .inl (three_lt (by assumption) hvl))]
      rw [hw] at k
      exact k _ _ _ (fun q => absurd q (by decide)) fun _ => keep_all hg F2 hA (News.get N2 (.head _))
    · have hw : madeWord ns = "" := by unfold madeWord; rw [hany, if_neg Bool.false_ne_true, if_neg (not_many (by assumption) (by assumption) hvl)]
      rw [hw] at k
      rename News g L _ _ => N9
      rename DictObj w bd _ (stored _ _ _) => D9
      rename Obj.IsDictOf (PySem.strKind _ _) _ [] => q1
      rename (_ == sysModules) = false => q2
      exact k _ _ _ (fun _ => ⟨keepW hg (by assumption), _, _, _, _, N9.get (.tail _ (.tail _ (.head _))), D9, N9.get (.head _), N9.get (.tail _ (.head _)), ⟨q2, q1⟩, fresh_of hg N9 (.head _) (nm_one (by walk_at "m_ne")), fresh_of hg N9 (.tail _ (.head _)) (nm_one (by walk_at "m_ne")), adne (by walk_at "m_ne")⟩) (fun q => absurd rfl q)
end

section
variable {w : World} {A : Around} {E : Value → Shared → Prop} {s : Shared} {env : Env} {g : Heap} {news : List (Addr × Obj)} {xi xc : Str} {body : List Stmt} {Q : Flow → Shared → Prop}
theorem map2 {m₀ m₁ a b : Str → Option Value} (hz : ∀ z, z ≠ xc → z ≠ xi → m₁ z = m₀ z) : (fun z => if z = xc then a z else if z = xi then b z else m₁ z) = fun z => if z = xc then a z else if z = xi then b z else m₀ z := by
  funext z
  by_cases h1 : z = xc
  · rw [if_pos h1, if_pos h1]
  · rw [if_neg h1, if_neg h1]
    by_cases h2 : z = xi
    · rw [if_pos h2, if_pos h2]
    · rw [if_neg h2, if_neg h2, hz z h1 h2]
theorem iter_zip_pure {z l1 l2 : Addr} {xs ys : List Value} {as bs : List Int} {m₀ : Str → Option Value} (P : Nat → Prop) (hh : A.handled = none)
    (Z : ZipAt g s.heap env.locals news z l1 l2 xs ys) (hi1 : IntsAre xs as) (hi2 : IntsAre ys bs) (F : Fr g env.locals s.heap m₀) (N : News g env.locals s.heap news) (h0 : P 0)
    (turn : ∀ i a b ta tb h tk own, as[i]? = some a → bs[i]? = some b → P i → Fr g env.locals h (fun z => if z = xc then some (.int b tb) else if z = xi then some (.int a ta) else m₀ z) → News g env.locals h (own ++ news) →
      wpAny (model prg w) A (execs body env) (InvPost g env.locals (fun m' => P (i + 1) ∧ ∀ z, z ≠ xc → z ≠ xi → m' z = m₀ z) (own ++ news) { s with heap := h, toks := tk } Q) E { s with heap := h, toks := tk })
    (done : ∀ (u₁ u₂ : Str → Option Value) h tk, P (min as.length bs.length) → Fr g env.locals h (fun z => if z = xc then u₁ z else if z = xi then u₂ z else m₀ z) → News g env.locals h news → Q .next { s with heap := h, toks := tk }) :
    wpAny (model prg w) A (pyIter (.ref z)) (fun it s₂ => PairAt3 prg w A g env xi xc body Q E it s₂) E s := by
  refine iter_zip_gen (fun i m' => P i ∧ ∀ z, z ≠ xc → z ≠ xi → m' z = m₀ z) hh Z hi1 hi2 F N ⟨h0, fun _ _ _ => rfl⟩ (fun i a b ta tb m₁ h tk own ha hb hJ F₁ N₁ => ?_) fun m' h tk hJ F' N' => ?_
  · have e := map2 (xi := xi) (xc := xc) (a := fun _ => some (.int b tb)) (b := fun _ => some (.int a ta)) hJ.2
    rw [e] at F₁
    exact turn i a b ta tb h tk own ha hb hJ.1 F₁ N₁
  · refine done m' m' h tk hJ.1 ?_ N'
    rw [← map2 (xi := xi) (xc := xc) (a := m') (b := m') hJ.2, map_self]; exact F'
end

section
variable {w : World} {loose : List Str} {mean : ExcName → Option Value} {mg mb : Str → Option Value} {b0 : Heap} {A : Around} {outer : List Env} {s : Shared} {R : Result → Shared → Prop} {t : Tok}

theorem law_asked_old (G : Gnd w loose mean mg mb b0) (H : At 6 b0 A outer s) {x : Str} {bd tup bl il : Addr} {wv : Value} {ob : Obj} {kvs : List (Str × Value)} {bvs ivs : List Value} {bs is : List Int} {c c' : Nat}
    (hA : s.heap.get? bd = some ob) (hD : DictObj w bd ob kvs) (hv : valueAt kvs x = some (.ref tup))
    (ht : s.heap.get? tup = some (tupObj [.ref bl, wv])) (hbl : s.heap.get? bl = some (listOf bvs.toArray c)) (hbi : IntsAre bvs bs) (hil : s.heap.get? il = some (listOf ivs.toArray c')) (hii : IntsAre ivs is)
    (hb4 : bs.length ≤ 4) (hi4 : is.length ≤ 4)
    (k : ∀ h' tk tv, (∀ b o, s.heap.get? b = some o → h'.get? b = some o) → R (.ok (.ret (.str (placeWord bs is) tv))) { s with heap := h', toks := tk }) :
    codeAny (model prg w) A (.call (.ref 209) ⟨[.ref bd, .str x t, .ref il], []⟩) R s := by
  (refine' enter (news := []) G H ?kN ?k6 ?k7 ?k9 ?kB ?_ ?c2 ?c3 ?c4 ?c5; (case kN => first | exact List.forall_mem_nil _ | assumption); (case k6 => k_is); (case k7 => k_is); (case k9 => exact BindsTo.of_eq rfl); (case c5 => decide); (case kB => exact locs rfl); (case c2 => exact rfl); (case c3 => exact rfl); (case c4 => exact rfl); (try dsimp only))
  intro g L h1 hg hL F N B X T hrm tk0
  replace hg : g = hideAll s.heap [] := hg
  have hA' : g.get? bd = some ob := by rw [hg]; exact hA
  have ht' : g.get? tup = some (tupObj [.ref bl, wv]) := by rw [hg]; exact ht
  have hbl' : g.get? bl = some (listOf bvs.toArray c) := by rw [hg]; exact hbl
  have hil' : g.get? il = some (listOf ivs.toArray c') := by rw [hg]; exact hil
  have htT := isTup_get ht'
  have hsome : (valueAt kvs x).isSome = true := by rw [hv]; rfl
  have hl1 := hbi.length
  have hl2 := hii.length
  walk_at "m_steps"
  · have hw : placeWord bs is = "BS" := if_neg (len_ne (by assumption) hl1 hl2)
    rw [hw] at k
    exact k _ _ _ (keep0 hg (by assumption))
  · rename Fr g L _ _ => F1
    rename News g L _ _ => N1
    rename ZipAt _ _ _ _ _ _ _ _ _ => Z
    have hlen : bs.length = is.length := len_eq (by assumption) hl1 hl2
    have hpw : placeWord bs is = spotWord (bs.zip is) := if_pos hlen
    show wpAny _ _ _ _ _ _
    refine iter_zip_pure (env := envOf _ _ _ _ _) (fun i => spotWord ((bs.zip is).take i) = "") hrm.dh Z hbi hii F1 N1 rfl ?_ ?_
    · rintro i a b ta tb h tk own ha hb hsp F2 N2
      clear F1 N1 Z
      have hz := zip_get ha hb
      obtain ⟨s1, s2, s3⟩ := spot_at hz hsp
      walk_at "m_steps"
      · have hw : placeWord bs is = "FC" := hpw.trans (s1 (by walk_at "m_le"))
        rw [hw] at k
        exact k _ _ _ (keep0 hg F2)
      · have hw : placeWord bs is = "BS" := hpw.trans (s2 (by walk_at "m_le") (by walk_at "m_le"))
        rw [hw] at k
        exact k _ _ _ (keep0 hg F2)
      · refine InvEnd.intro (by assumption) (by assumption) (fun p hp => hp) ⟨s3 (by walk_at "m_le") (by walk_at "m_le"), fun z h1 h2 => ?_⟩
        simp only [if_neg h1, if_neg h2]
    · rintro u1 u2 h tk hsp F2 N2
      clear F1 N1 Z
      have htk : (bs.zip is).take (min bs.length is.length) = bs.zip is := List.take_of_length_le (by rw [List.length_zip]; exact Nat.le_refl _)
      rw [htk] at hsp
      have hw : placeWord bs is = "" := hpw.trans hsp
      walk_at "m_steps"
      rw [hw] at k
      exact k _ _ _ (keep0 hg (by assumption))

/-- an entry of the book, made by being asked -/
def BookAsk (w : World) (h0 h' : Heap) (bd : Addr) (kvs : List (Str × Value)) (x : Str) (n : Nat) : Prop :=
  ∃ l tb, BookNew w h0 h' bd kvs x l ∧ h'.get? l = some (listOf (List.replicate n (.int 10 tb)).toArray 0) ∧ h0.get? l = none

theorem law_asked_new (G : Gnd w loose mean mg mb b0) (H : At 6 b0 A outer s) {x : Str} (hx : x ∈ names4) {bd il : Addr} {ob : Obj} {kvs : List (Str × Value)} {ivs : List Value} {is : List Int} {c' : Nat}
    (hA : s.heap.get? bd = some ob) (hD : DictObj w bd ob kvs) (hsz : kvs.length ≤ 900) (hv : valueAt kvs x = none)
    (hb : b0.get? bd = none) (hf : bd ∉ frs outer) (hne : bd ≠ il) (hil : s.heap.get? il = some (listOf ivs.toArray c')) (hii : IntsAre ivs is) (hi4 : is.length ≤ 3)
    (k : ∀ h' tk tv, KeepW [bd] s.heap h' → BookAsk w s.heap h' bd kvs x is.length → R (.ok (.ret (.str (placeWord (List.replicate is.length 10) is) tv))) { s with heap := h', toks := tk }) :
    codeAny (model prg w) A (.call (.ref 209) ⟨[.ref bd, .str x t, .ref il], []⟩) R s := by
  have hN : ∀ p ∈ [(bd, ob)], s.heap.get? p.1 = some p.2 ∧ b0.get? p.1 = none ∧ p.1 ∉ frs outer := List.forall_mem_singleton.mpr ⟨hA, hb, hf⟩
  (refine' enter (news := [(bd, ob)]) G H ?kN ?k6 ?k7 ?k9 ?kB ?_ ?c2 ?c3 ?c4 ?c5; (case kN => first | exact List.forall_mem_nil _ | assumption); (case k6 => k_is); (case k7 => k_is); (case k9 => exact BindsTo.of_eq rfl); (case c5 => decide); (case kB => exact locs rfl); (case c2 => exact rfl); (case c3 => exact rfl); (case c4 => exact rfl); (try dsimp only))
  intro g L h1 hg hL F N B X T hrm tk0
  replace hg : g = hideAll s.heap [bd] := hg
  have hil' : g.get? il = some (listOf ivs.toArray c') := by rw [hg]; exact hideAll_get _ hil (by simpa using hne.symm)
  have hWL := outL_of hg hL (List.forall_mem_singleton.mpr ⟨_, hA⟩)
  have hnone : (valueAt kvs x).isSome = false := by rw [hv]; rfl
  have hl2 := hii.length
  walk_at "m_steps"
  rename Fr g L _ _ => F1
  rename News g L _ _ => N1
  rename_i D0 h2 lA0 l10 l' h3 lA1 l11
  have hLbd := (hWL bd (.head _)).2
  have hmw : madeWord (List.replicate is.length 10) = "" := usual_made hi4
  refine foldG fun G9 hG9 => ?_
  obtain ⟨bvs, bs, tb, hbv, hbs, hl''⟩ : ∃ bvs bs tb, bvs = List.replicate is.length (Value.int 10 tb) ∧ bs = List.replicate is.length (10 : Int) ∧ h3.get? l' = some (listOf bvs.toArray 0) := by
    have e0 := N1.get (.head _)
    rw [show ((ivs.length : Int)).toNat = is.length from (Int.toNat_natCast _).trans hl2] at e0
    exact ⟨_, _, _, rfl, rfl, e0⟩
  refine hG9 ?_
  clear hG9 G9
  have hbi : IntsAre bvs bs := by rw [hbv, hbs]; exact ints_rep _ _ _
  have hbl := hbi.length
  have hbl2 : bs.length = is.length := by rw [hbs, List.length_replicate]
  have hb10 : ∀ b ∈ bs, b = 10 := fun b hb => by rw [hbs] at hb; exact List.eq_of_mem_replicate hb
  rw [← hbs] at hmw k
  have hl'n : s.heap.get? l' = none := fresh_of hg N1 (.head _) (nm_one (Nat.ne_of_gt l11.2))
  refine wpAny_call (law_made_spec (ns := bs) G (at_in B F1 (Rm.le hrm)) hx (N1.get (.tail _ (.tail _ (.head _)))) hD hsz hb (nf_cons hLbd hf) (Nat.ne_of_lt l11.2) hl'' hbi (by rw [hbl2]; exact Nat.le_succ_of_le hi4) (fun n hn => by rw [hb10 n hn]; decide) ?_)
  intro h4 tk4 tv hk _
  refine foldG fun G9 hG9 => ?_
  obtain ⟨hk, tup, wd, ob', ow, q1, q2, q3, q4, q5, q6, q7, q8⟩ := hk hmw
  refine hG9 ?_
  clear hG9 G9
  have F2 := Fr.kpW F1 hk hWL
  have hl4 : h4.get? l' = some (listOf bvs.toArray 0) := hk _ _ hl'' (nm_one (Nat.ne_of_gt l11.2))
  have N2 : News g L h4 [(tup, tupObj [.ref l', .ref wd]), (wd, ow), (l', _), (bd, ob')] :=
    News.made F1 q6 q3 (News.made F1 q7 q4 (News.old N1 (.head _) hl4 (News.old N1 (.tail _ (.tail _ (.head _))) q1 News.nil')))
  have hW2 : ∀ b ∈ [bd], ∃ o, Heap.get? h3 b = some o := List.forall_mem_singleton.mpr ⟨_, N1.get (.tail _ (.tail _ (.head _)))⟩
  have m1 := fresh_back q6 (keepW hg F1) hW2
  have m2 := fresh_back q7 (keepW hg F1) hW2
  clear F1 N1
  have hvx : valueAt (stored kvs x (.ref tup)) x = some (.ref tup) := valueAt_stored
  have htT := isTup_get q3
  have mk : ∀ {h' : Heap} {own : List (Addr × Obj)}, News g L h' (own ++ [(tup, tupObj [.ref l', .ref wd]), (wd, ow), (l', listOf bvs.toArray 0), (bd, ob')]) → BookAsk w s.heap h' bd kvs x is.length := fun {_ own} N =>
    have N : News g L _ [(tup, tupObj [.ref l', .ref wd]), (wd, ow), (l', listOf bvs.toArray 0), (bd, ob')] := fun p hp => N p (List.mem_append_right own hp)
    ⟨l', tb, ⟨tup, wd, ob', ow, N.get (.tail _ (.tail _ (.tail _ (.head _)))), q2, N.get (.head _), N.get (.tail _ (.head _)), q5, m1, m2, q8⟩, hbv ▸ N.get (.tail _ (.tail _ (.head _))), hl'n⟩
  (try dsimp only)
  walk_at "m_steps"
  · exact absurd hbl2 (len_ne (by assumption) hbl hl2)
  rename Fr g L _ _ => F1
  rename News g L _ _ => N1
  rename ZipAt _ _ _ _ _ _ _ _ _ => Z
  have hpw : placeWord bs is = spotWord (bs.zip is) := if_pos hbl2
  show wpAny _ _ _ _ _ _
  refine iter_zip_pure (env := envOf _ _ _ _ _) (fun i => spotWord ((bs.zip is).take i) = "") hrm.dh Z hbi hii F1 N1 rfl ?_ ?_
  · rintro i a b ta tb h tk own ha hb hsp F2 N2
    clear F1 N1 Z
    have hz := zip_get ha hb
    obtain ⟨s1, s2, s3⟩ := spot_at hz hsp
    walk_at "m_steps"
    · have hw : placeWord bs is = "FC" := hpw.trans (s1 (by walk_at "m_le"))
      rw [hw] at k
      exact k _ _ _ (keepW hg F2) (mk N2)
    · have hw : placeWord bs is = "BS" := hpw.trans (s2 (by walk_at "m_le") (by walk_at "m_le"))
      rw [hw] at k
      exact k _ _ _ (keepW hg F2) (mk N2)
    · refine InvEnd.intro (by assumption) (by assumption) (fun p hp => hp) ⟨s3 (by walk_at "m_le") (by walk_at "m_le"), fun z h1 h2 => ?_⟩
      simp only [if_neg h1, if_neg h2]
  · rintro u1 u2 h tk hsp F2 N2
    clear F1 N1 Z
    have htk : (bs.zip is).take (min bs.length is.length) = bs.zip is := List.take_of_length_le (by rw [List.length_zip]; exact Nat.le_refl _)
    rw [htk] at hsp
    have hw : placeWord bs is = "" := hpw.trans hsp
    walk_at "m_steps"
    rw [hw] at k
    exact k _ _ _ (keepW hg (by assumption)) (mk (own := []) (by assumption))
end

section
variable {w : World} {A : Around} {E : Value → Shared → Prop} {h : Heap} {g : Array GenState} {d : Drawn} {t : Nat} {os : OsState} {a dx : Addr} {ox od : Obj} {v : Value} {vs : Array Value}

theorem find_kind (hl : lookIn "kind" od = some (some v)) : findObj (hd.heap_39 w.params) 31 (some od) "kind" = some (.value v) := by
  have h1 : ∃ cd, clsIn (hd.heap_39 w.params) 31 = some cd ∧ cd.hasDict = true := ⟨_, rfl, rfl⟩
  obtain ⟨cd, hc, hh⟩ := h1
  have h2 : findIn (hd.heap_39 w.params) (.ref 31) "kind" = some none := by k_is
  unfold findObj
  rw [hc, h2]
  simp only [Option.bind_some, W.ownOf, hh, if_true, hl]

theorem kind_entry {tk : Tok} {Q : Fin → Shared → Prop} (X : (hd.heap_39 w.params).In h) (I : InstAt h a ox 31 (some od)) (hl : lookIn "kind" od = some (some v)) (hq : Q (.done (.ret v)) ⟨h, g, d, t, os⟩) :
    wpAny (model prg w) A (Builtin.«object.__getattribute__» ⟨[.ref a, .str "kind" tk], []⟩) Q E ⟨h, g, d, t, os⟩ := by
  have L0 := I.type (M := model prg w)
  have L1 := looks_find (M := model prg w) X I (find_kind hl)
  exact wpAny_bind (wpAny_pure (wpAny_bind (wpAny_pure (wpAny_bind (L0.at (wpAny_bind (L1.at (wpAny_pure hq))))))))

theorem kind_attr {expr : Bool} {Q : Value → Shared → Prop} (X : (hd.heap_39 w.params).In h) (I : InstAt h a ox 31 (some od)) (hl : lookIn "kind" od = some (some v)) (hh : handedIn v = true) (hq : Q v ⟨h, g, d, t + 1, os⟩) :
    wpAny (model prg w) A (getAttr (.ref a) "kind" expr) Q E ⟨h, g, d, t, os⟩ := by
  obtain ⟨nm, q, bs, sn, sub, ab, col, dd, k0, k1, k2, k3, k5, hC⟩ := cls31 X
  have hx := I.at_
  have hc := I.cls
  have FB := PySem.F.attrBase_Exception
  have f3 := FB.ga.bind (.ref a)
  have hx0 : (expr && onTheHeap (Value.builtin "BaseException.__getattribute__")) = false := by cases expr <;> rfl
  have hx2 : (Value.builtin "BaseException.__getattribute__" == Value.builtin "object.__getattribute__") = false := by decide +kernel
  have hx1 : (onTheHeap (Value.ref 31) && Value.builtin "BaseException.__getattribute__" == Value.builtin "object.__getattribute__") = false := by rw [hx2]; rfl
  have L1 : Looks (model prg w) h (typeLookup (.ref 31) "__getattribute__") (some (.builtin "BaseException.__getattribute__")) := looks_findIn X (by k_is)
  have L2 : Looks (model prg w) h (typeLookup (.ref 31) "__getattr__") none := looks_findIn X (by k_is)
  have hho := handedOut_of hh
  unfold getAttr
  repeat (any_goals (first | assumption | (with_reducible refine wpAny_loadPart_at hx ?_; rw [hc]) | with_reducible refine L1.at ?_ | with_reducible refine L2.at ?_ | wp_step))
  refine codeAny_call_builtin FB.ga.plain PySem.F.entry_bexc_ga (wpAny_check_ga_own FB hC .base hx hc (kind_entry X I hl ?_))
  repeat (any_goals (first | assumption | wp_step))
end

/-- g, with what now lies at its addresses -/
def over (g h : Heap) : Heap := { g with objs := g.objs.mapIdx fun i o => if (g.get? i).isSome then (h.get? i).getD o else o }
theorem over_size (g h : Heap) : (over g h).objs.size = g.objs.size := Array.size_mapIdx
theorem over_at (g h : Heap) (b : Addr) : (over g h).objs[b]? = (g.objs[b]?).map fun o => if (g.get? b).isSome then (h.get? b).getD o else o := Array.getElem?_mapIdx
theorem over_get {g h : Heap} {b : Addr} {o o' : Obj} (e : g.get? b = some o) (e' : h.get? b = some o') : (over g h).get? b = some o' := by
  have h1 := (Heap.get?_some_iff.mp e).1
  have h2 := (Heap.get?_some_iff.mp e').2
  refine Heap.get?_some_iff.mpr ⟨?_, h2⟩
  rw [over_at, h1, e, e']; rfl
theorem over_none {g h : Heap} {b : Addr} (e : g.get? b = none) : (over g h).get? b = none := by
  have : (over g h).objs[b]? = g.objs[b]? := by
    rw [over_at, e]; cases g.objs[b]? <;> rfl
  unfold Heap.get? at e ⊢
  rw [this]; exact e
theorem over_of {g h : Heap} {b : Addr} {o' : Obj} (hk : ∀ o, g.get? b = some o → ∃ o', h.get? b = some o') (e : (over g h).get? b = some o') : ∃ o, g.get? b = some o ∧ h.get? b = some o' := by
  cases q : g.get? b with
  | none => rw [over_none q] at e; cases e
  | some o =>
    obtain ⟨o1, q1⟩ := hk o q
    rw [over_get q q1] at e
    exact ⟨o, rfl, q1.trans e⟩

section
variable {M : Model} {A : Around} {E : Value → Shared → Prop} {s : Shared}
/-- the head of a handler: the frame is noted, the flight ends -/
theorem note_exc {env : Env} {outer : List Env} {L e : Addr} {kind : Str} {T0 : Addr} {Q : Unit → Shared → Prop}
    (hfr : A.frames = some (env :: outer)) (hl : s.heap.FunFrames {} (env :: outer)) (hf : env.frame = some L) (hx : Exc s.heap e kind (some T0))
    (hQ : ∀ h' T, s.heap.get? T = none → (∀ b o, s.heap.get? b = some o → b ≠ e → b ≠ T0 → b ∉ frs (env :: outer) → h'.get? b = some o) → (∀ b o, s.heap.get? b = some o → b ≠ e → b ≠ T0 → ∃ sl, h'.get? b = some { o with slots := sl }) →
      Exc h' e kind (some T) → Q () { s with heap := h' }) : wpAny M A (noteFrame (.ref e) env) (fun _ s' => wpAny M A (setFlight (.ref e) none) Q E s') E s := by
  refine foldG fun G9 hG9 => ?_
  obtain ⟨d, mA, tk, vs, he, hsz, h1, hd, hk, hde, hT⟩ := hx
  refine hG9 ?_
  clear hG9 G9
  unfold noteFrame
  simp only [hf]
  refine wpAny_bind (wpAny_field he rfl h1 ?_)
  (try dsimp only)
  refine foldG fun G9 hG9 => ?_
  obtain ⟨hT0e, oT0, ts0, hT0, hdT0, h30⟩ := hT T0 rfl
  refine hG9 ?_
  clear hG9 G9
  rw [if_pos (show (Value.ref T0 != Value.none) = true from by simp)]
  refine wpAny_bind (wpAny_field hT0 hdT0 h30 ?_)
  rw [if_neg (show ¬ ((Value.none == rawInt L) = true) from by simp [rawInt])]
  refine wpAny_bind (wpAny_setField hT0 hdT0 (Array.getElem?_eq_some_iff.mp h30).1 ?_)
  have other : ∀ b, b ≠ T0 → (s.heap.update T0 (Obj.mapFields (·.setIfInBounds 3 Value.none))).get? b = s.heap.get? b := fun b hb => Heap.get?_update_other _ _ (Ne.symm hb)
  have noRecord : ∀ b o, s.heap.get? b = some o → (∀ vs, o.data ≠ .fields vs) → b ≠ T0 := fun b o hb hnf q => by
    rw [q, hT0] at hb; injection hb with hb; subst hb; exact hnf ts0 hdT0
  have hd' : d ≠ T0 := by
    refine foldG fun G9 hG9 => ?_
    obtain ⟨o, es, ep, e1, e2, _⟩ := hd
    refine hG9 ?_
    clear hG9 G9
    exact noRecord d o e1 fun vs q => by rw [e2] at q; cases q
  refine entry_new hfr (hl.of_keeps fun b o hb hnf => ⟨o, (other b (noRecord b o hb hnf)).trans hb, rfl⟩) hf ((other e (Ne.symm hT0e)).trans he) rfl hsz fun h' T oT ts hTn hTe k1 k2 k3 k4 k5 k6 =>
    hQ h' T ?_ (fun b o hb hbe hbt hbf => k1 b o ((other b hbt).trans hb) hbe hbf) (fun b o hb hbe hbt => k2 b o ((other b hbt).trans hb) hbe) ?_
  · by_cases q : T = T0
    · have hx : (s.heap.update T0 (Obj.mapFields (·.setIfInBounds 3 Value.none))).get? T0 = _ := Heap.get?_update_self _ hT0 (Obj.isFreed_of_fields (Obj.data_mapFields hdT0 _))
      rw [q, hx] at hTn; cases hTn
    · exact (other T q).symm.trans hTn
  · refine ⟨d, mA, tk, vs.setIfInBounds 1 (.ref T), k3, by simpa using hsz, by simp [hsz], ns_slots hd fun o ho => k2 d o ((other d hd').trans ho) hde, hk, hde, fun T' hT' => ?_⟩
    cases hT'; exact ⟨hTe, oT, ts, k4, k5, k6⟩

theorem flight_exc {e T : Addr} {kind : Str} {Q : Unit → Shared → Prop} (hx : Exc s.heap e kind (some T))
    (hQ : ∀ h', (∀ b o, s.heap.get? b = some o → b ≠ T → h'.get? b = some o) → Exc h' e kind (some T) → Q () { s with heap := h' }) : wpAny M A (setFlight (.ref e) none) Q E s := by
  refine foldG fun G9 hG9 => ?_
  obtain ⟨d, mA, tk, vs, he, hsz, h1, hd, hk, hde, hT⟩ := hx
  obtain ⟨hTe, oT, ts, hT, hdT, h30⟩ := hT T rfl
  refine hG9 ?_
  clear hG9 G9
  have other : ∀ b, b ≠ T → (s.heap.update T (Obj.mapFields (·.setIfInBounds 3 ((none : Option Addr).elim Value.none fun f => rawInt f)))).get? b = s.heap.get? b := fun b hb => Heap.get?_update_other _ _ (Ne.symm hb)
  have hdT' : d ≠ T := fun q => by
    refine foldG fun G9 hG9 => ?_
    obtain ⟨o, es, ep, e1, e2, _⟩ := hd
    refine hG9 ?_
    clear hG9 G9
    rw [q, hT] at e1; cases e1; rw [hdT] at e2; cases e2
  unfold setFlight
  refine wpAny_bind (wpAny_field he rfl h1 ?_)
  (try dsimp only)
  rw [if_pos (show (Value.ref T != Value.none) = true from by simp)]
  refine wpAny_setField hT hdT (Array.getElem?_eq_some_iff.mp h30).1 (hQ _ (fun b o hb hbt => (other b hbt).trans hb) ?_)
  refine ⟨d, mA, tk, vs, (other e (Ne.symm hTe)).trans he, hsz, h1, ns_slots hd fun o ho => ⟨o.slots, (other d hdT').trans ho⟩, hk, hde, fun T' hT' => ?_⟩
  cases hT'
  exact ⟨hTe, _, _, Heap.get?_update_self _ hT (Obj.isFreed_of_fields (Obj.data_mapFields hdT _)), Obj.data_mapFields hdT _, by simp [(Array.getElem?_eq_some_iff.mp h30).1]⟩
end

section
variable {b0 g h : Heap} {A : Around} {outer : List Env} {L : Addr} {m : Str → Option Value} {news : List (Addr × Obj)} {o : Obj} {b : Addr}
/-- the base, after frames' slots have turned -/
theorem over_keep (k : Kept (frs outer) [] g h) (e : g.get? b = some o) (hb : b ∉ frs outer) : (over g h).get? b = some o := over_get e (k.same b o e (by simp) hb)
theorem over_any (k : Kept (frs outer) [] g h) : ∀ b o, g.get? b = some o → ∃ o', h.get? b = some o' := fun b o e => let ⟨_, q⟩ := k.any e (by simp); ⟨_, q⟩
theorem over_in (k : Kept (frs outer) [] g h) : ∀ b o, (over g h).get? b = some o → h.get? b = some o := fun _ _ e => (over_of (over_any k _) e).choose_spec.2
theorem over_below (B : Below A b0 outer g) (k : Kept (frs outer) [] g h) : Below A b0 outer (over g h) :=
  ⟨B.stack, fun b o e => over_keep k (B.stays b o e) fun z => (by obtain ⟨z1, _⟩ := B.frames.mem z; rw [z1] at e; cases e),
    fun_slots B.frames fun a o e _ => let ⟨sl, q⟩ := k.any e (by simp); ⟨sl, over_get e q⟩⟩
theorem over_fr (F : Fr g L h m) (k : Kept (frs outer) [] g h') (n : h'.Ns L m') : Fr (over g h') L h' m' := ⟨n, over_in k, by rw [over_size]; exact F.above⟩
theorem over_news (hn : ∀ p ∈ news, h.get? p.1 = some p.2 ∧ p.1 ≠ L ∧ g.get? p.1 = none) : News (over g h) L h news := fun p hp => ⟨(hn p hp).1, (hn p hp).2.1, over_none (hn p hp).2.2⟩
end

section
variable {w : World} {loose : List Str} {mean : ExcName → Option Value} {mg mb : Str → Option Value} {b0 g h2 : Heap} {A : Around} {outer : List Env} {E : Value → Shared → Prop} {s' : Shared} {L a e : Addr} {m : Str → Option Value} {name : Str} {scope : Scope} {cd : Value}
  {n : Str} {b₀ : Stmt} {suite : List Stmt} {pos np : Pos} {rest : List ExceptHandler} {Q : Flow → Shared → Prop} {kind : Str} {W : List Addr}
theorem look_ns {h : Heap} {d : Addr} {mA : Str → Option Value} {x : Str} {v : Value} (N : h.Ns d mA) (e : mA x = some v) : ∃ od, h.get? d = some od ∧ lookIn x od = some (some v) ∧ ∀ vs, od.data ≠ .fields vs := by
  refine foldG fun G9 hG9 => ?_
  obtain ⟨o, es, ep, ho, hd, _, hf⟩ := N
  refine hG9 ?_
  clear hG9 G9
  refine ⟨o, ho, ?_, fun vs q => by rw [hd] at q; cases q⟩
  have := hf x
  rw [e] at this
  unfold lookIn
  rw [hd]
  (try dsimp only)
  unfold nsFind findBy at this
  rw [← Array.find?_toList] at this
  cases q : es.toList.find? (·.key.isStr x) with
  | none => rw [q] at this; cases this
  | some en => rw [q] at this; exact congrArg some this

theorem ns_one {h : Heap} {d : Addr} {m1 m2 : Str → Option Value} (a : h.Ns d m1) (b : h.Ns d m2) (x : Str) : m1 x = m2 x := by
  refine foldG fun G9 hG9 => ?_
  obtain ⟨o, es, ep, ho, hd, _, hf⟩ := a
  obtain ⟨o', es', ep', ho', hd', _, hf'⟩ := b
  refine hG9 ?_
  clear hG9 G9
  rw [ho] at ho'; cases ho'
  rw [hd] at hd'; cases hd'
  rw [← hf x, ← hf' x]

theorem caught_own (hmk : m "kind" = none) (G : Gnd w loose mean mg mb b0) (B : Below A b0 outer g) (F : Fr g L h2 m) (R : Rsd b0 (envOf name scope L a cd :: outer) W h2 s'.heap e kind) (hW : ∀ b ∈ W, g.get? b = none ∧ b ≠ L)
    (k : ∀ h' tk ox od tkk, Kept (frs outer) [] g h' → Fr (over g h') L h' (fun y => if y = n then some (.ref e) else m y) → Below A b0 outer (over g h') → InstAt h' e ox 31 (some od) → lookIn "kind" od = some (some (.str kind tkk)) →
      (∀ b o, s'.heap.get? b = some o → (∀ vs, o.data ≠ .fields vs) → b ∉ frs (envOf name scope L a cd :: outer) → h'.get? b = some o) →
      wpAny (model prg w) ((A.deeper (envOf name scope L a cd)).mark (some (.ref e))) (execs (b₀ :: suite) (envOf name scope L a cd))
        (fun f s₄ => wpAny (model prg w) (A.deeper (envOf name scope L a cd)) (do bindName (envOf name scope L a cd) n .none; unbindBehindTheSuite (envOf name scope L a cd) n pos) (fun _ s₅ => Q f s₅) E s₄)
        (AsSuiteRaised (model prg w) ((A.deeper (envOf name scope L a cd)).mark (some (.ref e))) (envOf name scope L a cd) n pos (notedBy (model prg w) ((A.deeper (envOf name scope L a cd)).mark (some (.ref e))) (envOf name scope L a cd) (cameBackBy (model prg w) (A.deeper (envOf name scope L a cd)) (envOf name scope L a cd) E)))
        { s' with heap := h', toks := tk })
    (hk : scope.kind = .function := by rfl) (hlo : (envOf name scope L a cd).kindOf n = some .local := by rfl) (hx : (envOf name scope L a cd).kindOf "BasicError" = some .globalImplicit := by rfl) :
    wpAny (model prg w) (A.deeper (envOf name scope L a cd)) (noteFrame (.ref e) (envOf name scope L a cd))
      (fun _ s₂ => wpAny (model prg w) (A.deeper (envOf name scope L a cd)) (setFlight (.ref e) none) (fun _ s₃ =>
        wpAny (model prg w) (A.deeper (envOf name scope L a cd)) (handleBy (.ref e) (envOf name scope L a cd) (.ExceptHandler (some (.Name "BasicError" np)) (some n) (b₀ :: suite) pos :: rest)) Q E s₃) E s₂) E s' := by
  refine foldG fun G9 hG9 => ?_
  obtain ⟨kp, hne, ⟨T0, hxc, hT0⟩, hff, hst⟩ := R
  refine hG9 ?_
  clear hG9 G9
  have nW : ∀ b o, g.get? b = some o → b ∉ W := fun b o q z => by rw [(hW b z).1] at q; cases q
  have ge : ∀ b o, g.get? b = some o → b ≠ e := fun b o q => hne b o (F.keep b o q) (nW b o q)
  have gT : ∀ b o, g.get? b = some o → b ≠ T0 := fun b o q => hT0 b o (F.keep b o q) (nW b o q)
  have gL : ∀ b o, g.get? b = some o → b ≠ L := fun b o q z => by rw [z, fr_self F] at q; cases q
  have nf0 : ∀ b o, s'.heap.get? b = some o → (∀ vs, o.data ≠ .fields vs) → b ≠ e ∧ b ≠ T0 := fun b o q hd => by
    obtain ⟨d, _, _, vs, q1, _, _, _, _, _, q2⟩ := hxc
    obtain ⟨_, oT, ts, q3, q4, _⟩ := q2 T0 rfl
    exact ⟨fun z => by rw [z, q1] at q; cases q; exact hd vs rfl, fun z => by rw [z, q3] at q; cases q; exact hd ts q4⟩
  refine foldG fun G9 hG9 => ?_
  obtain ⟨oL, es, ep, hL, r⟩ := id F.ns
  have hLW : L ∉ W := fun z => (hW L z).2 rfl
  obtain ⟨slL, hL1⟩ := kp.any hL hLW
  refine hG9 ?_
  clear hG9 G9
  have hdL : ∀ vs, oL.data ≠ .fields vs := fun vs q => by rw [r.1] at q; cases q
  refine note_exc (L := L) (Around.frames_deeper B.stack) (fun_empty hff) rfl hxc fun h3 T hT p1 p2 p3 => ?_
  have k3 : Kept (frs outer) [] g h3 := ⟨fun b o q _ hb => p1 b o (kp.same b o (F.keep b o q) (nW b o q) fun z => (mem_frs (L := L) rfl z).elim (gL b o q) hb) (ge b o q) (gT b o q) fun z => (mem_frs (L := L) rfl z).elim (gL b o q) hb,
    fun b o q _ hb => by
      obtain ⟨sl, q3⟩ := kp.any (F.keep b o q) (nW b o q)
      obtain ⟨sl', q4⟩ := p2 b _ q3 (ge b o q) (gT b o q)
      exact ⟨sl', q4⟩⟩
  have gT3 : ∀ b o, g.get? b = some o → b ≠ T := fun b o q z => by
    obtain ⟨sl, q3⟩ := kp.any (F.keep b o q) (nW b o q)
    rw [z, hT] at q3; cases q3
  have nf3 : ∀ b o, s'.heap.get? b = some o → (∀ vs, o.data ≠ .fields vs) → b ∉ frs (envOf name scope L a cd :: outer) → h3.get? b = some o := fun b o q hd hb => p1 b o q (nf0 b o q hd).1 (nf0 b o q hd).2 hb
  have n3 : h3.Ns L m := ns_slots F.ns fun o ho => by
    rw [hL] at ho; cases ho
    have z := nf0 L _ hL1 hdL
    obtain ⟨sl', q⟩ := p2 L _ hL1 z.1 z.2
    exact ⟨sl', q⟩
  have F3 := over_fr F k3 n3
  have B3 := over_below B k3
  have X3 := G.X.keeps B3.stays
  have T3 := topRead_of (G.T.keeps B3.stays)
  refine foldG fun G9 hG9 => ?_
  obtain ⟨nm, q, bs, sn, sub, ab, col, dd, k0, k1, k2, k3', k5, hC⟩ := cls31 (X3.keeps (over_in k3))
  refine hG9 ?_
  clear hG9 G9
  have he3 : ∃ oe, h3.get? e = some oe ∧ oe.cls = .ref 31 := by obtain ⟨d, _, _, vs, q1, _⟩ := p3; exact ⟨_, q1, rfl⟩
  obtain ⟨oe, he3, hec⟩ := he3
  refine wpAny_handleBy_cons (codeAny_handlers_test (name_K F3 X3 T3 (v := .ref 31) (by k_is) ?_ hk hx (by decide))) (by intro q; cases q)
  refine wpAny_excMatches_sub_self hC he3 hec (by decide +kernel) (codeAny_handlers_suite_as ?_)
  refine flight_exc p3 fun h4 p4 p5 => ?_
  have nT : ∀ b o, h3.get? b = some o → (∀ vs, o.data ≠ .fields vs) → b ≠ T := fun b o q hd z => by
    refine foldG fun G9 hG9 => ?_
    obtain ⟨d, _, _, vs, _, _, _, _, _, _, q2⟩ := p3
    obtain ⟨_, oT, ts, q3, q4, _⟩ := q2 T rfl
    refine hG9 ?_
    clear hG9 G9
    rw [z, q3] at q; cases q; exact hd ts q4
  have n4 : h4.Ns L m := n3.at fun o ho => p4 L o ho (nT L o ho (by obtain ⟨o1, _, _, e1, e2, _⟩ := n3; rw [e1] at ho; cases ho; exact fun vs q => by rw [e2] at q; cases q))
  refine wpAny_storeName_local (env := envOf name scope L a cd) hlo n4 (fun h5 n5 hs => ?_) (by show (scope.kind == .class || (scope.kind == .module && L != mainGlobals)) = false; rw [hk]; rfl)
  have s5 : ∀ b o, h4.get? b = some o → b ≠ L → h5.get? b = some o := fun b o q hb => (hs.2 b hb).trans q
  have k5 : Kept (frs outer) [] g h5 := ⟨fun b o q _ hb => s5 b o (p4 b o (k3.same b o q (by simp) hb) (gT3 b o q)) (gL b o q), fun b o q _ hb => by
    obtain ⟨sl, q3⟩ := k3.any q (by simp)
    exact ⟨sl, s5 b _ (p4 b _ q3 (gT3 b o q)) (gL b o q)⟩⟩
  have hfin : ∃ ox od tkk, InstAt h5 e ox 31 (some od) ∧ lookIn "kind" od = some (some (.str kind tkk)) := by
    refine foldG fun G9 hG9 => ?_
    obtain ⟨d, mA, tk, vs, q1, _, _, q2, q3, q4, _⟩ := p5
    obtain ⟨od, o1, o2, o3⟩ := look_ns q2 q3
    refine hG9 ?_
    clear hG9 G9
    have heL : e ≠ L := fun z => by
      refine foldG fun G9 hG9 => ?_
      obtain ⟨o1, _, _, e1, e2, _⟩ := n4
      refine hG9 ?_
      clear hG9 G9
      rw [z, e1] at q1; cases q1; cases e2
    have hdL : d ≠ L := fun z => by rw [z] at q2; rw [ns_one q2 n4, hmk] at q3; cases q3
    exact ⟨_, od, tk, ⟨s5 _ _ q1 heL, rfl, rfl, s5 _ _ o1 hdL⟩, o2⟩
  refine foldG fun G9 hG9 => ?_
  obtain ⟨ox, od, tkk, f1, f2⟩ := hfin
  refine hG9 ?_
  clear hG9 G9
  exact k h5 _ ox od tkk k5 (over_fr F k5 n5) (over_below B k5) f1 f2 fun b o q hd hb => s5 b o (p4 b o (nf3 b o q hd hb) (nT b o (nf3 b o q hd hb) hd)) fun z => hb (List.mem_filterMap.mpr ⟨_, .head _, by rw [z]; rfl⟩)
end

section
variable {w : World} {loose : List Str} {mean : ExcName → Option Value} {mg mb : Str → Option Value} {b0 : Heap} {A : Around} {outer : List Env} {s : Shared} {R : Result → Shared → Prop} {t : Tok}

theorem tuple_kept {M : Model} {E : Value → Shared → Prop} {vs : List Value} {Q : Value → Shared → Prop} (hz : vs.length ≤ 1000)
    (h : ∀ D h', (∀ b o, s.heap.get? b = some o → h'.get? b = some o) → s.heap.get? D = none → h'.get? D = some (tupObj vs) → Q (.ref D) { s with heap := h' }) : wpAny M A (newTuple vs) Q E s :=
  wpAny_newTuple (h _ _ (fun _ _ e => Heap.get?_push_of_some _ e) (Heap.get?_none_of_le (Nat.le_refl _)) (Heap.get?_push_size _ rfl)) (by rw [sizeLine_eq]; omega)

theorem call_none {M : Model} {E : Value → Shared → Prop} {f : Addr} {o : Obj} {fd : FuncData} {pos : Pos} {env : Env} {Q : Value → Shared → Prop} (hf : s.heap.get? f = some o) (hd : o.data = .func fd) (h : wpAny M A (call (.ref f) []) Q E s) :
    wpAny M A (callWith pos (.ref f) [] (backTo pos (starEach [] env)) []) Q E s :=
  PySem.Calls.callWith_function (o := o) (fd := fd) (evalArgs_nil3 ⟨⟨hf, hd⟩, h⟩)

theorem keep_ws {h0 g h : Heap} {L : Addr} {m : Str → Option Value} {ws : List (Addr × Obj)} (hg : g = hideAll h0 (ws.map (·.1))) (F : Fr g L h m) (N : News g L h ws) (hN : ∀ p ∈ ws, h0.get? p.1 = some p.2) : ∀ b o, h0.get? b = some o → h.get? b = some o := fun b o e => by
  by_cases hb : b ∈ ws.map (·.1)
  · obtain ⟨p, hp, rfl⟩ := List.mem_map.mp hb
    rw [hN p hp] at e; cases e
    exact (N p hp).1
  · exact keepW hg F b o e hb

section
local macro_rules | `(tactic| walk_at "callWith ref") => `(tactic| (k_here; k_dflt (refine stopM ?_)))
local macro_rules | `(tactic| walk_at "newTuple") => `(tactic| (k_here; k_dflt (refine stopM ?_)))
local macro_rules | `(tactic| walk_at "getAttr ref") => `(tactic| (k_here; k_dflt (refine stopM ?_)))
local macro_rules | `(tactic| walk_at "bind") => `(tactic| (k_here; k_dflt (refine stopM ?_)))
local macro_rules | `(tactic| walk_at "noteFrame ref") => `(tactic| (k_here; k_dflt (refine stopM ?_)))
theorem law_heard_spec (G : Gnd w loose mean mg mb b0) (H : At 14 b0 A outer s) {f : Addr} {fo : Obj} {fd : FuncData} (hf : s.heap.get? f = some fo) (hfd : fo.data = .func fd) {ws : List (Addr × Obj)} (hN : ∀ p ∈ ws, s.heap.get? p.1 = some p.2 ∧ b0.get? p.1 = none ∧ p.1 ∉ frs outer) (hfW : f ∉ ws.map (·.1))
    (PV : Value → Heap → Heap → Prop) (PE : Str → Heap → Heap → Prop)
    (work : ∀ A' outer' s' R', At 12 b0 A' outer' s' → (∀ b o, s.heap.get? b = some o → s'.heap.get? b = some o) → (∀ p ∈ ws, p.1 ∉ frs outer') →
      (∀ v h' tk, KeepW (ws.map (·.1)) s'.heap h' → PV v s'.heap h' → R' (.ok (.ret v)) { s' with heap := h', toks := tk }) →
      (∀ kind ea h' tk, Rsd b0 outer' (ws.map (·.1)) s'.heap h' ea kind → PE kind s'.heap h' → R' (.error (.ref ea)) { s' with heap := h', toks := tk }) → codeAny (model prg w) A' (.call (.ref f) ⟨[], []⟩) R' s')
    (k1 : ∀ v hs h1 h' tk tup tv, (∀ b o, s.heap.get? b = some o → hs.get? b = some o) → KeepW (ws.map (·.1)) hs h1 → PV v hs h1 → (∀ b o, h1.get? b = some o → h'.get? b = some o) → h1.get? tup = none → h'.get? tup = some (tupObj [.str "value" tv, v]) → R (.ok (.ret (.ref tup))) { s with heap := h', toks := tk })
    (k2 : ∀ kind hs h1 h' tk tup tv tk2, (∀ b o, s.heap.get? b = some o → hs.get? b = some o) → PE kind hs h1 → Kept (frs outer) (ws.map (·.1)) s.heap h' →
      (∀ b o, h1.get? b = some o → (∀ vs, o.data ≠ .fields vs) → (b ∈ ws.map (·.1) ∨ hs.get? b = none) → h'.get? b = some o) → h'.get? tup = some (tupObj [.str "refused" tv, .str kind tk2]) → (∀ b o, s.heap.get? b = some o → b ∉ ws.map (·.1) → b ≠ tup) → R (.ok (.ret (.ref tup))) { s with heap := h', toks := tk }) :
    codeAny (model prg w) A (.call (.ref 167) ⟨[.ref f], []⟩) R s := by
  (refine' enter (news := ws) G H ?kN ?k6 ?k7 ?k9 ?kB ?_ ?c2 ?c3 ?c4 ?c5; (case kN => first | exact List.forall_mem_nil _ | assumption); (case k6 => k_is); (case k7 => k_is); (case k9 => exact BindsTo.of_eq rfl); (case c5 => decide); (case kB => exact locs rfl); (case c2 => exact rfl); (case c3 => exact rfl); (case c4 => exact rfl); (try dsimp only))
  intro g L h1 hg hL F N B X T hrm tk0
  have hf' : g.get? f = some fo := by rw [hg]; exact hideAll_get _ hf hfW
  have hWL : ∀ b ∈ ws.map (·.1), g.get? b = none ∧ b ≠ L := outL_of hg hL fun b hb => by
    obtain ⟨p, hp, rfl⟩ := List.mem_map.mp hb
    exact ⟨_, (hN p hp).1⟩
  have hWf : ∀ b ∈ ws.map (·.1), b ∉ frs outer := fun b hb => by
    obtain ⟨p, hp, rfl⟩ := List.mem_map.mp hb
    exact (hN p hp).2.2
  have ks : ∀ b o, s.heap.get? b = some o → h1.get? b = some o := keep_ws hg F N fun p hp => (hN p hp).1
  walk_at "m_steps"
  show wpAny _ _ _ _ _ _
  refine call_none (F.keep _ _ hf') hfd (wpAny_call (work _ _ _ _ (at_in B F (Rm.le hrm)) ks (fun p hp => nf_cons (hWL _ (List.mem_map_of_mem hp)).2 (hN p hp).2.2) ?_ ?_))
  · intro v h2 tk2 hk hPV
    (try dsimp only)
    walk_at "m_steps"
    show wpAny _ _ _ _ _ _
    refine tuple_kept (by simp) fun D h3 q1 q2 q3 => ?_
    exact k1 v h1 h2 h3 _ D _ ks hk hPV q1 q2 q3
  · intro kind ea h2 tk2 hR hPE
    (try dsimp only)
    refine caught_own (W := List.map (fun p : Addr × Obj => p.1) ws) (kind := kind) rfl G B F hR hWL fun h3 tk3 ox od tkk kp3 F3 B3 I3 hl3 nf3 => ?_
    (try dsimp only)
    walk_at "m_steps"
    show wpAny _ _ _ _ _ _
    refine kind_attr ((G.X.keeps B3.stays).keeps F3.keep) I3 hl3 rfl ?_
    walk_at "m_steps"
    show wpAny _ _ _ _ _ _
    refine tuple_kept (by simp) fun D h4 q1 q2 q3 => ?_
    walk_at "m_steps"
    show wpAny _ _ _ _ _ _
    have sL : ∀ b o, s.heap.get? b = some o → b ≠ L := fun b o q z => by
      have := Heap.lt_size q
      rw [z, hL] at this; exact absurd this (Nat.lt_irrefl _)
    have hLn : ∃ oL, h1.get? L = some oL := by obtain ⟨oL, _, _, e, _⟩ := F.ns; exact ⟨oL, e⟩
    have hL3 : ∃ oL, h3.get? L = some oL := by obtain ⟨oL, _, _, e, _⟩ := F3.ns; exact ⟨oL, e⟩
    refine wpAny_nameGoes (env := envOf _ _ _ _ _) rfl (F3.ns.keeps q1) rfl fun h5 m5 n5 hs5 => ?_
    have k5 : ∀ b o, h3.get? b = some o → b ≠ L → h5.get? b = some o := fun b o q z => (hs5.2 b z).trans (q1 b o q)
    have up : ∀ b o, s.heap.get? b = some o → b ∉ ws.map (·.1) → g.get? b = some o := fun b o q z => by rw [hg]; exact hideAll_get _ q z
    refine k2 kind h1 h2 h5 _ D _ tkk ks hPE ⟨fun b o q z1 z2 => k5 b o (kp3.same b o (up b o q z1) (nm_nil _) z2) (sL b o q), fun b o q z1 z2 => ?_⟩ (fun b o q hd hb => ?_) ((hs5.2 D fun z => ?_).trans q3) (fun b o q z1 z2 => ?_)
    · obtain ⟨sl, q2⟩ := kp3.slots b o (up b o q z1) (nm_nil _) z2
      exact ⟨sl, k5 b _ q2 (sL b o q)⟩
    · have hbL : b ≠ L := hb.elim (fun z => (hWL b z).2) fun z y => by obtain ⟨oL, e⟩ := hLn; rw [← y, z] at e; cases e
      exact k5 b o (nf3 b o q hd (hb.elim (fun z => nf_cons hbL (hWf b z)) fun z => out_frs B F z)) hbL
    · obtain ⟨oL, e⟩ := hL3
      have z : D = L := z
      rw [z, e] at q2; cases q2
    · obtain ⟨sl, q4⟩ := kp3.any (up b o q z1) (nm_nil _)
      rw [z2, q2] at q4; cases q4
end
end

section
variable {w : World} {loose : List Str} {mean : ExcName → Option Value} {mg mb : Str → Option Value} {b0 : Heap} {A : Around} {outer : List Env} {s : Shared}
  {R : Result → Shared → Prop} {name qual : Str} {params : Arguments} {body : List Stmt} {scope : Scope} {dV kV doc pm cdv ct oc : Value} {an od : Option Addr} {osl : Array (Option Value)} {f : Addr} {args : Args} {binds : List (Str × Value)}

theorem enterC {n : Nat} {news : List (Addr × Obj)} (G : Gnd w loose mean mg mb b0) (H : At n b0 A outer s)
    (hn : ∀ p ∈ news, s.heap.get? p.1 = some p.2 ∧ b0.get? p.1 = none ∧ p.1 ∉ frs outer)
    (ho : (hd.heap_39 w.params).lookup f = some ⟨oc, od, .func (fnOf name qual params body scope dV kV doc pm an cdv ct), osl⟩) (hcd : codeIn (hd.heap_39 w.params) cdv qual = true)
    (hbind : BindsTo s (fnOf name qual params body scope dV kV doc pm an cdv ct) args binds)
    (hkind : ∀ n, ∀ x ∈ binds, scope.names.lookup x.1 = some .local ∨ (scope.names.lookup x.1 = some .cell ∧ ((cellsFrom n scope.names []).lookup x.1).isSome = true))
    (hnd : ((cellsFrom 0 scope.names []).map (·.1)).Nodup)
    (h : ∀ g L' h₁ tk cells, g = hideAll s.heap (news.map (·.1)) → L' = s.heap.objs.size → Fr g L' h₁ (bindL (envOfC qual scope L' f cdv).kindOf binds fun _ => none) → News g L' h₁ (cells ++ news) →
      CellsAre (bindC (envOfC qual scope L' f cdv).kindOf binds fun _ => none) (cellsFrom (L' + 1) scope.names []) cells → Below A b0 outer g → (hd.heap_39 w.params).In g → Top topProg loose mean mg mb g → Rm n A → (∀ p ∈ news, p.1 < L') →
      wpAny (model prg w) (A.deeper (envOfC qual scope L' f cdv)) (execs body (envOfC qual scope L' f cdv))
        (fun fl s' => R (.ok (.ret (match fl with | .ret v => v | _ => .none))) s')
        (fun e s' => wpAny (model prg w) (A.deeper (envOfC qual scope L' f cdv)) (leaving (envOfC qual scope L' f cdv) e) (fun _ s'' => R (.error e) s'') (fun e' s'' => R (.error e') s'') s')
        { s with heap := h₁, toks := tk })
    (hco : scope.isCoroutine = false) (hgen : scope.isGenerator = false) (hk : scope.kind = .function) : codeAny (model prg w) A (.call (.ref f) args) R s := by
  have hst : b0.StaysIn (hideAll s.heap (news.map (·.1))) := fun b o e => hideAll_get _ (H.stays b o e) fun q => by
    obtain ⟨p, hp, rfl⟩ := List.mem_map.mp q
    rw [(hn p hp).2.1] at e; cases e
  refine codeAny_call_function H.rm.room (H.stays _ _ (G.X _ _ ho)) rfl hco hgen rfl (codeRec_of (G.X.keeps H.stays) hcd) (hbind _ _ _ _ ?_)
  refine wpAny_newFunctionEnv_cells hk (hkind _) fun env' he s' x => ?_
  subst he
  refine ⟨(G.T.nolimit.keeps H.stays).keeps x.toInCall.keep, codeAny_func ?_⟩
  obtain ⟨h₁, tk, rfl, _⟩ := x.done
  have hk₁ := x.toInCall.keep
  obtain ⟨cells, NC, Y⟩ := Cl.news (h₀ := s.heap) (Nat.le_refl _) fun n c hm => ⟨x.cell n c (lookup_of_mem_nodup (cellsFrom_names scope.names 0 (s.heap.objs.size + 1) [] [] rfl ▸ hnd) hm), x.above n c hm⟩
  refine h _ s.heap.objs.size h₁ tk cells rfl rfl ⟨x.toInCall.ns, fun b o e => hk₁ b o (of_hideAll _ e), Nat.le_of_eq (hideAll_size _ _)⟩ (fun p hp => ?_) Y
    ⟨H.frames, hst, funFrames_hideAll H.fun' fun env he a ha q => by
      obtain ⟨p, hp, rfl⟩ := List.mem_map.mp ha
      exact (hn p hp).2.2 (List.mem_filterMap.mpr ⟨env, he, q⟩)⟩
    (G.X.keeps hst) (G.T.keeps hst) H.rm (fun p hp => Heap.lt_size (hn p hp).1)
  rcases List.mem_append.mp hp with hp | hp
  · refine ⟨(NC p hp).1, (NC p hp).2.1, ?_⟩
    cases q : (hideAll s.heap (news.map (·.1))).get? p.1 with
    | none => rfl
    | some o => have := of_hideAll _ q; rw [(NC p hp).2.2] at this; cases this
  · exact ⟨hk₁ _ _ (hn p hp).1, Nat.ne_of_lt (Heap.lt_size (hn p hp).1), hideAll_none _ (List.mem_map_of_mem hp)⟩

theorem enter_lam {n : Nat} {news : List (Addr × Obj)} {ex : Expr} {cl : List (Str × Addr)} {c' : Addr} {ctv : Value} (G : Gnd w loose mean mg mb b0) (H : At n b0 A outer s)
    (hn : ∀ p ∈ news, s.heap.get? p.1 = some p.2 ∧ b0.get? p.1 = none ∧ p.1 ∉ frs outer)
    (ho : s.heap.get? f = some (kla_obj name qual params ex scope cl pm c' ctv)) (hcd : s.heap.CodeRec (.ref c') qual)
    (hbind : bindArgs (kla_fn name qual params ex scope cl pm (.ref c') ctv) args = pure binds) (hloc : ∀ y ∈ binds, scope.names.lookup y.1 = some .local)
    (h : ∀ g L' h₁, g = hideAll s.heap (news.map (·.1)) → L' = s.heap.objs.size → Fr g L' h₁ (fun y => binds.reverse.lookup y) → News g L' h₁ news → Below A b0 outer g → (hd.heap_39 w.params).In g → Top topProg loose mean mg mb g → Rm n A →
      wpAny (model prg w) (A.deeper (envX qual scope L' f (.ref c') cl)) (eval ex (envX qual scope L' f (.ref c') cl))
        (fun v s' => R (.ok (.ret v)) s')
        (fun e s' => wpAny (model prg w) (A.deeper (envX qual scope L' f (.ref c') cl)) (leaving (envX qual scope L' f (.ref c') cl) e) (fun _ s'' => R (.error e) s'') (fun e' s'' => R (.error e') s'') s')
        { s with heap := h₁, toks := s.toks + binds.length })
    (hco : scope.isCoroutine = false) (hgen : scope.isGenerator = false) (hk : scope.kind = .function)
    (hcell : ∀ x ∈ scope.names, x.2 ≠ .cell) : codeAny (model prg w) A (.call (.ref f) args) R s := by
  have hst : b0.StaysIn (hideAll s.heap (news.map (·.1))) := fun b o e => hideAll_get _ (H.stays b o e) fun q => by
    obtain ⟨p, hp, rfl⟩ := List.mem_map.mp q
    rw [(hn p hp).2.1] at e; cases e
  refine kla_callFunE H.rm.room ho rfl hco hgen rfl hcd ?_
  rw [hbind]
  refine wpAny_pure (wpAny_newFunctionEnv hcell hloc (fun h₁ hns hsb => ⟨(G.T.nolimit.keeps H.stays).fresh _ hsb, ?_⟩) hk)
  show codeAny _ _ (.expr ex (envX qual scope s.heap.objs.size f (.ref c') cl)) _ _
  have hk₁ : ∀ b o, s.heap.get? b = some o → h₁.get? b = some o := fun b o e => hsb.extBut b o (Nat.ne_of_lt (Heap.lt_size e)) (Heap.get?_push_of_some _ e)
  exact kla_codeExpr (h _ s.heap.objs.size h₁ rfl rfl ⟨hns, fun b o e => hk₁ b o (of_hideAll _ e), Nat.le_of_eq (hideAll_size _ _)⟩
    (fun p hp => ⟨hk₁ _ _ (hn p hp).1, Nat.ne_of_lt (Heap.lt_size (hn p hp).1), hideAll_none _ (List.mem_map_of_mem hp)⟩)
    ⟨H.frames, hst, funFrames_hideAll H.fun' fun env he a ha q => by
      obtain ⟨p, hp, rfl⟩ := List.mem_map.mp ha
      exact (hn p hp).2.2 (List.mem_filterMap.mpr ⟨env, he, q⟩)⟩
    (G.X.keeps hst) (G.T.keeps hst) H.rm)
end

abbrev lamQual : Str := "_law_deed.<locals>.<lambda>"
/-- the table of lambdas' code, as it grows -/
def TabOk (h : Heap) (ps : Array Value) : Prop := TriplesOk ps.toList ∧ ∀ pos v, codeAmong pos ps.toList = some v → ∃ c', v = .ref c' ∧ h.CodeRec (.ref c') lamQual
/-- all stands, but for slots -/
abbrev UpS (h h' : Heap) : Prop := ∀ b o, h.get? b = some o → ∃ sl, h'.get? b = some { o with slots := sl }
theorem code_ups {h h' : Heap} {c : Value} {q : Str} (x : h.CodeRec c q) (k : ∀ b o, h.get? b = some o → c = .ref b → ∃ sl, h'.get? b = some { o with slots := sl }) : h'.CodeRec c q := by
  obtain ⟨c₂, oc, vs, t, e2, hoc, hd, hv⟩ := x
  obtain ⟨sl, e⟩ := k _ _ hoc e2
  exact ⟨c₂, _, vs, t, e2, e, hd, hv⟩
theorem TabOk.ups {h h' : Heap} {ps : Array Value} (x : TabOk h ps) (k : UpS h h') : TabOk h' ps := ⟨x.1, fun pos v e => let ⟨c', e', q⟩ := x.2 pos v e; ⟨c', e', code_ups q fun b o z _ => k b o z⟩⟩
theorem triples_ind {M : List Value → Prop} (h0 : M []) (h1 : ∀ a t b u x rest, M rest → M (.int a t :: .int b u :: x :: rest)) : ∀ (l : List Value), TriplesOk l → M l
  | [], _ => h0
  | .int a t :: .int b u :: x :: rest, ht => h1 a t b u x rest (triples_ind h0 h1 rest ht)
theorem among_snoc {pos p : Pos} {c v : Value} (l : List Value) (ht : TriplesOk l) : codeAmong p (l ++ [rawInt pos.line, rawInt pos.col, c]) = some v → codeAmong p l = some v ∨ v = c := by
  refine triples_ind (M := fun l => codeAmong p (l ++ [rawInt pos.line, rawInt pos.col, c]) = some v → codeAmong p l = some v ∨ v = c) ?_ ?_ l ht
  · intro h
    replace h : (if ((pos.line : Int) == p.line && (pos.col : Int) == p.col) = true then some c else none) = some v := h
    split at h
    · exact .inr (Option.some.inj h).symm
    · cases h
  · intro a t b u x rest ih h
    replace h : (if (a == p.line && b == p.col) = true then some x else codeAmong p (rest ++ [rawInt pos.line, rawInt pos.col, c])) = some v := h
    show (if (a == p.line && b == p.col) = true then some x else codeAmong p rest) = some v ∨ v = c
    by_cases q : (a == p.line && b == p.col) = true
    · rw [if_pos q] at h ⊢; exact .inl h
    · rw [if_neg q] at h ⊢; exact ih h
theorem triples_snoc {pos : Pos} {c : Value} (l : List Value) (ht : TriplesOk l) : TriplesOk (l ++ [rawInt pos.line, rawInt pos.col, c]) :=
  triples_ind (M := fun l => TriplesOk (l ++ [rawInt pos.line, rawInt pos.col, c])) trivial (fun _ _ _ _ _ _ ih => ih) l ht

section
variable {w : World} {A : Around} {E : Value → Shared → Prop} {s : Shared} {g : Heap} {L a : Addr} {m mg mb : Str → Option Value} {cn : Str} {cs : Scope} {cl : List (Str × Addr)} {news : List (Addr × Obj)} {gn : Obj → List (Addr × Obj)}
  {loose : List Str} {mean : ExcName → Option Value} {params : Arguments} {body : Expr} {scope : Scope} {ps : Array Value} {pos : Pos} {clos : List (Str × Addr)}
theorem lambda_led {Q : Value → Shared → Prop} (F : Fr g L s.heap m) (N : News g L s.heap news) (T : Top topProg loose mean mg mb g) (C : CodeHd g 215 211) (K : TabOk g ps) (U : UpdF 211 (tabObj ps) news gn)
    (hq : cn = "_law_deed") (hdef : defaultsOf params (envX cn cs L a (.ref 215) cl) = ([], [])) (hcl : closureFor scope (envX cn cs L a (.ref 215) cl) = pure clos)
    (h : ∀ f x ox c' ctv ps' h' tk, Fr g L h' m → News g L h' ((f, kla_obj "<lambda>" lamQual params body scope clos ((mg "__name__").getD .none) c' ctv) :: (x, ox) :: gn (tabObj ps')) →
      (∀ h2, UpS g h2 → (∃ sl, h2.get? x = some { ox with slots := sl }) → TabOk h2 ps' ∧ h2.CodeRec (.ref c') lamQual) → (∀ q ∈ news, q.1 < x) → (∀ q ∈ news, q.1 < f) → Q (.ref f) { s with heap := h', toks := tk }) :
    wpAny (model prg w) A (eval (.Lambda params body scope pos) (envX cn cs L a (.ref 215) cl)) Q E s := by
  subst hq
  refine kla_eval hdef ?_
  show wpAny _ _ (makeFunction "<lambda>" lamQual params (.expr body) scope (envX "_law_deed" cs L a (.ref 215) cl) [] [] [] pos pos.line) _ _ _
  cases hf : codeAmong pos ps.toList with
  | none =>
    refine kla_nest F N T C rfl U K.1 hf hcl fun f c' oc vs t ctv h' tk F' N' d1 d2 l1 l2 => h f c' oc c' ctv _ h' tk F' N' (fun h2 k1 k2 => ?_) l1 fun q hq => Nat.lt_trans (l1 q hq) l2
    obtain ⟨sl, k2⟩ := k2
    have hc : h2.CodeRec (.ref c') lamQual := ⟨c', _, vs, t, rfl, k2, d1, d2⟩
    refine ⟨⟨?_, fun p v e => ?_⟩, hc⟩
    · rw [Array.toList_append]; exact triples_snoc _ K.1
    · rw [Array.toList_append] at e
      rcases among_snoc _ K.1 e with e | rfl
      · obtain ⟨c2, e2, q⟩ := K.2 p v e
        exact ⟨c2, e2, code_ups q fun b o z _ => k1 b o z⟩
      · exact ⟨c', rfl, hc⟩
  | some v =>
    obtain ⟨c', rfl, hc⟩ := K.2 pos v hf
    have hgn : gn (tabObj ps) = news := by
      obtain ⟨own, rest, rfl, hgr, _⟩ := U.split
      exact hgr _
    have hm : (211, tabObj ps) ∈ news := by
      obtain ⟨own, rest, rfl, hgr, _⟩ := U.split
      exact List.mem_append_right _ (.head _)
    refine kla_hit F N T C rfl hm K.1 hf hcl fun f ctv h' tk F' N' l1 => h f f (kla_obj "<lambda>" lamQual params body scope clos ((mg "__name__").getD .none) c' ctv) c' ctv ps h' tk F' (fun p hp => ?_) (fun h2 k1 _ => ⟨K.ups k1, code_ups hc fun b o z _ => k1 b o z⟩) l1 l1
    rcases List.mem_cons.mp hp with rfl | hp
    · exact N' _ (.head _)
    · rw [hgn] at hp; exact N' p hp

theorem name_free {x : Str} {c : Addr} {o : Obj} {v : Value} {p : Pos} {ccd : Value} {Q : Value → Shared → Prop} (hm : s.heap.get? c = some o) (hc : cl.lookup x = some c) (hd : o.data = .cell (some v)) (h : Q v s)
    (hk : cs.kind = .function := by rfl) (hx : (envX cn cs L a ccd cl).kindOf x = some .free := by rfl) (hb : (x == ("__debug__" : Str)) = false := by decide) (hn : (x == ("__classdict__" : Str)) = false := by decide) :
    wpAny (model prg w) A (eval (.Name x p) (envX cn cs L a ccd cl)) Q E s := wpAny_Name (wpAny_loadName_free hk hx hc ⟨o, hm, hd⟩ h hn) hb
end

section
variable {g h h' : Heap} {L l : Addr} {m : Str → Option Value} {news : List (Addr × Obj)} {o : Obj}
theorem allNe_of (N : News g L h news) (n : h.get? l = none) : AllNe l news := by
  induction news with
  | nil => trivial
  | cons p r ih => exact ⟨fun q => (by have := (N p (.head _)).1; rw [show p.1 = l from q, n] at this; cases this), ih fun q hq => N q (.tail _ hq)⟩
theorem made_kp (F : Fr g L h m) (N : News g L h news) (k : ∀ b o, h.get? b = some o → h'.get? b = some o) (n : h.get? l = none) (e : h'.get? l = some o) : Fr g L h' m ∧ News g L h' ((l, o) :: news) ∧ AllNe l news :=
  ⟨Fr.kp F k, News.made F n e (News.kp N k), allNe_of N n⟩
theorem made_kpK (F : Fr g L h m) (N : News g L h news) (k : ∀ b o, h.get? b = some o → h'.get? b = some o) (n : h.get? l = none) (e : h'.get? l = some o) {P : Prop} (x : Fr g L h' m → News g L h' ((l, o) :: news) → AllNe l news → P) : P := x (Fr.kp F k) (News.made F n e (News.kp N k)) (allNe_of N n)
end
def NameList (vs : List Value) : Prop := ∃ a b c d, vs = [.str "A" a, .str "B$" b, .str "C" c, .str "D$" d]
section
variable {w : World} {A : Around} {E : Value → Shared → Prop} {s : Shared} {l : Addr} {vs : List Value} {c : Nat} {k : Int} {u : Tok}
theorem sub_names {value slice : PySem.Expr} {Q : Value → Shared → Prop} (hl : s.heap.get? l = some (listOf vs.toArray c)) (hs4 : NameList vs) (h0 : 0 ≤ k) (hk : k < 4) (h : ∀ x t, x ∈ names4 → Q (.str x t) s)
    (hs : subscripted slice false (.ref l) (.int k u) = operate [.ref l, .int k u] (getItem (.ref l) (.int k u)) := by with_unfolding_all rfl) (ht : ∀ r, letTemporaryGo value (.ref l) r = pure () := by intro _; with_unfolding_all rfl) :
    wpAny (model prg w) A (subscriptTail value slice (.ref l) (.int k u)) Q E s := by
  obtain ⟨a, b, c', d, rfl⟩ := hs4
  have := nat_four (toNat_lt4 (n := 4) h0 hk)
  rcases this with e | e | e | e
  · exact sub_list hl h0 (by simp) (by rw [e]; rfl) (h _ _ (by decide)) hs ht
  · exact sub_list hl h0 (by simp) (by rw [e]; rfl) (h _ _ (by decide)) hs ht
  · exact sub_list hl h0 (by simp) (by rw [e]; rfl) (h _ _ (by decide)) hs ht
  · exact sub_list hl h0 (by simp) (by rw [e]; rfl) (h _ _ (by decide)) hs ht
end

/-- where a sort's questions lead when lt answers them -/
def SOk {α : Type} (n : Nat) (lt : Nat → Nat → Bool) : KasT α → (α → Prop) → Prop
  | .ret a, Q => Q a
  | .ask i j k, Q => i < n ∧ j < n ∧ SOk n lt (k (lt i j)) Q
theorem SOk.bind {α β : Type} {n : Nat} {lt : Nat → Nat → Bool} {f : α → KasT β} {Q : β → Prop} : ∀ (t : KasT α), SOk n lt t (fun a => SOk n lt (f a) Q) → SOk n lt (t.bind f) Q
  | .ret _, h => h
  | .ask _ _ k, ⟨a, b, h⟩ => ⟨a, b, SOk.bind (k _) h⟩
theorem SOk.mono {α : Type} {n : Nat} {lt : Nat → Nat → Bool} {Q Q' : α → Prop} (q : ∀ a, Q a → Q' a) : ∀ (t : KasT α), SOk n lt t Q → SOk n lt t Q'
  | .ret a, h => q a h
  | .ask _ _ k, ⟨a, b, h⟩ => ⟨a, b, SOk.mono q (k _) h⟩
theorem SOk.wp {α : Type} {n : Nat} {lt : Nat → Nat → Bool} {cmp : Nat → Nat → (Bool → Shared → Prop) → Shared → Prop} {Q : α → Shared → Prop} {s : Shared} (hc : ∀ i j (C : Bool → Shared → Prop), i < n → j < n → C (lt i j) s → cmp i j C s) :
    ∀ (t : KasT α), SOk n lt t (fun a => Q a s) → t.kasWp cmp Q s
  | .ret _, h => h
  | .ask i j k, ⟨a, b, h⟩ => hc i j _ a b (SOk.wp hc (k _) h)

/-- an order of n things, no two alike -/
structure SOrd (n : Nat) (lt : Nat → Nat → Bool) : Prop where
  irr : ∀ i, lt i i = false
  tr : ∀ i j k, lt i j = true → lt j k = true → lt i k = true
  tot : ∀ i j, i < n → j < n → i ≠ j → lt i j = true ∨ lt j i = true
/-- an array of the n things, each once -/
structure SPm (n : Nat) (p : Array Nat) : Prop where
  perm : p.toList.Perm (List.range n)
theorem SPm.size {n : Nat} {p : Array Nat} (P : SPm n p) : p.size = n := by
  have := P.perm.length_eq
  rwa [List.length_range] at this
theorem SPm.get {n : Nat} {p : Array Nat} (P : SPm n p) {i : Nat} (hi : i < n) : ∃ h : i < p.toList.length, p.getD i 0 = p.toList[i] := by
  have h : i < p.size := P.size.symm ▸ hi
  refine ⟨h, ?_⟩
  unfold Array.getD
  rw [dif_pos h]; rfl
theorem SPm.lt {n : Nat} {p : Array Nat} (P : SPm n p) (i : Nat) (hi : i < n) : p.getD i 0 < n := by
  obtain ⟨h, e⟩ := P.get hi
  rw [e]
  exact List.mem_range.mp (P.perm.mem_iff.mp (List.getElem_mem h))
theorem SPm.inj {n : Nat} {p : Array Nat} (P : SPm n p) (i j : Nat) (hi : i < n) (hj : j < n) (q : p.getD i 0 = p.getD j 0) : i = j := by
  obtain ⟨h1, e1⟩ := P.get hi
  obtain ⟨h2, e2⟩ := P.get hj
  rw [e1, e2] at q
  exact (List.getElem_inj (P.perm.nodup_iff.mpr List.nodup_range)).mp q
def SAsc (lt : Nat → Nat → Bool) (p : Array Nat) (m : Nat) : Prop := ∀ i j, i < j → j < m → lt (p.getD i 0) (p.getD j 0) = true
def SDsc (lt : Nat → Nat → Bool) (p : Array Nat) (m : Nat) : Prop := ∀ i j, i < j → j < m → lt (p.getD j 0) (p.getD i 0) = true

section
variable {n : Nat} {lt : Nat → Nat → Bool} {p : Array Nat}
theorem SOrd.asym (O : SOrd n lt) {i j : Nat} (h : lt i j = true) : lt j i = false := by
  cases q : lt j i with
  | false => rfl
  | true => have := O.tr _ _ _ h q; rw [O.irr] at this; cases this
theorem sdist (O : SOrd n lt) (P : SPm n p) {i j : Nat} (hi : i < n) (hj : j < n) (hne : i ≠ j) (h : lt (p.getD i 0) (p.getD j 0) = false) : lt (p.getD j 0) (p.getD i 0) = true := by
  rcases O.tot _ _ (P.lt i hi) (P.lt j hj) (fun e => hne (P.inj i j hi hj e)) with q | q
  · rw [h] at q; cases q
  · exact q
theorem one_lt {i j : Nat} (h : i < j) : j - 1 < j := Nat.sub_one_lt_of_le (Nat.lt_of_le_of_lt (Nat.zero_le _) h) (Nat.le_refl _)
theorem SAsc.snoc (O : SOrd n lt) {m : Nat} (hm : 1 ≤ m) (A : SAsc lt p m) (h : lt (p.getD (m - 1) 0) (p.getD m 0) = true) : SAsc lt p (m + 1) := fun i j hij hj => by
  by_cases q : j = m
  · subst q
    by_cases q : i = j - 1
    · subst q; exact h
    · exact O.tr _ _ _ (A i (j - 1) (Nat.lt_of_le_of_ne (Nat.le_sub_one_of_lt hij) q) (one_lt hm)) h
  · exact A i j hij (Nat.lt_of_le_of_ne (Nat.le_of_lt_succ hj) q)
theorem SDsc.snoc (O : SOrd n lt) {m : Nat} (hm : 1 ≤ m) (A : SDsc lt p m) (h : lt (p.getD m 0) (p.getD (m - 1) 0) = true) : SDsc lt p (m + 1) := fun i j hij hj => by
  by_cases q : j = m
  · subst q
    by_cases q : i = j - 1
    · subst q; exact h
    · exact O.tr _ _ _ h (A i (j - 1) (Nat.lt_of_le_of_ne (Nat.le_sub_one_of_lt hij) q) (one_lt hm))
  · exact A i j hij (Nat.lt_of_le_of_ne (Nat.le_of_lt_succ hj) q)
theorem lt_of_step {m f n : Nat} (h : m + (f + 1) ≤ n) : m < n := Nat.lt_of_lt_of_le (Nat.lt_add_of_pos_right (Nat.succ_pos f)) h
theorem le_of_step {m f n : Nat} (h : m + (f + 1) ≤ n) : m + 1 + f ≤ n := Nat.le_trans (Nat.le_of_eq (Nat.add_right_comm m 1 f)) h
theorem no_two {i j : Nat} {P : Prop} (a : i < j) (b : j < 1) : P := (Nat.not_lt_zero i (Nat.lt_of_lt_of_le a (Nat.le_of_lt_succ b))).elim

theorem s_asc (O : SOrd n lt) (P : SPm n p) : ∀ (f m : Nat), 1 ≤ m → m + f ≤ n → SAsc lt p m → SOk n lt (kas_asc p f m) fun m' => m ≤ m' ∧ m' ≤ m + f ∧ SAsc lt p m' ∧ (m' < m + f → lt (p.getD m' 0) (p.getD (m' - 1) 0) = true)
  | 0, m, _, _, A => ⟨Nat.le_refl _, Nat.le_refl _, A, fun h => absurd h (Nat.lt_irrefl _)⟩
  | f + 1, m, h1, hf, A => by
    have hm : m < n := lt_of_step hf
    have hm1 : m - 1 < n := Nat.lt_trans (one_lt h1) hm
    refine ⟨P.lt _ hm, P.lt _ hm1, ?_⟩
    cases q : lt (p.getD m 0) (p.getD (m - 1) 0) with
    | true => exact ⟨Nat.le_refl _, Nat.le_add_right _ _, A, fun _ => q⟩
    | false =>
      have := sdist O P hm hm1 (Nat.ne_of_gt (one_lt h1)) q
      have e : m + 1 + f = m + (f + 1) := Nat.add_right_comm m 1 f
      exact SOk.mono (fun m' h => ⟨Nat.le_of_succ_le h.1, Nat.le_trans h.2.1 (Nat.le_of_eq e), h.2.2.1, fun x => h.2.2.2 (Nat.lt_of_lt_of_le x (Nat.le_of_eq e.symm))⟩) _ (s_asc O P f (m + 1) (Nat.le_add_left 1 m) (le_of_step hf) (A.snoc O h1 this))
theorem s_desc (O : SOrd n lt) (P : SPm n p) : ∀ (f m : Nat), 1 ≤ m → m + f ≤ n → SDsc lt p m → SOk n lt (kas_desc f p m 0) fun r => r.1 = p ∧ r.2.2 = 0 ∧ m ≤ r.2.1 ∧ r.2.1 ≤ m + f ∧ SDsc lt p r.2.1
  | 0, m, _, _, A => ⟨rfl, rfl, Nat.le_refl _, Nat.le_refl _, A⟩
  | f + 1, m, h1, hf, A => by
    have hm : m < n := lt_of_step hf
    have hm1 : m - 1 < n := Nat.lt_trans (one_lt h1) hm
    refine ⟨P.lt _ hm, P.lt _ hm1, ?_⟩
    cases q : lt (p.getD m 0) (p.getD (m - 1) 0) with
    | true => exact SOk.mono (fun r h => ⟨h.1, h.2.1, Nat.le_of_succ_le h.2.2.1, Nat.le_trans h.2.2.2.1 (Nat.le_of_eq (Nat.add_right_comm m 1 f)), h.2.2.2.2⟩) _ (s_desc O P f (m + 1) (Nat.le_add_left 1 m) (le_of_step hf) (A.snoc O h1 q))
    | false =>
      have := sdist O P hm hm1 (Nat.ne_of_gt (one_lt h1)) q
      refine ⟨P.lt _ hm1, P.lt _ hm, ?_⟩
      rw [this]
      exact ⟨rfl, rfl, Nat.le_refl _, Nat.le_add_right _ _, A⟩
theorem getD_opt (p : Array Nat) (i : Nat) : p.getD i 0 = (p[i]?).getD 0 := by
  unfold Array.getD
  split
  · rename_i h; rw [Array.getElem?_eq_getElem h]; rfl
  · rename_i h; rw [Array.getElem?_eq_none (Nat.le_of_not_lt h)]; rfl
theorem rev_at (P : SPm n p) {m : Nat} (hm : m ≤ n) (k : Nat) : (kas_rev p 0 m).getD k 0 = if k < m then p.getD (m - 1 - k) 0 else p.getD k 0 := by
  rw [getD_opt, kas_rev, getElem?_mirror_all (by rw [P.size]; exact hm)]
  by_cases q : k < m
  · rw [if_pos ⟨Nat.zero_le _, q⟩, if_pos q, getD_opt, Nat.zero_add]
  · rw [if_neg (fun h => q h.2), if_neg q, getD_opt]
theorem rev_pm (P : SPm n p) {m : Nat} : SPm n (kas_rev p 0 m) := ⟨List.Perm.trans (by rw [kas_rev]; exact Array.perm_iff_toList_perm.mp (mirror_perm _ _ _ _)) P.perm⟩
theorem rev_asc (P : SPm n p) {m : Nat} (hm : m ≤ n) (D : SDsc lt p m) : SAsc lt (kas_rev p 0 m) m := fun i j hij hj => by
  rw [rev_at P hm, rev_at P hm, if_pos (Nat.lt_trans hij hj), if_pos hj]
  exact D _ _ (Nat.sub_lt_sub_left (Nat.lt_of_lt_of_le hij (Nat.le_sub_one_of_lt hj)) hij) (Nat.lt_of_le_of_lt (Nat.sub_le _ i) (one_lt hj))
theorem s_count (O : SOrd n lt) (P : SPm n p) (hn : 2 ≤ n) : SOk n lt (kas_count n p) fun r => 1 ≤ r.1 ∧ r.1 ≤ n ∧ SPm n r.2 ∧ SAsc lt r.2 r.1 := by
  have e1 : 1 + (n - 1) = n := Nat.add_sub_cancel' (Nat.le_of_succ_le hn)
  unfold kas_count
  refine SOk.bind _ (SOk.mono (fun m h => ?_) _ (s_asc O P (n - 1) 1 (Nat.le_refl _) (Nat.le_of_eq e1) fun i j a b => no_two a b))
  obtain ⟨h1, h2, h3, h7⟩ := h
  rw [e1] at h2 h7
  by_cases q : (m == n) = true
  · rw [if_pos q]; exact ⟨h1, h2, P, h3⟩
  · rw [if_neg q]
    clear q
    by_cases q2 : m > 1
    · rw [if_pos q2]
      refine ⟨P.lt _ (Nat.lt_of_lt_of_le Nat.two_pos hn), P.lt _ (Nat.lt_of_lt_of_le (one_lt h1) h2), ?_⟩
      (try dsimp only)
      rw [if_pos (h3 0 (m - 1) (Nat.sub_pos_of_lt q2) (one_lt h1))]
      exact ⟨h1, h2, P, h3⟩
    · rw [if_neg q2]
      obtain rfl : m = 1 := Nat.le_antisymm (Nat.le_of_not_lt q2) h1
      have hd := h7 hn
      clear q2 h1 h2 h3 h7 e1
      unfold kas_descPart
      refine SOk.bind _ (SOk.mono (fun r h => ?_) _ (s_desc O P (n - (1 + 1)) (1 + 1) (by decide) (Nat.le_of_eq (Nat.add_sub_cancel' hn)) (SDsc.snoc O (Nat.le_refl 1) (fun i j a b => no_two a b) hd)))
      obtain ⟨p', m, z⟩ := r
      obtain ⟨h4, h8, h4', h5, h6⟩ := h
      dsimp only at h4 h8 h4' h5 h6 ⊢
      subst h4 h8
      rw [if_neg (Nat.lt_irrefl 0)]
      unfold kas_tail3
      have h1 : 1 ≤ m := Nat.le_of_succ_le h4'
      have e2 : m + (n - m) = n := Nat.add_sub_cancel' (Nat.le_trans h5 (Nat.le_of_eq (Nat.add_sub_cancel' hn)))
      exact SOk.bind _ (SOk.mono (fun m' h => ⟨Nat.le_trans h1 h.1, Nat.le_trans h.2.1 (Nat.le_of_eq e2), rev_pm P, h.2.2.1⟩) _ (s_asc O (rev_pm P (m := m)) (n - m) m h1 (Nat.le_of_eq e2) (rev_asc P (e2 ▸ Nat.le_add_right m _) h6)))

theorem mid_is {l r : Nat} (h : l < r) : l ≤ (l + r) / 2 ∧ (l + r) / 2 < r :=
  ⟨(Nat.le_div_iff_mul_le Nat.two_pos).mpr (Nat.le_trans (Nat.le_of_eq (Nat.mul_two l)) (Nat.add_le_add_left (Nat.le_of_lt h) l)), Nat.div_lt_of_lt_mul (Nat.lt_of_lt_of_le (Nat.add_lt_add_right h r) (Nat.le_of_eq (Nat.two_mul r).symm))⟩
theorem s_place (O : SOrd n lt) (P : SPm n p) {k : Nat} (hk : k < n) (A : SAsc lt p k) : ∀ (f l r : Nat), l ≤ r → r ≤ k → r - l ≤ f → (∀ i, i < l → lt (p.getD i 0) (p.getD k 0) = true) → (∀ i, r ≤ i → i < k → lt (p.getD k 0) (p.getD i 0) = true) →
    SOk n lt (kas_place p k f l r) fun l' => l' ≤ k ∧ (∀ i, i < l' → lt (p.getD i 0) (p.getD k 0) = true) ∧ ∀ i, l' ≤ i → i < k → lt (p.getD k 0) (p.getD i 0) = true
  | 0, l, r, h1, h2, h3, a, b => ⟨Nat.le_trans h1 h2, a, fun i hi hik => b i (Nat.le_trans (Nat.le_of_sub_eq_zero (Nat.eq_zero_of_le_zero h3)) hi) hik⟩
  | f + 1, l, r, h1, h2, h3, a, b => by
    unfold kas_place
    by_cases q : l ≥ r
    · rw [if_pos q]; exact ⟨Nat.le_trans h1 h2, a, fun i hi hik => b i (Nat.le_trans q hi) hik⟩
    · rw [if_neg q]
      obtain ⟨m1, m2⟩ := mid_is (Nat.lt_of_not_le q)
      have mk : (l + r) / 2 < k := Nat.lt_of_lt_of_le m2 h2
      have mn := Nat.lt_trans mk hk
      refine ⟨P.lt _ hk, P.lt _ mn, ?_⟩
      cases c : lt (p.getD k 0) (p.getD ((l + r) / 2) 0) with
      | true =>
        refine s_place O P hk A f l ((l + r) / 2) m1 (Nat.le_of_lt mk) (Nat.le_of_lt_succ (Nat.lt_of_lt_of_le (Nat.sub_lt_sub_right m1 m2) h3)) a fun i hi hik => ?_
        by_cases e : i = (l + r) / 2
        · rw [e]; exact c
        · exact O.tr _ _ _ c (A _ _ (Nat.lt_of_le_of_ne hi (Ne.symm e)) hik)
      | false =>
        have c' := sdist O P hk mn (Nat.ne_of_gt mk) c
        refine s_place O P hk A f ((l + r) / 2 + 1) r m2 h2 (Nat.le_trans (Nat.sub_le_sub_left (Nat.succ_le_succ m1) r) (Nat.pred_le_pred h3)) (fun i hi => ?_) b
        by_cases e : i = (l + r) / 2
        · rw [e]; exact c'
        · exact O.tr _ _ _ (A _ _ (Nat.lt_of_le_of_ne (Nat.le_of_lt_succ hi) e) mk) c'
theorem bub_at (P : SPm n p) {k l : Nat} (hk : k < n) (hl : l ≤ k) (i : Nat) : (bubble p k (k - l)).getD i 0 = if i = l then p.getD k 0 else if l < i ∧ i ≤ k then p.getD (i - 1) 0 else p.getD i 0 := by
  rw [getD_opt, getElem?_bubble (by rw [P.size]; exact hk) _ (Nat.sub_le k l), Nat.sub_sub_self hl]
  by_cases q : i = l
  · rw [if_pos q, if_pos q, getD_opt]
  · rw [if_neg q, if_neg q]
    by_cases q2 : l < i ∧ i ≤ k
    · rw [if_pos q2, if_pos q2, getD_opt]
    · rw [if_neg q2, if_neg q2, getD_opt]
theorem bub_pm (P : SPm n p) {k l : Nat} : SPm n (bubble p k (k - l)) := ⟨List.Perm.trans (Array.perm_iff_toList_perm.mp (bubble_perm _ _ _)) P.perm⟩
theorem bub_asc (O : SOrd n lt) (P : SPm n p) {k l : Nat} (hk : k < n) (hl : l ≤ k) (A : SAsc lt p k) (a : ∀ i, i < l → lt (p.getD i 0) (p.getD k 0) = true) (b : ∀ i, l ≤ i → i < k → lt (p.getD k 0) (p.getD i 0) = true) : SAsc lt (bubble p k (k - l)) (k + 1) := fun i j hij hj => by
  have hjk : j ≤ k := Nat.le_of_lt_succ hj
  have hj1 : j - 1 < k := Nat.lt_of_lt_of_le (one_lt hij) hjk
  rw [bub_at P hk hl, bub_at P hk hl]
  rcases Nat.lt_trichotomy i l with q | q | q
  · rw [if_neg (Nat.ne_of_lt q), if_neg (fun h => Nat.lt_asymm q h.1)]
    rcases Nat.lt_trichotomy j l with r | r | r
    · rw [if_neg (Nat.ne_of_lt r), if_neg (fun h => Nat.lt_asymm r h.1)]; exact A _ _ hij (Nat.lt_of_lt_of_le r hl)
    · rw [if_pos r]; exact a _ q
    · rw [if_neg (Nat.ne_of_gt r), if_pos ⟨r, hjk⟩]; exact A _ _ (Nat.lt_of_lt_of_le q (Nat.le_sub_one_of_lt r)) hj1
  · subst q
    rw [if_pos rfl, if_neg (Nat.ne_of_gt hij), if_pos ⟨hij, hjk⟩]; exact b _ (Nat.le_sub_one_of_lt hij) hj1
  · have r := Nat.lt_trans q hij
    rw [if_neg (Nat.ne_of_gt q), if_pos ⟨q, Nat.le_trans (Nat.le_of_lt hij) hjk⟩, if_neg (Nat.ne_of_gt r), if_pos ⟨r, hjk⟩]
    exact A _ _ (Nat.sub_lt_sub_right (Nat.lt_of_le_of_lt (Nat.zero_le _) q) hij) hj1
theorem s_bin (O : SOrd n lt) : ∀ (f : Nat) (p : Array Nat) (k : Nat), SPm n p → k + f = n → SAsc lt p k → SOk n lt (kas_bin f p k) fun p' => SPm n p' ∧ SAsc lt p' n
  | 0, p, k, P, h, A => ⟨P, by rw [← h]; exact A⟩
  | f + 1, p, k, P, h, A => by
    have hk : k < n := lt_of_step (Nat.le_of_eq h)
    refine SOk.bind _ (SOk.mono (fun l q => ?_) _ (s_place O P hk A k 0 k (Nat.zero_le _) (Nat.le_refl _) (Nat.sub_le k 0) (fun i hi => absurd hi (Nat.not_lt_zero i)) fun i h1 h2 => absurd h1 (Nat.not_le_of_lt h2)))
    obtain ⟨q1, q2, q3⟩ := q
    exact s_bin O f _ (k + 1) (bub_pm P) ((Nat.add_right_comm k 1 f).trans h) (bub_asc O P hk q1 A q2 q3)
theorem s_range : SPm n (List.toArray (List.range n)) := ⟨List.Perm.refl _⟩
theorem s_sort (O : SOrd n lt) (hn : 2 ≤ n) : SOk n lt (kas_sort n) fun p' => SPm n p' ∧ SAsc lt p' n := by
  unfold kas_sort
  refine SOk.bind _ (SOk.mono (fun r q => ?_) _ (s_count O s_range hn))
  obtain ⟨q1, q2, q3, q4⟩ := q
  by_cases e : r.1 < n
  · rw [if_pos e, Nat.max_eq_left q1]
    exact s_bin O _ _ _ q3 (Nat.add_sub_cancel' (Nat.le_of_lt e)) q4
  · rw [if_neg e]
    obtain e : r.1 = n := Nat.le_antisymm q2 (Nat.le_of_not_lt e)
    rw [e] at q4
    exact ⟨q3, q4⟩
end

section
variable {w : World} {A : Around} {E : Value → Shared → Prop} {s : Shared} {b0 g h h1 h' : Heap} {outer : List Env} {L : Addr} {m : Str → Option Value} {news : List (Addr × Obj)} {W : List Addr} {ps : Array Value}

theorem tab_one {ps : List Value} (t : TriplesOk ps) {q : Str} {u : Tok} : ps[1]? ≠ some (.str q u) := by
  match ps, t with
  | [], _ => simp
  | .int a t :: .int b v :: x :: rest, _ => simp

theorem TabOk.hide (x : TabOk h ps) (hW : ∀ b ∈ W, ∃ o, h.get? b = some o ∧ ((∀ vs, o.data ≠ .fields vs) ∨ o = tabObj ps)) : TabOk (hideAll h W) ps := ⟨x.1, fun pos v e => by
  obtain ⟨c', e', q⟩ := x.2 pos v e
  refine ⟨c', e', ?_⟩
  obtain ⟨c₂, oc, vs, t, e2, hoc, hd, hv⟩ := q
  refine ⟨c₂, oc, vs, t, e2, hideAll_get _ hoc fun hm => ?_, hd, hv⟩
  obtain ⟨o, ho, hh⟩ := hW _ hm
  rw [hoc] at ho; cases ho
  rcases hh with hh | rfl
  · exact hh vs hd
  · cases hd
    exact tab_one x.1 (by rw [← hv]; simp)⟩

/-- the frame below, after a callee has turned frames' slots -/
theorem kept_down {name : Str} {scope : Scope} {a : Addr} {cd : Value} {cl : List (Str × Addr)} (B : Below A b0 outer g) (F : Fr g L h1 m) (k : Kept (frs (envX name scope L a cd cl :: outer)) W h1 h') (hW : ∀ b ∈ W, g.get? b = none ∧ b ≠ L) :
    Kept (frs outer) [] g h' ∧ Fr (over g h') L h' m ∧ Below A b0 outer (over g h') := by
  have nW : ∀ b o, g.get? b = some o → b ∉ W := fun b o q z => by rw [(hW b z).1] at q; cases q
  have gL : ∀ b o, g.get? b = some o → b ≠ L := fun b o q z => by rw [z, fr_self F] at q; cases q
  have kp : Kept (frs outer) [] g h' := ⟨fun b o q _ hb => k.same b o (F.keep b o q) (nW b o q) fun z => (mem_frs (L := L) rfl z).elim (gL b o q) hb,
    fun b o q _ hb => k.any (F.keep b o q) (nW b o q)⟩
  obtain ⟨oL, es, ep, hL, r⟩ := id F.ns
  have hLW : L ∉ W := fun z => (hW L z).2 rfl
  exact ⟨kp, over_fr F kp (ns_slots F.ns fun o ho => k.any ho hLW), over_below B kp⟩

theorem eq_pair {a b : Addr} {x : Str} {tx ty : Tok} {v u : Value} {d : PyData} {Q : Value → Shared → Prop} (ha : s.heap.get? a = some (tupObj [.str x tx, v])) (hb : s.heap.get? b = some (tupObj [.str x ty, u])) (fv : PyProof.V.Flat v d) (fu : PyProof.V.Flat u d) (hd : SeqAt.shaped d = true) (hd2 : d.depth = 0) (hx : PyData.strOk x = true)
    (hu : A.units + 64 < cLine) (h : Q (.bool true) s) : wpAny (model prg w) A (compareOp .Eq (.ref a) (.ref b)) Q E s := by
  have hs : SeqAt.shaped (.tuple [.str x, d]) = true := by
    have := SeqAt.canLay_of_shaped hd
    simp [SeqAt.shaped, PyData.canLay0, PyData.canLayAll0, this, PyData.depth, PyData.depthAll, hd2, hx]
  refine eq_dataH (da := .tuple [.str x, d]) (db := .tuple [.str x, d]) (reads_tuple_at ha rfl rfl (readsAll_cons_val (.str _ _) (readsAll_cons_val (fv _) .nil))) (reads_tuple_at hb rfl rfl (readsAll_cons_val (.str _ _) (readsAll_cons_val (fu _) .nil))) hs hs hu ?_
  rw [SeqAt.eqv_refl _ (SeqAt.canLay_of_shaped hs)]; exact h

/-- a value as data -/
def valData : Value → PyData
  | .int i _ => .int i
  | .str x _ => .str x
  | _ => .none
theorem val_flat {v : Value} (h : IsVal v) : PyProof.V.Flat v (valData v) := by
  rcases h with ⟨i, t, rfl⟩ | ⟨x, t, rfl, _⟩
  · exact PyProof.V.Flat.int _ _
  · exact PyProof.V.Flat.str _ _
theorem valData_shaped {v : Value} (h : ∀ x t, v = .str x t → PyData.strOk x = true) : SeqAt.shaped (valData v) = true := by
  cases v with
  | str x t => simp [valData, SeqAt.shaped, PyData.canLay0, PyData.depth, h x t rfl]
  | _ => simp [valData, SeqAt.shaped, PyData.canLay0, PyData.depth]
theorem valData_depth (v : Value) : (valData v).depth = 0 := by
  cases v <;> rfl
end

theorem words_final_m_9 : True := by
  k_with "m_mut" => first | exact ST.m_vd _ | exact ST.m_kd _ | exact ST.m_ad _ | exact ST.m_bd _ | exact ST.m_211 _ | exact ST.i_st _ | exact ST.i_sd _ | exact ST.i_rd _ | exact List.mem_append_left _ (ST.m_vd _) | exact List.mem_append_left _ (ST.m_kd _) | exact List.mem_append_left _ (ST.m_ad _) | exact List.mem_append_left _ (ST.m_bd _) | exact List.mem_append_left _ (ST.m_211 _) | exact List.mem_append_right _ (ST.i_st _) | exact List.mem_append_right _ (ST.i_sd _) | exact List.mem_append_right _ (ST.i_rd _)
  k_with "call ref" => (k_here; (with_reducible show wpAny _ _ (call (Value.ref 160) _) _ _ _); k_dflt (refine' wpAny_call (law_names_spec ?zzG ?zzH ?_); (case zzG => assumption); (case zzH => walk_at "m_at")); intro h' tk' l' vs' hk' hn' hl' hv'; (replace hv' : NameList vs' := hv'); refine made_kpK (by assumption) (by assumption) hk' hn' hl' ?_; intro F' N' l1; (have lA' := l1); (simp only [AllNe, and_true] at l1); (revert h' tk' l' vs' hk' hn' hl' hv' lA' F' N' l1; intros); (try dsimp only); (try k_sweep))
  k_with "call ref" => (k_here; (with_reducible show wpAny _ _ (call (Value.ref 174) [Value.int _ _]) _ _ _); k_dflt (refine' wpAny_call (law_value_spec ?zzG ?zzH ?_); (case zzG => assumption); (case zzH => walk_at "m_at")); intro h' tk' v' hk' hv' hok'; (have F' := Fr.kp (by assumption) hk'); (have N' := News.kp (by assumption) hk'); (revert h' tk' v' hk' hv' hok' F' N'; intros); (try dsimp only); (try k_sweep))
  k_with "call ref" => (k_here; (with_reducible show wpAny _ _ (call (Value.ref 181) [Value.str _ _, _]) _ _ _); k_dflt (refine' wpAny_call (law_fits_spec ?zzG ?zzH ?zzx ?zzv ?_); (case zzG => assumption); (case zzH => walk_at "m_at"); (case zzx => assumption); (case zzv => assumption)); intro h' tk' tv' hk'; (have F' := Fr.kp (by assumption) hk'); (have N' := News.kp (by assumption) hk'); (revert h' tk' tv' hk' F' N'; intros); (try dsimp only); (try k_sweep))
  k_with "call ref" => (k_here; (with_reducible show wpAny _ _ (call (Value.ref 188) [Value.int _ _]) _ _ _); k_dflt (refine' wpAny_call (law_spots_spec ?zzG ?zzH ?_); (case zzG => assumption); (case zzH => walk_at "m_at")); intro h' tk' l' vs' is' hk' hn' hl' hi' hb' hc' hs'; refine made_kpK (by assumption) (by assumption) hk' hn' hl' ?_; intro F' N' l1; (have lA' := l1); (simp only [AllNe, and_true] at l1); (revert h' tk' l' vs' is' hk' hn' hl' hi' hb' hc' hs' lA' F' N' l1; intros); (try dsimp only); (try k_sweep))
  k_with "call ref" => (k_here; (with_reducible show wpAny _ _ (call (Value.ref 195) [Value.int _ _]) _ _ _); k_dflt (refine' wpAny_call (law_bounds_spec ?zzG ?zzH ?_); (case zzG => assumption); (case zzH => walk_at "m_at")); intro h' tk' l' vs' is' hk' hn' hl' hi' hb' hc'; refine made_kpK (by assumption) (by assumption) hk' hn' hl' ?_; intro F' N' l1; (have lA' := l1); (simp only [AllNe, and_true] at l1); (revert h' tk' l' vs' is' hk' hn' hl' hi' hb' hc' lA' F' N' l1; intros); (try dsimp only); (try k_sweep))
  k_with "subscriptTail" => (k_here; (with_reducible show wpAny _ _ (subscriptTail _ _ (Value.ref _) (Value.int (Int.fmod _ _) _)) _ _ _); k_dflt (refine' sub_names ?zzg ?zzi ?zza ?zzb ?_; (case zzg => walk_at "m_get"); (case zzi => assumption); (case zza => exact Int.fmod_nonneg_of_pos _ (by first | decide | omega)); (case zzb => exact Int.fmod_lt_of_pos _ (by first | decide | omega))); intro _ _ _)
  k_with "eval Lambda" => (k_here; k_dflt (refine' lambda_led ?zzF ?zzN ?zzT ?zzC ?zzK ?zzU ?zzq ?zzd ?zzc ?_; (case zzF => assumption); (case zzN => assumption); (case zzT => assumption); (case zzC => assumption); (case zzK => assumption); (case zzU => k_updF); (case zzq => exact rfl); (case zzd => exact rfl); (case zzc => exact rfl)); intro f' x' ox' c' ctv' ps' h' tk' F' N' tabK' l1 l2; (try dsimp only at N'); (try (have lA' := allLt_of l1)); (try k_lt l1); (try (have lB' := allLt_of l2)); (try k_lt l2); (first | (revert f' x' ox' c' ctv' ps' h' tk' F' N' tabK' l1 l2 lA' lB'; intros) | (revert f' x' ox' c' ctv' ps' h' tk' F' N' tabK' l1 l2; intros)); (try k_sweep))
  k_with "eval Name" => (k_here; k_dflt (refine' name_free ?zzm ?zzc ?zzd ?_ ?zza ?zzb; (case zza => exact rfl); (case zzb => exact rfl); (case zzc => exact rfl); (case zzm => walk_at "m_get"); (case zzd => assumption)))
  k_with "unpackItems" => (k_here; (with_reducible show wpAny _ _ (unpackItems (Value.ref _) _ none) _ _ _); k_dflt (refine' unpackItemsN_ ?zzF ?zzN ?zzT ?zzk1 ?zzk2 ?_; (case zzF => assumption); (case zzN => assumption); (case zzT => exact isTup_get (by walk_at "m_get")); (case zzk1 => exact Rm.dh (by assumption)); (case zzk2 => exact rfl)); intro h' F' N'; (revert h' F' N'; intros); (try k_sweep); (try dsimp only))
  k_with "storeName" => (k_here; k_dflt (refine' storeX_C ?zzF ?zzN ?zzc ?zzU ?zzd ?_ ?zza ?zzb; (case zza => exact rfl); (case zzb => exact rfl); (case zzc => exact rfl); (case zzF => assumption); (case zzN => assumption); (case zzU => k_updF); (case zzd => assumption)); intro h' o' F' N' d'; (try dsimp only at N'); (revert h' o' F' N' d'; intros); (try k_sweep))
  k_with "eval Name" => (k_here; k_dflt (refine' nameX_C ?zzN ?zzc ?zzm ?zzd ?_ ?zza ?zzb; (case zza => exact rfl); (case zzb => exact rfl); (case zzN => assumption); (case zzc => exact rfl); (case zzm => k_mem); (case zzd => assumption)))
  trivial

/-- what a heard call leaves: its words, and where what it made is carried on -/
structure Carry (W : List Addr) (h0 hs h1 h' : Heap) : Prop where
  up : ∀ b o, h0.get? b = some o → hs.get? b = some o
  on : ∀ b o, h1.get? b = some o → (∀ vs, o.data ≠ .fields vs) → (b ∈ W ∨ hs.get? b = none) → h'.get? b = some o

section
variable {w : World} {loose : List Str} {mean : ExcName → Option Value} {mg mb : Str → Option Value} {b0 : Heap} {A : Around} {outer : List Env} {s : Shared} {R : Result → Shared → Prop} {t : Tok}

theorem heard_one (G : Gnd w loose mean mg mb b0) (H : At 14 b0 A outer s) {f : Addr} {fo : Obj} {fd : FuncData} (hf : s.heap.get? f = some fo) (hfd : fo.data = .func fd) {ws : List (Addr × Obj)} (hN : ∀ p ∈ ws, s.heap.get? p.1 = some p.2 ∧ b0.get? p.1 = none ∧ p.1 ∉ frs outer) (hfW : f ∉ ws.map (·.1))
    (PV : Value → Heap → Heap → Prop) (PE : Str → Heap → Heap → Prop)
    (work : ∀ A' outer' s' R', At 12 b0 A' outer' s' → (∀ b o, s.heap.get? b = some o → s'.heap.get? b = some o) → (∀ p ∈ ws, p.1 ∉ frs outer') →
      (∀ v h' tk, KeepW (ws.map (·.1)) s'.heap h' → PV v s'.heap h' → R' (.ok (.ret v)) { s' with heap := h', toks := tk }) →
      (∀ kind ea h' tk, Rsd b0 outer' (ws.map (·.1)) s'.heap h' ea kind → PE kind s'.heap h' → R' (.error (.ref ea)) { s' with heap := h', toks := tk }) → codeAny (model prg w) A' (.call (.ref f) ⟨[], []⟩) R' s')
    (k : ∀ h' tk tup x v tv, Kept (frs outer) (ws.map (·.1)) s.heap h' → h'.get? tup = some (tupObj [.str x tv, v]) → (∀ b o, s.heap.get? b = some o → b ∉ ws.map (·.1) → b ≠ tup) →
      ((x = "value" ∧ ∃ hs h1, PV v hs h1 ∧ Carry (ws.map (·.1)) s.heap hs h1 h') ∨ (x = "refused" ∧ ∃ kind tk2 hs h1, v = .str kind tk2 ∧ PE kind hs h1 ∧ Carry (ws.map (·.1)) s.heap hs h1 h')) →
      R (.ok (.ret (.ref tup))) { s with heap := h', toks := tk }) :
    codeAny (model prg w) A (.call (.ref 167) ⟨[.ref f], []⟩) R s := by
  refine law_heard_spec G H hf hfd hN hfW PV PE work ?_ ?_
  · intro v hs h1 h' tk tup tv q1 q2 q3 q4 q5 q6
    refine k h' tk tup _ v tv ⟨fun b o e hb _ => q4 b o (q2 b o (q1 b o e) hb), fun b o e hb _ => ⟨o.slots, q4 b o (q2 b o (q1 b o e) hb)⟩⟩ q6 (fun b o e hb z => ?_) (.inl ⟨rfl, hs, h1, q3, q1, fun b o e _ _ => q4 b o e⟩)
    have := q2 b o (q1 b o e) hb
    rw [z, q5] at this; cases this
  · intro kind hs h1 h' tk tup tv tk2 q1 q2 q3 q4 q5 q6
    exact k h' tk tup _ _ tv q3 q5 q6 (.inr ⟨rfl, kind, tk2, hs, h1, rfl, q2, q1, q4⟩)
end

section
variable {w : World} {loose : List Str} {mean : ExcName → Option Value} {mg mb : Str → Option Value} {b0 g h h' : Heap} {A : Around} {outer : List Env} {L a : Addr} {m : Str → Option Value} {news : List (Addr × Obj)} {name : Str} {scope : Scope} {cd : Value} {cl : List (Str × Addr)} {W : List Addr}
/-- the frame of the caller, behind a call that may have turned frames' slots -/
theorem heard_back (G : Gnd w loose mean mg mb b0) (B : Below A b0 outer g) (F : Fr g L h m) (N : News g L h news) (k : Kept (frs (envX name scope L a cd cl :: outer)) W h h') (hW : ∀ b ∈ W, g.get? b = none ∧ b ≠ L) :
    ∃ g', g' = over g h' ∧ Kept (frs outer) [] g h' ∧ Fr g' L h' m ∧ Below A b0 outer g' ∧ (hd.heap_39 w.params).In g' ∧ Top topProg loose mean mg mb g' ∧ (∀ p ∈ news, p.1 ∉ W → h'.get? p.1 = some p.2) ∧ (∀ p ∈ news, p.1 ≠ L ∧ g'.get? p.1 = none) := by
  obtain ⟨k1, k2, k3⟩ := kept_down B F k hW
  refine ⟨_, rfl, k1, k2, k3, G.X.keeps k3.stays, G.T.keeps k3.stays, fun p hp hw => k.same _ _ (N p hp).1 hw fun z => ?_, fun p hp => ⟨(N p hp).2.1, over_none (N p hp).2.2⟩⟩
  rcases mem_frs (L := L) rfl z with z | z
  · exact (N p hp).2.1 z
  · obtain ⟨o, ho⟩ := fun_in B.frames z
    rw [(N p hp).2.2] at ho; cases ho
theorem heard_backK (G : Gnd w loose mean mg mb b0) (B : Below A b0 outer g) (F : Fr g L h m) (N : News g L h news) (k : Kept (frs (envX name scope L a cd cl :: outer)) W h h') (hW : ∀ b ∈ W, g.get? b = none ∧ b ≠ L)
    {P : Prop} (x : Kept (frs outer) [] g h' → Fr (over g h') L h' m → Below A b0 outer (over g h') → (hd.heap_39 w.params).In (over g h') → Top topProg loose mean mg mb (over g h') → (∀ p ∈ news, p.1 ∉ W → h'.get? p.1 = some p.2) → (∀ p ∈ news, p.1 ≠ L ∧ (over g h').get? p.1 = none) → P) : P := by
  obtain ⟨_, rfl, a1, a2, a3, a4, a5, a6, a7⟩ := heard_back G B F N k hW
  exact x a1 a2 a3 a4 a5 a6 a7
end
section
variable {w : World} {A : Around} {E : Value → Shared → Prop} {s : Shared} {x : Str} {Q : Value → Shared → Prop} {T : Sem Value}
theorem join_nothing (_hx : x ∈ names4) (h : wpAny (model prg w) A T (fun v s' => IsNothing x v ∧ ∃ k, s' = { s with toks := k }) E s) (k : ∀ v tk, IsNothing x v → Q v { s with toks := tk }) : wpAny (model prg w) A T Q E s :=
  wpAny_mono h (fun _ _ h => let ⟨hp, tk, e⟩ := h; e ▸ k _ tk hp) fun _ _ e => e
end
section
variable {w : World} {A : Around} {E : Value → Shared → Prop} {s : Shared} {a b c : Int} {t u : Tok} {Q : Value → Shared → Prop}
theorem mod_known (h : a.fmod b = c) (hb : b ≠ 0) (hq : Q (.int c s.toks) { s with toks := s.toks + 1 }) : wpAny (model prg w) A (binaryOp .Mod (.int a t) (.int b u)) Q E s :=
  mod_int' hb (h ▸ hq)
end
theorem nm_3 {x a b c : Nat} (h : x ∉ [a, b, c]) : x ≠ a ∧ x ≠ b ∧ x ≠ c := ⟨fun z => h (z ▸ .head _), fun z => h (z ▸ .tail _ (.head _)), fun z => h (z ▸ .tail _ (.tail _ (.head _)))⟩
theorem ne_mem {x a : Nat} {l : List Nat} (h : x ∉ l) (m : a ∈ l) : x ≠ a := fun z => h (z ▸ m)
/-- the walk goes on where it would stop -/
def Go : Prop := True
theorem Rm.clear64 {n : Nat} {A : Around} {env : Env} (H : Rm n A) : (A.deeper env).units + 64 < cLine := by
  have hu := Nat.le_trans (Nat.le_add_right _ _) H.units
  show A.units + 3 + 64 < cLine
  exact Nat.lt_of_le_of_lt (Nat.add_le_add_right (Nat.add_le_add_right hu 3) 64) (by decide)
section
variable {g h h' : Heap} {L : Addr} {m : Str → Option Value} {news : List (Addr × Obj)} {W : List Addr} {tup : Addr} {o : Obj}
/-- the ledger behind a heard call -/
theorem heard_news (F : Fr g L h m) (nk : ∀ p ∈ news, p.1 ∉ W → h'.get? p.1 = some p.2) (nn : ∀ p ∈ news, p.1 ≠ L ∧ (over g h').get? p.1 = none) (hf : ∀ b o, h.get? b = some o → b ∉ W → b ≠ tup) (ht : h'.get? tup = some o) (hW : ∀ b ∈ W, g.get? b = none ∧ b ≠ L)
    {r : List (Addr × Obj)} (hr : ∀ p ∈ r, p ∈ news ∧ p.1 ∉ W) : News (over g h') L h' ((tup, o) :: r) := fun p hp => by
  rcases List.mem_cons.mp hp with rfl | hp
  · refine ⟨ht, fun z => ?_, ?_⟩
    · obtain ⟨oL, _, _, e, _⟩ := F.ns
      exact hf L oL e (fun q => (hW L q).2 rfl) z.symm
    · refine over_none ?_
      cases q : g.get? tup with
      | none => rfl
      | some o' => exact absurd rfl (hf tup o' (F.keep _ _ q) fun z => by rw [(hW _ z).1] at q; cases q)
  · exact ⟨nk p (hr p hp).1 (hr p hp).2, nn p (hr p hp).1⟩
end
theorem deed_kept {g h0 h5 h' : Heap} {L : Addr} {m : Str → Option Value} {W fs : List Addr} (hg : g = hideAll h0 W) (kp : Kept fs [] g h5) (F : Fr (over g h5) L h' m) : Kept fs W h0 h' := by
  have up : ∀ b o, h0.get? b = some o → b ∉ W → g.get? b = some o := fun b o e hb => by rw [hg]; exact hideAll_get _ e hb
  exact ⟨fun b o e hb hf => F.keep b o (over_get (up b o e hb) (kp.same b o (up b o e hb) (nm_nil _) hf)), fun b o e hb _ => by
    obtain ⟨sl, q⟩ := kp.any (up b o e hb) (nm_nil _)
    exact ⟨sl, F.keep b _ (over_get (up b o e hb) q)⟩⟩
theorem deed_ups {g h5 h' : Heap} {L : Addr} {m : Str → Option Value} {fs : List Addr} (kp : Kept fs [] g h5) (F : Fr (over g h5) L h' m) : UpS g h' := fun b o e => by
  obtain ⟨sl, q⟩ := kp.any e (nm_nil _)
  exact ⟨sl, F.keep b _ (over_get e q)⟩
theorem shaped_str {x : Str} (h : PyData.strOk x = true) : SeqAt.shaped (.str x) = true := by
  simp [SeqAt.shaped, PyData.canLay0, PyData.depth, h]
theorem ok_word (x : Str) (v : Value) : PyData.strOk (fitWord x v) = true := by
  unfold fitWord
  repeat' split
  all_goals decide +kernel

/-- dicts whose keys are tuples of ints -/
noncomputable abbrev tkn (w : World) : HeapKind prg w (List Int) := tupleKind (intKind prg w)

/-- an array: where its parts lie, its bounds, its items, what was written -/
structure AR where
  ta : Addr
  tb : Addr
  bl : Addr
  bl' : Addr
  its : Addr
  wd : Addr
  bs : List Int
  items : List Value
  wr : List (List Int × Addr × Value)

/-- it lies so -/
structure AR.Lies (w : World) (h : Heap) (r : AR) : Prop where
  ta : h.get? r.ta = some (tupObj [.ref r.bl, .ref r.its])
  bl : ∃ vs c, h.get? r.bl = some (listOf vs.toArray c) ∧ IntsAre vs r.bs
  its : ∃ c, h.get? r.its = some (listOf r.items.toArray c)
  tb : h.get? r.tb = some (tupObj [.ref r.bl', .ref r.wd])
  bl' : ∃ vs c, h.get? r.bl' = some (listOf vs.toArray c) ∧ IntsAre vs r.bs
  wd : h.DictOfH (tkn w) r.wd r.wr
  low : (r.wd == sysModules) = false

/-- what was written at a place -/
def writtenAt (bs : List Int) (wr : List (List Int × Addr × Value)) (p : Nat) : Option Value := (wr.find? fun e => decide ((placeOf bs e.1).toNat = p)).map (·.2.2)
/-- what holds of its contents -/
structure AR.Fits (x : Str) (r : AR) : Prop where
  few : r.bs.length ≤ 3
  bounds : ∀ b ∈ r.bs, 0 ≤ b ∧ b ≤ 1000
  many : manyOf r.bs ≤ 4096
  keys : ∀ e ∈ r.wr, placeWord r.bs e.1 = "" ∧ fitWord x e.2.2 = "" ∧ IsVal e.2.2 ∧ IsOk e.2.2
  length : (r.items.length : Int) = manyOf r.bs
  items : ∃ nv, IsNothing x nv ∧ ∀ p, p < r.items.length → r.items[p]? = some ((writtenAt r.bs r.wr p).getD nv)

/-- the store and the law's own books -/
structure ST where
  st : Addr
  sd : Addr
  vd : Addr
  ad : Addr
  rd : Addr
  kd : Addr
  bd : Addr
  sp : Int
  kvs : List (Str × Value)
  as : List (Str × AR)
  ps : Array Value
def ST.find (S : ST) (x : Str) : Option AR := (S.as.find? fun p => decide (p.1 = x)).map (·.2)
def ST.muts (S : ST) : List Addr := [S.vd, S.kd, S.ad, S.bd, 211] ++ S.as.flatMap fun p => [p.2.its, p.2.wd]
def ST.imms (S : ST) : List Addr := [S.st, S.sd, S.rd] ++ S.as.flatMap fun p => [p.2.ta, p.2.tb, p.2.bl, p.2.bl'] ++ p.2.wr.map (·.2.1)
def ST.kvA (S : ST) : List (Str × Value) := S.as.map fun p => (p.1, .ref p.2.ta)
def ST.kvB (S : ST) : List (Str × Value) := S.as.map fun p => (p.1, .ref p.2.tb)

structure ST.Ok (w : World) (h : Heap) (S : ST) : Prop where
  st : h.get? S.st = some (instObj 107 S.sd)
  sd : ∃ t1 t2 t3 t4 t5, h.get? S.sd = some (storeDict w S.vd S.ad S.rd S.sp t1 t2 t3 t4 t5)
  vd : ∃ o, h.get? S.vd = some o ∧ DictObj w S.vd o S.kvs
  kd : ∃ o, h.get? S.kd = some o ∧ DictObj w S.kd o S.kvs
  ad : ∃ o, h.get? S.ad = some o ∧ DictObj w S.ad o S.kvA
  bd : ∃ o, h.get? S.bd = some o ∧ DictObj w S.bd o S.kvB
  tab : h.get? 211 = some (tabObj S.ps) ∧ TabOk h S.ps
  vals : ∀ p ∈ S.kvs, p.1 ∈ names4 ∧ fitWord p.1 p.2 = "" ∧ IsVal p.2 ∧ IsOk p.2
  names : ∀ p ∈ S.as, p.1 ∈ names4
  lies : ∀ p ∈ S.as, p.2.Lies w h
  fits : ∀ p ∈ S.as, p.2.Fits p.1
  apart : S.muts.Nodup
  frozen : ∀ a ∈ S.imms, a ∉ S.muts
  spot : 0 ≤ S.sp ∧ S.sp ≤ 0
  rand : ∃ o, h.get? S.rd = some o

theorem names_few {l : List Str} (hn : l.Nodup) (h : ∀ x ∈ l, x ∈ names4) : l.length ≤ 4 := hn.length_le_of_subset (l₂ := names4) h

section
variable {w : World} {h h' : Heap} {S : ST} {x : Str} {r : AR}
theorem ST.Ok.few (O : S.Ok w h) : S.kvs.length ≤ 4 := by
  obtain ⟨o, _, D⟩ := O.vd
  have := names_few D.nodup fun x hx => by
    obtain ⟨p, hp, rfl⟩ := List.mem_map.mp hx
    exact (O.vals p hp).1
  simpa using this
theorem ST.Ok.nodup (O : S.Ok w h) : (S.as.map (·.1)).Nodup := by
  obtain ⟨o, _, D⟩ := O.ad
  have := D.nodup
  simpa [ST.kvA, List.map_map, Function.comp_def] using this
theorem ST.Ok.fewA (O : S.Ok w h) : S.as.length ≤ 4 := by
  have := names_few O.nodup fun x hx => by
    obtain ⟨p, hp, rfl⟩ := List.mem_map.mp hx
    exact O.names p hp
  simpa using this
theorem ST.kvA_len (S : ST) : S.kvA.length = S.as.length := List.length_map _
theorem ST.kvB_len (S : ST) : S.kvB.length = S.as.length := List.length_map _
theorem ST.valA (S : ST) (x : Str) : valueAt S.kvA x = (S.find x).map fun r => .ref r.ta := by
  unfold valueAt ST.find ST.kvA
  rw [List.find?_map]
  cases q : List.find? ((fun kv : Str × Value => decide (kv.1 = x)) ∘ fun p : Str × AR => (p.1, Value.ref p.2.ta)) S.as with
  | none => rw [show (S.as.find? fun p => decide (p.1 = x)) = none from q]; rfl
  | some p => rw [show (S.as.find? fun p => decide (p.1 = x)) = some p from q]; rfl
theorem ST.valB (S : ST) (x : Str) : valueAt S.kvB x = (S.find x).map fun r => .ref r.tb := by
  unfold valueAt ST.find ST.kvB
  rw [List.find?_map]
  cases q : List.find? ((fun kv : Str × Value => decide (kv.1 = x)) ∘ fun p : Str × AR => (p.1, Value.ref p.2.tb)) S.as with
  | none => rw [show (S.as.find? fun p => decide (p.1 = x)) = none from q]; rfl
  | some p => rw [show (S.as.find? fun p => decide (p.1 = x)) = some p from q]; rfl
theorem ST.mem_find (e : S.find x = some r) : (x, r) ∈ S.as := by
  unfold ST.find at e
  cases q : S.as.find? fun p => decide (p.1 = x) with
  | none => rw [q] at e; cases e
  | some p =>
    rw [q] at e; cases e
    have h1 := List.mem_of_find?_eq_some q
    have h2 := List.find?_some q
    have h2 : p.1 = x := by simpa using h2
    rw [← h2]; exact h1

/-- what changes nothing of it leaves it so -/
theorem AR.Lies.kp (X : r.Lies w h) (k : ∀ b o, h.get? b = some o → (∀ vs, o.data ≠ .fields vs) → h'.get? b = some o) : r.Lies w h' := by
  obtain ⟨v1, c1, e1, i1⟩ := X.bl
  obtain ⟨c2, e2⟩ := X.its
  obtain ⟨v3, c3, e3, i3⟩ := X.bl'
  obtain ⟨o, es, ep, d1, d2, d3, d4, d5, d6⟩ := X.wd
  refine ⟨k _ _ X.ta (fun _ z => by cases z), ⟨v1, c1, k _ _ e1 (fun _ z => by cases z), i1⟩, ⟨c2, k _ _ e2 (fun _ z => by cases z)⟩, k _ _ X.tb (fun _ z => by cases z), ⟨v3, c3, k _ _ e3 (fun _ z => by cases z), i3⟩, ⟨o, es, ep, k _ _ d1 (fun _ z => by rw [d3] at z; cases z), d2, d3, d4, fun y hy => ?_, d6⟩, X.low⟩
  obtain ⟨o', it, n, t1, t2, t3, t4⟩ := d5 y hy
  exact ⟨o', it, n, k _ _ t1 (fun _ z => by rw [t3] at z; cases z), t2, t3, t4⟩
end

section
variable {w : World} {loose : List Str} {mean : ExcName → Option Value} {mg mb : Str → Option Value} {b0 g h : Heap} {A : Around} {outer : List Env} {L : Addr} {m : Str → Option Value} {news : List (Addr × Obj)}
/-- to hide what is to change -/
theorem rebase (G : Gnd w loose mean mg mb b0) (B : Below A b0 outer g) (F : Fr g L h m) (N : News g L h news) {more : List (Addr × Obj)} (hm : ∀ p ∈ more, g.get? p.1 = some p.2 ∧ b0.get? p.1 = none ∧ p.1 ∉ frs outer) :
    ∃ g2, g2 = hideAll g (more.map (·.1)) ∧ Fr g2 L h m ∧ News g2 L h (more ++ news) ∧ Below A b0 outer g2 ∧ (hd.heap_39 w.params).In g2 ∧ Top topProg loose mean mg mb g2 := by
  have hst : b0.StaysIn (hideAll g (more.map (·.1))) := fun b o e => hideAll_get _ (B.stays b o e) fun q => by
    obtain ⟨p, hp, rfl⟩ := List.mem_map.mp q
    rw [(hm p hp).2.1] at e; cases e
  refine ⟨_, rfl, ⟨F.ns, fun b o e => F.keep b o (of_hideAll _ e), by rw [hideAll_size]; exact F.above⟩, fun p hp => ?_, ⟨B.stack, hst, funFrames_hideAll B.frames fun env he a ha q => ?_⟩, G.X.keeps hst, G.T.keeps hst⟩
  · rcases List.mem_append.mp hp with hp | hp
    · refine ⟨F.keep _ _ (hm p hp).1, fun z => ?_, hideAll_none _ (List.mem_map_of_mem hp)⟩
      have := (hm p hp).1
      rw [z, fr_self F] at this; cases this
    · refine ⟨(N p hp).1, (N p hp).2.1, ?_⟩
      cases q : (hideAll g (more.map (·.1))).get? p.1 with
      | none => rfl
      | some o => have := of_hideAll _ q; rw [(N p hp).2.2] at this; cases this
  · obtain ⟨p, hp, rfl⟩ := List.mem_map.mp ha
    exact (hm p hp).2.2 (List.mem_filterMap.mpr ⟨env, he, q⟩)
end

theorem ST.m_vd (S : ST) : S.vd ∈ S.muts := .head _
theorem ST.m_kd (S : ST) : S.kd ∈ S.muts := .tail _ (.head _)
theorem ST.m_ad (S : ST) : S.ad ∈ S.muts := .tail _ (.tail _ (.head _))
theorem ST.m_bd (S : ST) : S.bd ∈ S.muts := .tail _ (.tail _ (.tail _ (.head _)))
theorem ST.m_211 (S : ST) : 211 ∈ S.muts := .tail _ (.tail _ (.tail _ (.tail _ (.head _))))
theorem ST.i_st (S : ST) : S.st ∈ S.imms := .head _
theorem ST.i_sd (S : ST) : S.sd ∈ S.imms := .tail _ (.head _)
theorem ST.i_rd (S : ST) : S.rd ∈ S.imms := .tail _ (.tail _ (.head _))
theorem ST.four_mut {S : ST} {b : Addr} (hb : b ∈ [S.vd, S.kd, S.ad, S.bd]) : b ∈ S.muts := List.mem_append_left _ (List.mem_append_left [211] hb : b ∈ [S.vd, S.kd, S.ad, S.bd] ++ [211])
def AR.foot (r : AR) : List Addr := [r.ta, r.tb, r.bl, r.bl', r.its, r.wd] ++ r.wr.map (·.2.1)
section
variable {w : World} {h h' : Heap} {S : ST} {x : Str} {r : AR} {fs Wc : List Addr}
theorem AR.Lies.kpf (X : r.Lies w h) (k : ∀ b ∈ r.foot, ∀ o, h.get? b = some o → h'.get? b = some o) : r.Lies w h' := by
  obtain ⟨v1, c1, e1, i1⟩ := X.bl
  obtain ⟨c2, e2⟩ := X.its
  obtain ⟨v3, c3, e3, i3⟩ := X.bl'
  obtain ⟨o, es, ep, d1, d2, d3, d4, d5, d6⟩ := X.wd
  refine ⟨k _ (by simp [AR.foot]) _ X.ta, ⟨v1, c1, k _ (by simp [AR.foot]) _ e1, i1⟩, ⟨c2, k _ (by simp [AR.foot]) _ e2⟩, k _ (by simp [AR.foot]) _ X.tb, ⟨v3, c3, k _ (by simp [AR.foot]) _ e3, i3⟩, ⟨o, es, ep, k _ (by simp [AR.foot]) _ d1, d2, d3, d4, fun y hy => ?_, d6⟩, X.low⟩
  obtain ⟨o', it, n, t1, t2, t3, t4⟩ := d5 y hy
  exact ⟨o', it, n, k _ (List.mem_append_right _ (List.mem_map_of_mem hy)) _ t1, t2, t3, t4⟩
theorem ST.foot_mem {p : Str × AR} (hp : p ∈ S.as) {b : Addr} (hb : b ∈ p.2.foot) : b ∈ S.imms ∨ b = p.2.its ∨ b = p.2.wd := by
  unfold AR.foot at hb
  rcases List.mem_append.mp hb with hb | hb
  · simp only [List.mem_cons, List.not_mem_nil, or_false] at hb
    rcases hb with rfl | rfl | rfl | rfl | rfl | rfl
    · exact .inl (List.mem_append_right _ (List.mem_flatMap.mpr ⟨p, hp, by simp⟩))
    · exact .inl (List.mem_append_right _ (List.mem_flatMap.mpr ⟨p, hp, by simp⟩))
    · exact .inl (List.mem_append_right _ (List.mem_flatMap.mpr ⟨p, hp, by simp⟩))
    · exact .inl (List.mem_append_right _ (List.mem_flatMap.mpr ⟨p, hp, by simp⟩))
    · exact .inr (.inl rfl)
    · exact .inr (.inr rfl)
  · exact .inl (List.mem_append_right _ (List.mem_flatMap.mpr ⟨p, hp, List.mem_append_right _ hb⟩))
theorem ST.its_mut {p : Str × AR} (hp : p ∈ S.as) : p.2.its ∈ S.muts ∧ p.2.wd ∈ S.muts :=
  ⟨List.mem_append_right _ (List.mem_flatMap.mpr ⟨p, hp, by simp⟩), List.mem_append_right _ (List.mem_flatMap.mpr ⟨p, hp, by simp⟩)⟩
theorem ST.Ok.kp_arr (O : S.Ok w h) (kp : Kept fs Wc h h') (hWc : ∀ a ∈ Wc, a ∈ S.muts) (hfs : ∀ a ∈ S.muts ++ S.imms, a ∉ fs) {p : Str × AR} (hp : p ∈ S.as) (h1 : p.2.its ∉ Wc) (h2 : p.2.wd ∉ Wc) : p.2.Lies w h' := by
  refine (O.lies p hp).kpf fun b hb o e => ?_
  rcases ST.foot_mem hp hb with q | rfl | rfl
  · exact kp.same b o e (fun z => O.frozen b q (hWc b z)) (hfs b (List.mem_append_right _ q))
  · exact kp.same _ o e h1 (hfs _ (List.mem_append_left _ (ST.its_mut hp).1))
  · exact kp.same _ o e h2 (hfs _ (List.mem_append_left _ (ST.its_mut hp).2))
theorem ST.Ok.kp_imm (O : S.Ok w h) (kp : Kept fs Wc h h') (hWc : ∀ a ∈ Wc, a ∈ S.muts) (hfs : ∀ a ∈ S.muts ++ S.imms, a ∉ fs) {b : Addr} (hb : b ∈ S.imms) {o : Obj} (e : h.get? b = some o) : h'.get? b = some o :=
  kp.same b o e (fun z => O.frozen b hb (hWc b z)) (hfs b (List.mem_append_right _ hb))

/-- the store's changing objects lie apart, told one by one -/
theorem ST.Ok.nd (O : S.Ok w h) : (¬ S.vd = S.kd ∧ ¬ S.vd = S.ad ∧ ¬ S.vd = S.bd ∧ ¬ S.vd = 211 ∧ ∀ p ∈ S.as, ¬ S.vd = p.2.its ∧ ¬ S.vd = p.2.wd) ∧ (¬ S.kd = S.ad ∧ ¬ S.kd = S.bd ∧ ¬ S.kd = 211 ∧ ∀ p ∈ S.as, ¬ S.kd = p.2.its ∧ ¬ S.kd = p.2.wd) ∧
    (¬ S.ad = S.bd ∧ ¬ S.ad = 211 ∧ ∀ p ∈ S.as, ¬ S.ad = p.2.its ∧ ¬ S.ad = p.2.wd) ∧ (¬ S.bd = 211 ∧ ∀ p ∈ S.as, ¬ S.bd = p.2.its ∧ ¬ S.bd = p.2.wd) ∧ (∀ p ∈ S.as, ¬ 211 = p.2.its ∧ ¬ 211 = p.2.wd) ∧ (S.as.flatMap fun p => [p.2.its, p.2.wd]).Nodup := by
  have nd := O.apart
  simpa only [ST.muts, List.cons_append, List.nil_append, List.nodup_cons, List.mem_cons, not_or, List.mem_flatMap, not_exists, not_and, List.not_mem_nil, or_false] using nd
/-- nothing changed but the table of code -/
theorem ST.Ok.same (O : S.Ok w h) (kp : Kept fs [211] h h') (hfs : ∀ a ∈ S.muts ++ S.imms, a ∉ fs) {ps : Array Value} (ht : h'.get? 211 = some (tabObj ps)) (hk : TabOk h' ps) : ({ S with ps := ps } : ST).Ok w h' := by
  have hWc : ∀ a ∈ [211], a ∈ S.muts := fun a ha => by cases ha with | head => simp [ST.muts] | tail _ z => cases z
  have nd := O.nd
  have n211 : ∀ a, a ∈ [S.vd, S.kd, S.ad, S.bd] → a ∉ ([211] : List Addr) := fun a ha z => by
    simp only [List.mem_cons, List.not_mem_nil, or_false] at ha z
    rcases ha with rfl | rfl | rfl | rfl
    · exact nd.1.2.2.2.1 z
    · exact nd.2.1.2.2.1 z
    · exact nd.2.2.1.2.1 z
    · exact nd.2.2.2.1.1 z
  have n211' : ∀ p ∈ S.as, p.2.its ∉ ([211] : List Addr) ∧ p.2.wd ∉ ([211] : List Addr) := fun p hp => by
    have := nd.2.2.2.2.1 p hp
    exact ⟨fun z => by have z := List.mem_singleton.mp z; exact this.1 z.symm, fun z => by have z := List.mem_singleton.mp z; exact this.2 z.symm⟩
  have mt : ∀ a, a ∈ [S.vd, S.kd, S.ad, S.bd] → ∀ o, h.get? a = some o → h'.get? a = some o := fun a ha o e => kp.same a o e (n211 a ha) (hfs a (List.mem_append_left _ (ST.four_mut ha)))
  obtain ⟨t1, t2, t3, t4, t5, hsd⟩ := O.sd
  obtain ⟨o1, v1, v2⟩ := O.vd
  obtain ⟨o2, k1, k2⟩ := O.kd
  obtain ⟨o3, a1, a2⟩ := O.ad
  obtain ⟨o4, b1, b2⟩ := O.bd
  exact ⟨O.kp_imm kp hWc hfs (by walk_at "m_mut") O.st, ⟨t1, t2, t3, t4, t5, O.kp_imm kp hWc hfs (by walk_at "m_mut") hsd⟩, ⟨o1, mt _ (by simp) _ v1, v2⟩, ⟨o2, mt _ (by simp) _ k1, k2⟩, ⟨o3, mt _ (by simp) _ a1, a2⟩, ⟨o4, mt _ (by simp) _ b1, b2⟩,
    ⟨ht, hk⟩, O.vals, O.names, fun p hp => O.kp_arr kp hWc hfs hp (n211' p hp).1 (n211' p hp).2, O.fits, O.apart, O.frozen, O.spot, let ⟨o, e⟩ := O.rand; ⟨o, O.kp_imm kp hWc hfs (by walk_at "m_mut") e⟩⟩
theorem ST.Ok.five (O : S.Ok w h) : @Ne Nat S.vd 211 ∧ @Ne Nat S.kd 211 ∧ @Ne Nat S.ad 211 ∧ @Ne Nat S.bd 211 := by
  have nd := O.nd
  exact ⟨nd.1.2.2.2.1, nd.2.1.2.2.1, nd.2.2.1.2.1, nd.2.2.2.1.1⟩
theorem ST.Ok.vdkd (O : S.Ok w h) : @Ne Nat S.vd S.kd := by
  have nd := O.nd
  exact nd.1.1
theorem nothing_val {x : Str} {u : Value} (hu : IsNothing x u) : PyProof.V.Flat u (if isText x then .str "" else .int 0) ∧ SeqAt.shaped (if isText x then (.str "" : PyData) else .int 0) = true ∧ (if isText x then (.str "" : PyData) else .int 0).depth = 0 := by
  unfold IsNothing at hu
  split at hu
  · rename_i q
    obtain ⟨t, rfl⟩ := hu
    rw [if_pos q]
    exact ⟨PyProof.V.Flat.str _ _, shaped_str (by decide +kernel), rfl⟩
  · rename_i q
    obtain ⟨t, rfl⟩ := hu
    rw [if_neg q]
    exact ⟨PyProof.V.Flat.int _ _, by decide +kernel, rfl⟩
theorem mem_of_val {kvs : List (Str × Value)} {v : Value} (e : valueAt kvs x = some v) : (x, v) ∈ kvs := by
  unfold valueAt at e
  cases q : kvs.find? fun kv => decide (kv.1 = x) with
  | none => rw [q] at e; cases e
  | some p =>
    rw [q] at e; cases e
    have h1 := List.mem_of_find?_eq_some q
    have h2 := List.find?_some q
    have h2 : p.1 = x := by simpa using h2
    rw [← h2]; exact h1
theorem same_read (O : S.Ok w h) {u nv : Value} (_hx : x ∈ names4) (hu : valueAt S.kvs x = some u ∨ valueAt S.kvs x = none ∧ IsNothing x u) (hno : IsNothing x nv) :
    ∃ d, PyProof.V.Flat u d ∧ PyProof.V.Flat ((valueAt S.kvs x).getD nv) d ∧ SeqAt.shaped d = true ∧ d.depth = 0 := by
  rcases hu with e | ⟨e, hu⟩
  · rw [e]
    obtain ⟨_, _, h3, h4⟩ := O.vals _ (mem_of_val e)
    exact ⟨_, val_flat h3, val_flat h3, valData_shaped h4, valData_depth _⟩
  · rw [e]
    obtain ⟨a1, a2, a3⟩ := nothing_val hu
    obtain ⟨b1, _, _⟩ := nothing_val hno
    exact ⟨_, a1, b1, a2, a3⟩
end
theorem rebase_ne {g h : Heap} {L : Addr} {news : List (Addr × Obj)} {a : Addr} {o : Obj} (N : News g L h news) (e : g.get? a = some o) : AllNe a news := by
  induction news with
  | nil => trivial
  | cons p r ih => exact ⟨fun q => (by have := (N p (.head _)).2.2; rw [show p.1 = a from q, e] at this; cases this), ih fun q hq => N q (.tail _ hq)⟩
theorem deed_kept2 {g h0 h5 h' : Heap} {L : Addr} {m : Str → Option Value} {W fs : List Addr} (up : ∀ b o, h0.get? b = some o → b ∉ W → g.get? b = some o) (kp : Kept fs [] g h5) (F : Fr (over g h5) L h' m) : Kept fs W h0 h' :=
  ⟨fun b o e hb hf => F.keep b o (over_get (up b o e hb) (kp.same b o (up b o e hb) (nm_nil _) hf)), fun b o e hb _ => by
    obtain ⟨sl, q⟩ := kp.any (up b o e hb) (nm_nil _)
    exact ⟨sl, F.keep b _ (over_get (up b o e hb) q)⟩⟩
theorem news_cons {g h : Heap} {L a : Addr} {o : Obj} {r : List (Addr × Obj)} (e : h.get? a = some o) (n1 : a ≠ L) (n2 : g.get? a = none) (N : News g L h r) : News g L h ((a, o) :: r) := fun p hp => by
  rcases List.mem_cons.mp hp with rfl | hp
  · exact ⟨e, n1, n2⟩
  · exact N p hp
theorem mem_stored {kvs : List (Str × Value)} {x : Str} {v : Value} {p : Str × Value} (h : p ∈ stored kvs x v) : p ∈ kvs ∨ p = (x, v) := by
  unfold stored at h
  split at h
  · obtain ⟨q, hq, e⟩ := List.mem_map.mp h
    split at e
    · rename_i z; exact .inr (by rw [← e, z])
    · exact .inl (e ▸ hq)
  · rcases List.mem_append.mp h with h | h
    · exact .inl h
    · exact .inr (List.mem_singleton.mp h)
section
variable {w : World} {h h' : Heap} {S : ST} {x : Str} {v : Value} {fs : List Addr}
/-- what is apart from the three -/
theorem ST.Ok.apart3 (O : S.Ok w h) : (S.ad ∉ [S.kd, S.vd, 211] ∧ S.bd ∉ [S.kd, S.vd, 211]) ∧ ∀ p ∈ S.as, p.2.its ∉ [S.kd, S.vd, 211] ∧ p.2.wd ∉ [S.kd, S.vd, 211] := by
  have nd := O.nd
  obtain ⟨⟨a1, a2, a3, a4, a5⟩, ⟨b1, b2, b3, b4⟩, ⟨c1, c2, c3⟩, ⟨e1, e2⟩, f1, _⟩ := nd
  refine ⟨⟨?_, ?_⟩, fun p hp => ⟨?_, ?_⟩⟩
  · simp only [List.mem_cons, List.not_mem_nil, or_false, not_or]; exact ⟨fun z => b1 z.symm, fun z => a2 z.symm, c2⟩
  · simp only [List.mem_cons, List.not_mem_nil, or_false, not_or]; exact ⟨fun z => b2 z.symm, fun z => a3 z.symm, e1⟩
  · simp only [List.mem_cons, List.not_mem_nil, or_false, not_or]; exact ⟨fun z => (b4 p hp).1 z.symm, fun z => (a5 p hp).1 z.symm, fun z => (f1 p hp).1 z.symm⟩
  · simp only [List.mem_cons, List.not_mem_nil, or_false, not_or]; exact ⟨fun z => (b4 p hp).2 z.symm, fun z => (a5 p hp).2 z.symm, fun z => (f1 p hp).2 z.symm⟩
theorem ST.Ok.put (O : S.Ok w h) (kp : Kept fs [S.kd, S.vd, 211] h h') (hfs : ∀ a ∈ S.muts ++ S.imms, a ∉ fs) {ov ok : Obj} {kvs : List (Str × Value)} (hv : h'.get? S.vd = some ov) (hk : h'.get? S.kd = some ok) (Dv : DictObj w S.vd ov kvs) (Dk : DictObj w S.kd ok kvs)
    (hvals : ∀ p ∈ kvs, p.1 ∈ names4 ∧ fitWord p.1 p.2 = "" ∧ IsVal p.2 ∧ IsOk p.2) {ps : Array Value} (ht : h'.get? 211 = some (tabObj ps)) (htk : TabOk h' ps) : ({ S with kvs := kvs, ps := ps } : ST).Ok w h' := by
  have hWc : ∀ a ∈ [S.kd, S.vd, 211], a ∈ S.muts := List.forall_mem_cons.mpr ⟨S.m_kd, List.forall_mem_cons.mpr ⟨S.m_vd, List.forall_mem_singleton.mpr S.m_211⟩⟩
  obtain ⟨⟨na, nb⟩, nw⟩ := O.apart3
  obtain ⟨t1, t2, t3, t4, t5, hsd⟩ := O.sd
  obtain ⟨o3, a1, a2⟩ := O.ad
  obtain ⟨o4, b1, b2⟩ := O.bd
  exact ⟨O.kp_imm kp hWc hfs (by walk_at "m_mut") O.st, ⟨t1, t2, t3, t4, t5, O.kp_imm kp hWc hfs (by walk_at "m_mut") hsd⟩, ⟨_, hv, Dv⟩, ⟨_, hk, Dk⟩, ⟨o3, kp.same _ _ a1 na (hfs _ (by walk_at "m_mut")), a2⟩, ⟨o4, kp.same _ _ b1 nb (hfs _ (by walk_at "m_mut")), b2⟩,
    ⟨ht, htk⟩, hvals, O.names, fun p hp => O.kp_arr kp hWc hfs hp (nw p hp).1 (nw p hp).2, O.fits, O.apart, O.frozen, O.spot, let ⟨o, e⟩ := O.rand; ⟨o, O.kp_imm kp hWc hfs (by walk_at "m_mut") e⟩⟩
end

/-- one place ahead of another -/
def placeLt : List Int → List Int → Bool
  | a :: r, b :: r' => if a = b then placeLt r r' else decide (a < b)
  | [], _ :: _ => true
  | _, [] => false
theorem placeLt_irr : ∀ a : List Int, placeLt a a = false
  | [] => rfl
  | _ :: r => by rw [placeLt, if_pos rfl]; exact placeLt_irr r
theorem placeLt_tot : ∀ {a b : List Int}, a ≠ b → placeLt a b = true ∨ placeLt b a = true
  | [], [], h => absurd rfl h
  | [], _ :: _, _ => .inl rfl
  | _ :: _, [], _ => .inr rfl
  | x :: r, y :: r', h => by
    by_cases q : x = y
    · subst q
      rw [placeLt, placeLt, if_pos rfl, if_pos rfl]
      exact placeLt_tot fun e => h (by rw [e])
    · rw [placeLt, placeLt, if_neg q, if_neg (fun e => q e.symm)]
      simp only [decide_eq_true_eq]
      exact Int.lt_or_gt_of_ne q
theorem placeLt_tr : ∀ {a b c : List Int}, placeLt a b = true → placeLt b c = true → placeLt a c = true
  | [], [], _, h1, _ => by simp [placeLt] at h1
  | [], _ :: _, [], _, h2 => by simp [placeLt] at h2
  | [], _ :: _, _ :: _, _, _ => rfl
  | _ :: _, [], _, h1, _ => by simp [placeLt] at h1
  | _ :: _, _ :: _, [], _, h2 => by simp [placeLt] at h2
  | x :: r, y :: r', z :: r'', h1, h2 => by
    rw [placeLt] at h1 h2 ⊢
    by_cases q1 : x = y
    · rw [if_pos q1] at h1
      by_cases q2 : y = z
      · rw [if_pos q2] at h2
        rw [if_pos (q1.trans q2)]
        exact placeLt_tr h1 h2
      · rw [if_neg q2] at h2
        subst q1
        rw [if_neg q2]; exact h2
    · rw [if_neg q1] at h1
      simp only [decide_eq_true_eq] at h1
      by_cases q2 : y = z
      · subst q2; rw [if_neg q1]; exact decide_eq_true h1
      · rw [if_neg q2] at h2
        simp only [decide_eq_true_eq] at h2
        rw [if_neg (Int.ne_of_lt (Int.lt_trans h1 h2))]; exact decide_eq_true (Int.lt_trans h1 h2)

theorem spot_ok {b i : Int} {r : List (Int × Int)} (h : spotWord ((b, i) :: r) = "") : 0 ≤ i ∧ i ≤ b ∧ spotWord r = "" := by
  rw [spotWord] at h
  by_cases c1 : i < 0
  · rw [if_pos c1] at h; exact absurd h (by decide)
  · rw [if_neg c1] at h
    by_cases c2 : b < i
    · rw [if_pos c2] at h; exact absurd h (by decide)
    · rw [if_neg c2] at h
      exact ⟨Int.not_lt.mp c1, Int.not_lt.mp c2, h⟩
theorem place_ok {bs is : List Int} (h : placeWord bs is = "") : bs.length = is.length ∧ spotWord (bs.zip is) = "" := by
  unfold placeWord at h
  by_cases c : bs.length = is.length
  · rw [if_pos c] at h; exact ⟨c, h⟩
  · rw [if_neg c] at h; exact absurd h (by decide)
theorem fold_lt : ∀ {bs a b : List Int} {A1 A2 : Int}, bs.length = a.length → bs.length = b.length → spotWord (bs.zip a) = "" → spotWord (bs.zip b) = "" → A1 < A2 →
    (bs.zip a).foldl (fun a p => a * (p.1 + 1) + p.2) A1 < (bs.zip b).foldl (fun a p => a * (p.1 + 1) + p.2) A2
  | [], _, _, _, _, _, _, _, _, h => by simpa using h
  | _ :: _, [], _, _, _, h, _, _, _, _ => by simp at h
  | _ :: _, _ :: _, [], _, _, _, h, _, _, _ => by simp at h
  | n :: bs, x :: a, y :: b, A1, A2, h1, h2, h3, h4, h5 => by
    obtain ⟨p1, p2, p3⟩ := spot_ok h3
    obtain ⟨q1, q2, q3⟩ := spot_ok h4
    refine fold_lt (bs := bs) (a := a) (b := b) (A1 := A1 * (n + 1) + x) (A2 := A2 * (n + 1) + y) (by simpa using h1) (by simpa using h2) p3 q3 ?_
    show A1 * (n + 1) + x < A2 * (n + 1) + y
    have : (A1 + 1) * (n + 1) ≤ A2 * (n + 1) := Int.mul_le_mul_of_nonneg_right (Int.add_one_le_of_lt h5) (Int.le_add_one (Int.le_trans p1 p2))
    rw [Int.add_mul, Int.one_mul] at this
    exact Int.lt_of_lt_of_le (Int.add_lt_add_left (Int.lt_add_one_of_le p2) _) (Int.le_trans this (Int.le_add_of_nonneg_right q1))
theorem fold_mono : ∀ {bs a b : List Int} {A : Int}, bs.length = a.length → bs.length = b.length → spotWord (bs.zip a) = "" → spotWord (bs.zip b) = "" → placeLt a b = true →
    (bs.zip a).foldl (fun a p => a * (p.1 + 1) + p.2) A < (bs.zip b).foldl (fun a p => a * (p.1 + 1) + p.2) A
  | [], [], [], _, _, _, _, _, h => by simp [placeLt] at h
  | [], _ :: _, _, _, h, _, _, _, _ => by simp at h
  | [], [], _ :: _, _, _, h, _, _, _ => by simp at h
  | _ :: _, [], _, _, h, _, _, _, _ => by simp at h
  | _ :: _, _ :: _, [], _, _, h, _, _, _ => by simp at h
  | n :: bs, x :: a, y :: b, A, h1, h2, h3, h4, h5 => by
    obtain ⟨p1, p2, p3⟩ := spot_ok h3
    obtain ⟨q1, q2, q3⟩ := spot_ok h4
    rw [placeLt] at h5
    by_cases q : x = y
    · rw [if_pos q] at h5
      subst q
      exact fold_mono (bs := bs) (a := a) (b := b) (A := A * (n + 1) + x) (by simpa using h1) (by simpa using h2) p3 q3 h5
    · rw [if_neg q] at h5
      have h5 : x < y := by simpa using h5
      refine fold_lt (bs := bs) (a := a) (b := b) (A1 := A * (n + 1) + x) (A2 := A * (n + 1) + y) (by simpa using h1) (by simpa using h2) p3 q3 ?_
      exact Int.add_lt_add_left h5 _
/-- places in their order lie in their order -/
theorem place_mono {bs a b : List Int} (ha : placeWord bs a = "") (hb : placeWord bs b = "") (h : placeLt a b = true) : placeOf bs a < placeOf bs b := by
  obtain ⟨a1, a2⟩ := place_ok ha
  obtain ⟨b1, b2⟩ := place_ok hb
  exact fold_mono a1 b1 a2 b2 h
theorem place_inj {bs a b : List Int} (ha : placeWord bs a = "") (hb : placeWord bs b = "") (h : placeOf bs a = placeOf bs b) : a = b := by
  by_cases q : a = b
  · exact q
  · rcases placeLt_tot q with z | z
    · have := place_mono ha hb z; rw [h] at this; exact absurd this (Int.lt_irrefl _)
    · have := place_mono hb ha z; rw [h] at this; exact absurd this (Int.lt_irrefl _)
theorem place_nat {bs a b : List Int} (ha : placeWord bs a = "") (hb : placeWord bs b = "") (h : (placeOf bs a).toNat = (placeOf bs b).toNat) : a = b :=
  place_inj ha hb (by rw [← Int.toNat_of_nonneg (place_lt ha).1, h, Int.toNat_of_nonneg (place_lt hb).1])

theorem find_same {α : Type} {p q : α → Bool} : ∀ {l : List α}, (∀ x ∈ l, p x = q x) → l.find? p = l.find? q
  | [], _ => rfl
  | x :: r, h => by rw [List.find?_cons, List.find?_cons, h x (.head _), find_same fun y hy => h y (.tail _ hy)]
section
variable {bs : List Int} {wr : List (List Int × Addr × Value)} {k : List Int} {a : Addr} {v : Value} {x : Str} {r : AR}
theorem written_at (hk : ∀ e ∈ wr, placeWord bs e.1 = "") (hw : placeWord bs k = "") : writtenAt bs wr (placeOf bs k).toNat = (atKey wr k).map (·.2) := by
  unfold writtenAt atKey
  rw [find_same (q := fun e => decide (e.1 = k)) fun e he => ?_, Option.map_map]
  · rfl
  · by_cases q : e.1 = k
    · simp [q]
    · have : ¬ (placeOf bs e.1).toNat = (placeOf bs k).toNat := fun z => q (place_nat (hk e he) hw z)
      simp [q, this]
theorem atKey_mem {p : Addr × Value} (h : atKey wr k = some p) : (k, p) ∈ wr := by
  unfold atKey at h
  cases q : wr.find? fun x => decide (x.1 = k) with
  | none => rw [q] at h; cases h
  | some e =>
    rw [q] at h; cases h
    have h1 := List.mem_of_find?_eq_some q
    have h2 := List.find?_some q
    have h2 : e.1 = k := by simpa using h2
    rw [← h2]; exact h1
theorem written_put (hk : ∀ e ∈ wr, placeWord bs e.1 = "") (hw : placeWord bs k = "") (p : Nat) : writtenAt bs (storedH wr k a v) p = if p = (placeOf bs k).toNat then some v else writtenAt bs wr p := by
  have hat := written_at hk hw
  unfold storedH
  cases q : atKey wr k with
  | some z =>
    rw [q] at hat
    rw [if_pos (by rfl)]
    have e1 : writtenAt bs (wr.map (putAt k v)) p = ((wr.find? fun e => decide ((placeOf bs e.1).toNat = p)).map fun e => (putAt k v e).2.2) := by
      unfold writtenAt
      rw [List.find?_map, Option.map_map]
      rw [find_same (q := fun e => decide ((placeOf bs e.1).toNat = p)) fun e _ => ?_]
      · rfl
      · show decide ((placeOf bs (putAt k v e).1).toNat = p) = _
        unfold putAt; split <;> rfl
    rw [e1]
    by_cases c : p = (placeOf bs k).toNat
    · rw [if_pos c]
      subst c
      unfold writtenAt at hat
      cases f : wr.find? fun e => decide ((placeOf bs e.1).toNat = (placeOf bs k).toNat) with
      | none => rw [f] at hat; cases hat
      | some e =>
        have h1 := List.mem_of_find?_eq_some f
        have h2 := List.find?_some f
        have h2 : (placeOf bs e.1).toNat = (placeOf bs k).toNat := by simpa using h2
        have := place_nat (hk e h1) hw h2
        simp [putAt, this]
    · rw [if_neg c]
      unfold writtenAt
      cases f : wr.find? fun e => decide ((placeOf bs e.1).toNat = p) with
      | none => rfl
      | some e =>
        have h2 := List.find?_some f
        have h2 : (placeOf bs e.1).toNat = p := by simpa using h2
        have : ¬ e.1 = k := fun z => c (by rw [← h2, z])
        simp [putAt, this]
  | none =>
    rw [q] at hat
    rw [if_neg (by simp)]
    unfold writtenAt at hat ⊢
    rw [List.find?_append]
    by_cases c : p = (placeOf bs k).toNat
    · rw [if_pos c]
      subst c
      cases f : wr.find? fun e => decide ((placeOf bs e.1).toNat = (placeOf bs k).toNat) with
      | none => simp
      | some e => rw [f] at hat; cases hat
    · rw [if_neg c]
      cases f : wr.find? fun e => decide ((placeOf bs e.1).toNat = p) with
      | none =>
        have : ¬ (placeOf bs k).toNat = p := fun z => c z.symm
        simp [this]
      | some e => rfl
theorem stored_mem {e : List Int × Addr × Value} (h : e ∈ storedH wr k a v) : e ∈ wr ∨ (e.1 = k ∧ e.2.2 = v ∧ (e.2.1 = a ∨ ∃ u, (k, e.2.1, u) ∈ wr)) := by
  unfold storedH at h
  split at h
  · obtain ⟨y, hy, rfl⟩ := List.mem_map.mp h
    unfold putAt
    split
    · rename_i z
      refine .inr ⟨z, rfl, .inr ⟨y.2.2, ?_⟩⟩
      rw [← z]; exact hy
    · exact .inl hy
  · rcases List.mem_append.mp h with h | h
    · exact .inl h
    · cases List.mem_singleton.mp h
      exact .inr ⟨rfl, rfl, .inl rfl⟩

/-- a value is put at a place -/
def AR.put (r : AR) (k : List Int) (a : Addr) (v : Value) : AR := { r with items := r.items.set (placeOf r.bs k).toNat v, wr := storedH r.wr k a v }
theorem AR.Fits.put (X : r.Fits x) (hw : placeWord r.bs k = "") (hf : fitWord x v = "") (hv : IsVal v) (ho : IsOk v) : (r.put k a v).Fits x := by
  have hk : ∀ e ∈ r.wr, placeWord r.bs e.1 = "" := fun e he => (X.keys e he).1
  refine ⟨X.few, X.bounds, X.many, fun e he => ?_, ?_, ?_⟩
  · rcases stored_mem he with he | ⟨e1, e2, _⟩
    · exact X.keys e he
    · rw [e1, e2]; exact ⟨hw, hf, hv, ho⟩
  · show ((r.items.set _ v).length : Int) = _
    rw [List.length_set]; exact X.length
  · obtain ⟨nv, hn, hi⟩ := X.items
    refine ⟨nv, hn, fun p hp => ?_⟩
    have hp : p < r.items.length := by
      have hp : p < (r.items.set (placeOf r.bs k).toNat v).length := hp
      rwa [List.length_set] at hp
    show (r.items.set (placeOf r.bs k).toNat v)[p]? = some ((writtenAt r.bs (storedH r.wr k a v) p).getD nv)
    rw [written_put hk hw, List.getElem?_set]
    by_cases c : p = (placeOf r.bs k).toNat
    · rw [if_pos c.symm, if_pos c, if_pos (c ▸ hp)]; rfl
    · rw [if_neg fun z => c z.symm, if_neg c]; exact hi p hp
theorem AR.Fits.inside (X : r.Fits x) (hw : placeWord r.bs k = "") : 0 ≤ placeOf r.bs k ∧ (placeOf r.bs k).toNat < r.items.length :=
  ⟨(place_lt hw).1, toNat_lt4 (place_lt hw).1 (by rw [X.length]; exact (place_lt hw).2)⟩
theorem AR.Fits.at (X : r.Fits x) (hw : placeWord r.bs k = "") : ∃ v nv, IsNothing x nv ∧ r.items[(placeOf r.bs k).toNat]? = some v ∧ v = ((atKey r.wr k).map (·.2)).getD nv := by
  have hk : ∀ e ∈ r.wr, placeWord r.bs e.1 = "" := fun e he => (X.keys e he).1
  obtain ⟨nv, hn, hi⟩ := X.items
  have h2 := hi (placeOf r.bs k).toNat (X.inside hw).2
  rw [written_at hk hw] at h2
  exact ⟨_, nv, hn, h2, rfl⟩
theorem made_ok {ns : List Int} (h : madeWord ns = "") : (∀ n ∈ ns, 0 ≤ n) ∧ ns.length ≤ 3 ∧ manyOf ns ≤ 4096 := by
  unfold madeWord at h
  by_cases c : (ns.any fun b => decide (b < 0)) = true
  · rw [if_pos c] at h; exact absurd h (by decide)
  · rw [if_neg c] at h
    by_cases c2 : 3 < ns.length ∨ 4096 < manyOf ns
    · rw [if_pos c2] at h; exact absurd h (by decide)
    · refine ⟨fun n hn => ?_, Nat.le_of_not_lt fun z => c2 (.inl z), Int.not_lt.mp fun z => c2 (.inr z)⟩
      have c : (ns.any fun b => decide (b < 0)) = false := by simpa using c
      have := List.any_eq_false.mp c n hn
      simpa using this
theorem fits_new {ns : List Int} {nv : Value} {ta tb bl bl' its wd : Addr} (h : madeWord ns = "") (hs : ∀ n ∈ ns, n ≤ 1000) (hn : IsNothing x nv) :
    ({ ta := ta, tb := tb, bl := bl, bl' := bl', its := its, wd := wd, bs := ns, items := List.replicate (manyOf ns).toNat nv, wr := [] } : AR).Fits x := by
  obtain ⟨h1, h2, h3⟩ := made_ok h
  have h4 := many_pos h1
  refine ⟨h2, fun b hb => ⟨h1 b hb, hs b hb⟩, h3, (fun e he => nomatch he), ?_, nv, hn, fun p hp => ?_⟩
  · show ((List.replicate (manyOf ns).toNat nv).length : Int) = manyOf ns
    rw [List.length_replicate]; exact Int.toNat_of_nonneg (Int.le_trans (by decide) h4)
  · have hp : p < (List.replicate (manyOf ns).toNat nv).length := hp
    rw [List.length_replicate] at hp
    show (List.replicate (manyOf ns).toNat nv)[p]? = some nv
    exact List.getElem?_replicate_of_lt hp
end
section
variable {x : Str} {r : AR} {k : List Int}
theorem AR.Fits.at' (X : r.Fits x) (k : List Int) : ∃ v, placeWord r.bs k = "" → 0 ≤ placeOf r.bs k ∧ r.items[(placeOf r.bs k).toNat]? = some v ∧ ∃ nv, IsNothing x nv ∧ v = ((atKey r.wr k).map (·.2)).getD nv := by
  by_cases hw : placeWord r.bs k = ""
  · obtain ⟨v, nv, h1, h2, h3⟩ := X.at hw
    exact ⟨v, fun _ => ⟨(place_lt hw).1, h2, nv, h1, h3⟩⟩
  · exact ⟨.none, fun q => absurd q hw⟩
theorem AR.Fits.size (X : r.Fits x) : r.items.length ≤ 100000 := by
  have h := X.many
  rw [← X.length] at h
  exact Nat.le_trans (Int.ofNat_le.mp h) (by decide)
theorem same_elem (X : r.Fits x) {n0 nv : Value} (h0 : IsNothing x n0) (hn : IsNothing x nv) : ∃ d, PyProof.V.Flat (((atKey r.wr k).map (·.2)).getD n0) d ∧ PyProof.V.Flat (((atKey r.wr k).map (·.2)).getD nv) d ∧ SeqAt.shaped d = true ∧ d.depth = 0 := by
  cases q : atKey r.wr k with
  | none =>
    obtain ⟨a1, a2, a3⟩ := nothing_val h0
    obtain ⟨b1, _, _⟩ := nothing_val hn
    exact ⟨_, a1, b1, a2, a3⟩
  | some p =>
    obtain ⟨_, _, h3, h4⟩ := X.keys _ (atKey_mem q)
    exact ⟨_, val_flat h3, val_flat h3, valData_shaped h4, valData_depth _⟩
theorem ok_place (bs is : List Int) : PyData.strOk (placeWord bs is) = true := by
  have : ∀ l, PyData.strOk (spotWord l) = true := by
    intro l
    induction l with
    | nil => decide +kernel
    | cons p r ih =>
      obtain ⟨b, i⟩ := p
      unfold spotWord
      split
      · decide +kernel
      · split
        · decide +kernel
        · exact ih
  unfold placeWord
  split
  · exact this _
  · decide +kernel
theorem ok_made (ns : List Int) : PyData.strOk (madeWord ns) = true := by
  unfold madeWord
  repeat' split
  all_goals decide +kernel
end
section
variable {w : World} {A : Around} {E : Value → Shared → Prop} {s : Shared} {Q : Value → Shared → Prop} {T : Sem Value} {g : Heap} {L : Addr} {m : Str → Option Value} {news : List (Addr × Obj)}
theorem news_drop {h : Heap} {p q : Addr × Obj} (N : News g L h (p :: q :: news)) : News g L h (p :: news) := fun z hz => by
  rcases List.mem_cons.mp hz with e | hz
  · exact N z (e ▸ .head _)
  · exact N z (.tail _ (.tail _ hz))
/-- a pair, just made -/
def PairPost (g : Heap) (L : Addr) (m : Str → Option Value) (news : List (Addr × Obj)) (s : Shared) (P : Str → Value → Prop) (v : Value) (s' : Shared) : Prop :=
  ∃ D' h' tk a ta b, v = .ref D' ∧ s' = { s with heap := h', toks := tk } ∧ Fr g L h' m ∧ News g L h' ((D', tupObj [.str a ta, b]) :: news) ∧ AllLt D' news ∧ P a b
/-- two ways to a pair, one on -/
theorem join_pair (P : Str → Value → Prop) (_F : Fr g L s.heap m) (_N : News g L s.heap news) (h : wpAny (model prg w) A T (PairPost g L m news s P) E s)
    (k : ∀ D' h' tk a ta b, Fr g L h' m → News g L h' ((D', tupObj [.str a ta, b]) :: news) → AllLt D' news → P a b → Q (.ref D') { s with heap := h', toks := tk }) : wpAny (model prg w) A T Q E s :=
  wpAny_mono h (fun _ _ h => by
    obtain ⟨D', h', tk, a, ta, b, e1, e2, F, N, l, p⟩ := h
    subst e1 e2
    exact k D' h' tk a ta b F N l p) fun _ _ e => e
end

theorem flat_apart {α : Type} {f : α → List Addr} : ∀ {l : List α}, (l.flatMap f).Nodup → ∀ p ∈ l, ∀ q ∈ l, p ≠ q → ∀ a ∈ f p, a ∉ f q
  | [], _, _, hp, _, _, _, _, _ => nomatch hp
  | x :: r, hn, p, hp, q, hq, hne, a, ha => by
    rw [List.flatMap_cons, List.nodup_append] at hn
    obtain ⟨_, n2, n3⟩ := hn
    rcases List.mem_cons.mp hp with e1 | hp1
    · rcases List.mem_cons.mp hq with e2 | hq1
      · exact absurd (e1.trans e2.symm) hne
      · exact fun hb => n3 a (e1 ▸ ha) a (List.mem_flatMap.mpr ⟨q, hq1, hb⟩) rfl
    · rcases List.mem_cons.mp hq with e2 | hq1
      · exact fun hb => n3 a (e2 ▸ hb) a (List.mem_flatMap.mpr ⟨p, hp1, ha⟩) rfl
      · exact flat_apart n2 p hp1 q hq1 hne a ha
theorem name_one {α : Type} : ∀ {l : List (Str × α)}, (l.map (·.1)).Nodup → ∀ {x : Str} {a b : α}, (x, a) ∈ l → (x, b) ∈ l → a = b
  | [], _, _, _, _, h, _ => nomatch h
  | p :: r, hn, x, a, b, h1, h2 => by
    rw [List.map_cons, List.nodup_cons] at hn
    rcases List.mem_cons.mp h1 with e1 | m1 <;> rcases List.mem_cons.mp h2 with e2 | m2
    · have := e1.trans e2.symm; cases this; rfl
    · rw [← e1] at hn; exact absurd (List.mem_map.mpr ⟨_, m2, rfl⟩) hn.1
    · rw [← e2] at hn; exact absurd (List.mem_map.mpr ⟨_, m1, rfl⟩) hn.1
    · exact name_one hn.2 m1 m2
section
variable {w : World} {h h' : Heap} {S : ST} {x : Str} {r : AR} {fs : List Addr} {ps : Array Value} {a : Addr} {k : List Int} {v : Value}
theorem ST.Ok.there (O : S.Ok w h) (ha : a ∈ S.muts) : ∃ o, h.get? a = some o := by
  unfold ST.muts at ha
  rcases List.mem_append.mp ha with ha | ha
  · simp only [List.mem_cons, List.not_mem_nil, or_false] at ha
    rcases ha with rfl | rfl | rfl | rfl | rfl
    · obtain ⟨o, e, _⟩ := O.vd; exact ⟨o, e⟩
    · obtain ⟨o, e, _⟩ := O.kd; exact ⟨o, e⟩
    · obtain ⟨o, e, _⟩ := O.ad; exact ⟨o, e⟩
    · obtain ⟨o, e, _⟩ := O.bd; exact ⟨o, e⟩
    · exact ⟨_, O.tab.1⟩
  · obtain ⟨p, hp, ha⟩ := List.mem_flatMap.mp ha
    simp only [List.mem_cons, List.not_mem_nil, or_false] at ha
    rcases ha with rfl | rfl
    · obtain ⟨c, e⟩ := (O.lies p hp).its; exact ⟨_, e⟩
    · obtain ⟨o, es, ep, e, _⟩ := (O.lies p hp).wd; exact ⟨o, e⟩
theorem AR.Lies.there (X : r.Lies w h) (ha : a ∈ r.foot) : ∃ o, h.get? a = some o := by
  unfold AR.foot at ha
  rcases List.mem_append.mp ha with ha | ha
  · simp only [List.mem_cons, List.not_mem_nil, or_false] at ha
    rcases ha with rfl | rfl | rfl | rfl | rfl | rfl
    · exact ⟨_, X.ta⟩
    · exact ⟨_, X.tb⟩
    · obtain ⟨_, _, e, _⟩ := X.bl; exact ⟨_, e⟩
    · obtain ⟨_, _, e, _⟩ := X.bl'; exact ⟨_, e⟩
    · obtain ⟨c, e⟩ := X.its; exact ⟨_, e⟩
    · obtain ⟨o, es, ep, e, _⟩ := X.wd; exact ⟨o, e⟩
  · obtain ⟨y, hy, rfl⟩ := List.mem_map.mp ha
    obtain ⟨o, es, ep, d1, d2, d3, d4, d5, d6⟩ := X.wd
    obtain ⟨o', it, n, t1, _⟩ := d5 y hy
    exact ⟨o', t1⟩
theorem ST.Ok.there' (O : S.Ok w h) (ha : a ∈ S.imms) : ∃ o, h.get? a = some o := by
  unfold ST.imms at ha
  rcases List.mem_append.mp ha with ha | ha
  · simp only [List.mem_cons, List.not_mem_nil, or_false] at ha
    rcases ha with rfl | rfl | rfl
    · exact ⟨_, O.st⟩
    · obtain ⟨_, _, _, _, _, e⟩ := O.sd; exact ⟨_, e⟩
    · exact O.rand
  · obtain ⟨p, hp, ha⟩ := List.mem_flatMap.mp ha
    refine (O.lies p hp).there ?_
    unfold AR.foot
    rcases List.mem_append.mp ha with ha | ha
    · refine List.mem_append_left _ ?_
      simp only [List.mem_cons, List.not_mem_nil, or_false] at ha ⊢
      rcases ha with rfl | rfl | rfl | rfl <;> simp
    · exact List.mem_append_right _ ha
/-- what its addresses hold tells them apart -/
theorem AR.Lies.kinds (X : r.Lies w h) (h1 : r.its ≠ r.bl) (h2 : r.its ≠ r.bl') (ha : a ∈ [r.ta, r.tb, r.bl, r.bl'] ++ r.wr.map (·.2.1)) : a ≠ r.its ∧ a ≠ r.wd := by
  obtain ⟨v1, c1, e1, i1⟩ := X.bl
  obtain ⟨c2, e2⟩ := X.its
  obtain ⟨v3, c3, e3, i3⟩ := X.bl'
  have e4 := X.ta
  have e5 := X.tb
  obtain ⟨o, es, ep, d1, d2, d3, d4, d5, d6⟩ := X.wd
  have nl : ∀ {b : Addr} {it : Array Value} {c : Nat}, h.get? b = some (listOf it c) → b ≠ r.wd := fun e z => by
    rw [z, d1] at e; cases e; cases d3
  have nt : ∀ {b : Addr} {o' : Obj}, h.get? b = some o' → o'.cls = .type "tuple" → b ≠ r.its ∧ b ≠ r.wd := fun e hc => by
    refine ⟨fun z => ?_, fun z => ?_⟩
    · rw [z, e2] at e; cases e; exact absurd (show Value.type "list" = Value.type "tuple" from hc) (by decide)
    · rw [z, d1] at e; cases e; rw [d2.1] at hc; exact absurd hc (by decide)
  rcases List.mem_append.mp ha with ha | ha
  · simp only [List.mem_cons, List.not_mem_nil, or_false] at ha
    rcases ha with rfl | rfl | rfl | rfl
    · exact nt e4 rfl
    · exact nt e5 rfl
    · exact ⟨h1.symm, nl e1⟩
    · exact ⟨h2.symm, nl e3⟩
  · obtain ⟨y, hy, rfl⟩ := List.mem_map.mp ha
    obtain ⟨o', it, n, t1, t2, t3, t4⟩ := d5 y hy
    exact nt t1 t2
theorem AR.Lies.its_wd (X : r.Lies w h) : r.its ≠ r.wd := fun z => by
  obtain ⟨c2, e2⟩ := X.its
  obtain ⟨o, es, ep, d1, d2, d3, _⟩ := X.wd
  rw [z, d1] at e2; cases e2; cases d3

/-- the three that an array more turns -/
theorem ST.Ok.apart4 (O : S.Ok w h) : (S.vd ∉ [S.bd, S.ad, 211] ∧ S.kd ∉ [S.bd, S.ad, 211]) ∧ ∀ p ∈ S.as, p.2.its ∉ [S.bd, S.ad, 211] ∧ p.2.wd ∉ [S.bd, S.ad, 211] := by
  have nd := O.nd
  obtain ⟨⟨a1, a2, a3, a4, a5⟩, ⟨b1, b2, b3, b4⟩, ⟨c1, c2, c3⟩, ⟨e1, e2⟩, f1, _⟩ := nd
  refine ⟨⟨?_, ?_⟩, fun p hp => ⟨?_, ?_⟩⟩
  · exact nm_cons a3 (nm_cons a2 (nm_one a4))
  · exact nm_cons b2 (nm_cons b1 (nm_one b3))
  · exact nm_cons (fun z => (e2 p hp).1 z.symm) (nm_cons (fun z => (c3 p hp).1 z.symm) (nm_one fun z => (f1 p hp).1 z.symm))
  · exact nm_cons (fun z => (e2 p hp).2 z.symm) (nm_cons (fun z => (c3 p hp).2 z.symm) (nm_one fun z => (f1 p hp).2 z.symm))
theorem ST.Ok.flat (O : S.Ok w h) : (S.as.flatMap fun p => [p.2.its, p.2.wd]).Nodup := by
  exact O.nd.2.2.2.2.2
theorem ST.find_none (e : S.find x = none) : ∀ p ∈ S.as, p.1 ≠ x := fun p hp z => by
  unfold ST.find at e
  rw [Option.map_eq_none_iff, List.find?_eq_none] at e
  exact e p hp (by simpa using z)

theorem ST.Ok.adbd (O : S.Ok w h) : @Ne Nat S.ad S.bd := by
  have nd := O.nd
  exact nd.2.2.1.1
theorem ST.Ok.foot211 (O : S.Ok w h) (hr : (x, r) ∈ S.as) : ∀ b ∈ r.foot, b ≠ 211 := fun b hb z => by
  have nd := O.nd
  obtain ⟨_, _, _, _, f1, _⟩ := nd
  rcases ST.foot_mem (p := (x, r)) hr hb with q | q | q
  · exact O.frozen b q (by rw [z]; simp [ST.muts])
  · exact (f1 _ hr).1 (by rw [← z, q])
  · exact (f1 _ hr).2 (by rw [← z, q])
/-- an array more -/
def ST.more (S : ST) (x : Str) (r : AR) (ps : Array Value) : ST := { S with as := S.as ++ [(x, r)], ps := ps }
theorem more_muts : (S.more x r ps).muts = S.muts ++ [r.its, r.wd] := by
  simp [ST.more, ST.muts, List.flatMap_append]
theorem more_imms : (S.more x r ps).imms = S.imms ++ ([r.ta, r.tb, r.bl, r.bl'] ++ r.wr.map (·.2.1)) := by
  simp [ST.more, ST.imms, List.flatMap_append]
theorem ST.Ok.more (O : S.Ok w h) (hfs : ∀ a ∈ S.muts ++ S.imms, a ∉ fs) (kp : Kept fs [S.bd, S.ad, 211] h h') (hx : x ∈ names4) (hf : S.find x = none) {oa ob : Obj} (ha : h'.get? S.ad = some oa) (hb : h'.get? S.bd = some ob)
    (Da : DictObj w S.ad oa (stored S.kvA x (.ref r.ta))) (Db : DictObj w S.bd ob (stored S.kvB x (.ref r.tb))) (hl : r.Lies w h') (hfit : r.Fits x) (hnew : ∀ a ∈ r.foot, h.get? a = none) (h1 : r.its ≠ r.bl) (h2 : r.its ≠ r.bl')
    (ht : h'.get? 211 = some (tabObj ps)) (htk : TabOk h' ps) : (S.more x r ps).Ok w h' := by
  have hWc : ∀ a ∈ [S.bd, S.ad, 211], a ∈ S.muts := List.forall_mem_cons.mpr ⟨S.m_bd, List.forall_mem_cons.mpr ⟨S.m_ad, List.forall_mem_singleton.mpr S.m_211⟩⟩
  obtain ⟨⟨nv, nk⟩, nw⟩ := O.apart4
  obtain ⟨t1, t2, t3, t4, t5, hsd⟩ := O.sd
  obtain ⟨o1, v1, v2⟩ := O.vd
  obtain ⟨o2, k1, k2⟩ := O.kd
  have eA : (S.more x r ps).kvA = stored S.kvA x (.ref r.ta) := by
    rw [stored_new (by rw [ST.valA, hf]; rfl)]
    simp [ST.more, ST.kvA]
  have eB : (S.more x r ps).kvB = stored S.kvB x (.ref r.tb) := by
    rw [stored_new (by rw [ST.valB, hf]; rfl)]
    simp [ST.more, ST.kvB]
  have hm : ∀ p ∈ (S.more x r ps).as, p ∈ S.as ∨ p = (x, r) := fun p hp => by
    have hp : p ∈ S.as ++ [(x, r)] := hp
    rcases List.mem_append.mp hp with hp | hp
    · exact .inl hp
    · exact .inr (List.mem_singleton.mp hp)
  have f1 : r.its ∈ r.foot := by simp [AR.foot]
  have f2 : r.wd ∈ r.foot := by simp [AR.foot]
  have old : ∀ a, (∃ o, h.get? a = some o) → ∀ b ∈ r.foot, a ≠ b := fun a ⟨o, e⟩ b hb z => by rw [z, hnew b hb] at e; cases e
  refine ⟨O.kp_imm kp hWc hfs (b := S.st) (by walk_at "m_mut") O.st, ⟨t1, t2, t3, t4, t5, O.kp_imm kp hWc hfs (b := S.sd) (by walk_at "m_mut") hsd⟩, ⟨o1, kp.same S.vd _ v1 nv (hfs S.vd (by walk_at "m_mut")), v2⟩, ⟨o2, kp.same S.kd _ k1 nk (hfs S.kd (by walk_at "m_mut")), k2⟩, ⟨oa, ha, eA ▸ Da⟩, ⟨ob, hb, eB ▸ Db⟩,
    ⟨ht, htk⟩, O.vals, fun p hp => ?_, fun p hp => ?_, fun p hp => ?_, ?_, fun a hi => ?_, O.spot, ?_⟩
  · rcases hm p hp with hp | rfl
    · exact O.names p hp
    · exact hx
  · rcases hm p hp with hp | rfl
    · exact O.kp_arr kp hWc hfs hp (nw p hp).1 (nw p hp).2
    · exact hl
  · rcases hm p hp with hp | rfl
    · exact O.fits p hp
    · exact hfit
  · rw [more_muts, List.nodup_append]
    refine ⟨O.apart, ?_, fun a ha b hb => ?_⟩
    · simp only [List.nodup_cons, List.mem_cons, List.not_mem_nil, or_false, not_false_eq_true, List.nodup_nil, and_true]
      exact hl.its_wd
    · simp only [List.mem_cons, List.not_mem_nil, or_false] at hb
      rcases hb with rfl | rfl
      · exact old a (O.there ha) _ f1
      · exact old a (O.there ha) _ f2
  · rw [more_imms] at hi
    rw [more_muts]
    intro hmu
    rcases List.mem_append.mp hi with hi | hi
    · rcases List.mem_append.mp hmu with hmu | hmu
      · exact O.frozen a hi hmu
      · simp only [List.mem_cons, List.not_mem_nil, or_false] at hmu
        rcases hmu with z | z
        · exact old a (O.there' hi) _ f1 z
        · exact old a (O.there' hi) _ f2 z
    · rcases List.mem_append.mp hmu with hmu | hmu
      · refine old a (O.there hmu) a ?_ rfl
        unfold AR.foot
        rcases List.mem_append.mp hi with hi | hi
        · refine List.mem_append_left _ ?_
          simp only [List.mem_cons, List.not_mem_nil, or_false] at hi ⊢
          rcases hi with rfl | rfl | rfl | rfl <;> simp
        · exact List.mem_append_right _ hi
      · have := hl.kinds h1 h2 hi
        simp only [List.mem_cons, List.not_mem_nil, or_false] at hmu
        exact hmu.elim this.1 this.2
  · obtain ⟨o, e⟩ := O.rand
    exact ⟨o, O.kp_imm kp hWc hfs (b := S.rd) (by walk_at "m_mut") e⟩

/-- an array turned -/
def ST.turn (S : ST) (x : Str) (r : AR) (ps : Array Value) : ST := { S with as := S.as.map fun p => if p.1 = x then (x, r) else p, ps := ps }
theorem ST.Ok.one (O : S.Ok w h) (hm : S.find x = some r) {p : Str × AR} (hp : p ∈ S.as) (e : p.1 = x) : p = (x, r) := by
  obtain ⟨y, q⟩ := p
  dsimp only at e
  subst e
  rw [name_one O.nodup hp (ST.mem_find hm)]
theorem turn_muts (O : S.Ok w h) (hm : S.find x = some r) : (S.turn x (r.put k a v) ps).muts = S.muts := by
  unfold ST.muts ST.turn
  dsimp only
  rw [List.flatMap_map]
  refine congrArg _ ?_
  have : ∀ l : List (Str × AR), (∀ p ∈ l, p ∈ S.as) → (l.flatMap fun p => [(if p.1 = x then (x, r.put k a v) else p).2.its, (if p.1 = x then (x, r.put k a v) else p).2.wd]) = l.flatMap fun p => [p.2.its, p.2.wd] := by
    intro l
    induction l with
    | nil => intro _; rfl
    | cons p l ih =>
      intro hl
      rw [List.flatMap_cons, List.flatMap_cons, ih fun q hq => hl q (.tail _ hq)]
      by_cases e : p.1 = x
      · rw [if_pos e, O.one hm (hl p (.head _)) e]; rfl
      · rw [if_neg e]
  exact this S.as fun _ h => h
theorem turn_imms (O : S.Ok w h) (hm : S.find x = some r) {b : Addr} (hb : b ∈ (S.turn x (r.put k a v) ps).imms) : b ∈ S.imms ∨ b = a := by
  unfold ST.imms ST.turn at hb
  dsimp only at hb
  rcases List.mem_append.mp hb with hb | hb
  · exact .inl (List.mem_append_left _ hb)
  · obtain ⟨p', hp', hb⟩ := List.mem_flatMap.mp hb
    obtain ⟨p, hp, rfl⟩ := List.mem_map.mp hp'
    by_cases e : p.1 = x
    · rw [if_pos e] at hb
      have hr := ST.mem_find hm
      rcases List.mem_append.mp hb with hb | hb
      · exact .inl (List.mem_append_right _ (List.mem_flatMap.mpr ⟨_, hr, List.mem_append_left _ hb⟩))
      · obtain ⟨y, hy, rfl⟩ := List.mem_map.mp hb
        rcases stored_mem hy with hy | ⟨_, _, hy | ⟨u, hy⟩⟩
        · exact .inl (List.mem_append_right _ (List.mem_flatMap.mpr ⟨_, hr, List.mem_append_right _ (List.mem_map_of_mem hy)⟩))
        · exact .inr hy
        · exact .inl (List.mem_append_right _ (List.mem_flatMap.mpr ⟨_, hr, List.mem_append_right _ (List.mem_map.mpr ⟨_, hy, rfl⟩)⟩))
    · rw [if_neg e] at hb
      exact .inl (List.mem_append_right _ (List.mem_flatMap.mpr ⟨p, hp, hb⟩))
theorem ST.Ok.turn (O : S.Ok w h) (hfs : ∀ a ∈ S.muts ++ S.imms, a ∉ fs) (hm : S.find x = some r) (kp : Kept fs [r.its, r.wd, 211] h h') (hl : (r.put k a v).Lies w h') (hfit : (r.put k a v).Fits x) (hnew : h.get? a = none)
    (ht : h'.get? 211 = some (tabObj ps)) (htk : TabOk h' ps) : (S.turn x (r.put k a v) ps).Ok w h' := by
  have hr := ST.mem_find hm
  have hWc : ∀ a ∈ [r.its, r.wd, 211], a ∈ S.muts := fun a ha => by
    simp only [List.mem_cons, List.not_mem_nil, or_false] at ha
    rcases ha with rfl | rfl | rfl
    · exact (ST.its_mut hr).1
    · exact (ST.its_mut hr).2
    · simp [ST.muts]
  have nd := O.nd
  obtain ⟨⟨a1, a2, a3, a4, a5⟩, ⟨b1, b2, b3, b4⟩, ⟨c1, c2, c3⟩, ⟨e1, e2⟩, f1, _⟩ := nd
  have four : ∀ b ∈ [S.vd, S.kd, S.ad, S.bd], b ∉ [r.its, r.wd, 211] := List.forall_mem_cons.mpr ⟨nm_cons (a5 _ hr).1 (nm_cons (a5 _ hr).2 (nm_one a4)), List.forall_mem_cons.mpr ⟨nm_cons (b4 _ hr).1 (nm_cons (b4 _ hr).2 (nm_one b3)), List.forall_mem_cons.mpr ⟨nm_cons (c3 _ hr).1 (nm_cons (c3 _ hr).2 (nm_one c2)), List.forall_mem_singleton.mpr (nm_cons (e2 _ hr).1 (nm_cons (e2 _ hr).2 (nm_one e1)))⟩⟩⟩
  have mt : ∀ b, b ∈ [S.vd, S.kd, S.ad, S.bd] → ∀ o, h.get? b = some o → h'.get? b = some o := fun b hb o e => kp.same b o e (four b hb) (hfs b (List.mem_append_left _ (ST.four_mut hb)))
  obtain ⟨t1, t2, t3, t4, t5, hsd⟩ := O.sd
  obtain ⟨o1, v1, v2⟩ := O.vd
  obtain ⟨o2, k1, k2⟩ := O.kd
  obtain ⟨o3, a1', a2'⟩ := O.ad
  obtain ⟨o4, b1', b2'⟩ := O.bd
  have eA : (S.turn x (r.put k a v) ps).kvA = S.kvA := by
    unfold ST.kvA ST.turn
    dsimp only
    rw [List.map_map]
    refine List.map_congr_left fun p hp => ?_
    show ((if p.1 = x then (x, r.put k a v) else p).1, Value.ref (if p.1 = x then (x, r.put k a v) else p).2.ta) = _
    by_cases e : p.1 = x
    · rw [if_pos e, O.one hm hp e]; rfl
    · rw [if_neg e]
  have eB : (S.turn x (r.put k a v) ps).kvB = S.kvB := by
    unfold ST.kvB ST.turn
    dsimp only
    rw [List.map_map]
    refine List.map_congr_left fun p hp => ?_
    show ((if p.1 = x then (x, r.put k a v) else p).1, Value.ref (if p.1 = x then (x, r.put k a v) else p).2.tb) = _
    by_cases e : p.1 = x
    · rw [if_pos e, O.one hm hp e]; rfl
    · rw [if_neg e]
  have hmem : ∀ p ∈ (S.turn x (r.put k a v) ps).as, (p ∈ S.as ∧ p.1 ≠ x) ∨ p = (x, r.put k a v) := fun p' hp' => by
    obtain ⟨p, hp, rfl⟩ := List.mem_map.mp hp'
    by_cases e : p.1 = x
    · rw [if_pos e]; exact .inr rfl
    · rw [if_neg e]; exact .inl ⟨hp, e⟩
  refine ⟨O.kp_imm kp hWc hfs (b := S.st) (by walk_at "m_mut") O.st, ⟨t1, t2, t3, t4, t5, O.kp_imm kp hWc hfs (b := S.sd) (by walk_at "m_mut") hsd⟩, ⟨o1, mt S.vd (by simp) _ v1, v2⟩, ⟨o2, mt S.kd (by simp) _ k1, k2⟩, ⟨o3, mt S.ad (by simp) _ a1', eA ▸ a2'⟩, ⟨o4, mt S.bd (by simp) _ b1', eB ▸ b2'⟩,
    ⟨ht, htk⟩, O.vals, fun p hp => ?_, fun p hp => ?_, fun p hp => ?_, ?_, fun b hi => ?_, O.spot, ?_⟩
  · rcases hmem p hp with ⟨hp, _⟩ | rfl
    · exact O.names p hp
    · exact O.names (x, r) hr
  · rcases hmem p hp with ⟨hp, e⟩ | rfl
    · have ap := flat_apart O.flat p hp (x, r) hr fun z => e (by rw [z])
      have q1 := ap p.2.its (by simp)
      have q2 := ap p.2.wd (by simp)
      simp only [List.mem_cons, List.not_mem_nil, or_false, not_or] at q1 q2
      refine O.kp_arr kp hWc hfs hp ?_ ?_
      · simp only [List.mem_cons, List.not_mem_nil, or_false, not_or]; exact ⟨q1.1, q1.2, fun z => (f1 p hp).1 z.symm⟩
      · simp only [List.mem_cons, List.not_mem_nil, or_false, not_or]; exact ⟨q2.1, q2.2, fun z => (f1 p hp).2 z.symm⟩
    · exact hl
  · rcases hmem p hp with ⟨hp, _⟩ | rfl
    · exact O.fits p hp
    · exact hfit
  · rw [turn_muts O hm]; exact O.apart
  · rw [turn_muts O hm]
    rcases turn_imms O hm hi with hi | rfl
    · exact O.frozen b hi
    · intro hmu
      obtain ⟨o, e⟩ := O.there hmu
      rw [hnew] at e; cases e
  · obtain ⟨o, e⟩ := O.rand
    exact ⟨o, O.kp_imm kp hWc hfs (b := S.rd) (by walk_at "m_mut") e⟩
end

/-- an own dict with tuples of ints for keys -/
def WdObj (w : World) (o : Obj) (xs : List (List Int × Addr × Value)) : Prop := ∃ es ep, o.ExactDict ∧ o.data = .dict es ep ∧ es.toList = xs.map (entryOfKey (tkn w)) ∧ (xs.map (·.1)).Nodup
def KeysAt (w : World) (h : Heap) (xs : List (List Int × Addr × Value)) : Prop := ∀ x ∈ xs, (tkn w).is h x.1 x.2.1
section
variable {w : World} {h h' : Heap} {o : Obj} {d a : Addr} {xs : List (List Int × Addr × Value)} {is : List Int} {vs : List Value}
theorem wd_split (D : h.DictOfH (tkn w) d xs) : ∃ o, h.get? d = some o ∧ WdObj w o xs ∧ KeysAt w h xs := by
  obtain ⟨o, es, ep, d1, d2, d3, d4, d5, d6⟩ := D
  exact ⟨o, d1, ⟨es, ep, d2, d3, d4, d6⟩, d5⟩
theorem WdObj.at (D : WdObj w o xs) (ho : h.get? d = some o) (K : KeysAt w h xs) : h.DictOfH (tkn w) d xs := by
  obtain ⟨es, ep, d2, d3, d4, d6⟩ := D
  exact ⟨o, es, ep, ho, d2, d3, d4, K, d6⟩
theorem WdObj.nf (D : WdObj w o xs) : ∀ vs, o.data ≠ .fields vs := fun vs q => by obtain ⟨_, _, _, e, _⟩ := D; rw [q] at e; cases e
theorem KeysAt.kp (K : KeysAt w h xs) (k : ∀ x ∈ xs, ∀ o, h.get? x.2.1 = some o → h'.get? x.2.1 = some o) : KeysAt w h' xs := fun x hx => by
  obtain ⟨o, it, n, t1, t2⟩ := K x hx
  exact ⟨o, it, n, k x hx o t1, t2⟩
theorem wd_empty (D : DictObj w d o []) : WdObj w o [] := by
  obtain ⟨_, es, ep, d1, d2, _, d4, _⟩ := D
  refine ⟨es, ep, d1, d2, ?_, List.nodup_nil⟩
  cases q : es.toList with
  | nil => rfl
  | cons e r => rw [q] at d4; cases d4
theorem ints_key (i : IntsAre vs is) : ItemsAre (intKind prg w) is vs := by
  induction i with
  | nil => exact .nil
  | cons n t _ ih => exact .cons (intKind_is _ _ _ _) ih
theorem key_at (e : h.get? a = some (tupObj vs)) (i : IntsAre vs is) : (tkn w).is h is a := ⟨_, _, _, e, rfl, rfl, ints_key i⟩
end
section
variable {w : World} {A : Around} {E : Value → Shared → Prop} {s : Shared} {d a : Addr} {o : Obj} {xs : List (List Int × Addr × Value)} {k : List Int} {g : Heap} {L : Addr} {m : Str → Option Value} {news : List (Addr × Obj)} {news' : Obj → List (Addr × Obj)} {v : Value}
theorem wd_nodup (D : WdObj w o xs) : (xs.map (·.1)).Nodup := by
  obtain ⟨_, _, _, _, _, n⟩ := D
  exact n
theorem room1 {u : Nat} (h : u + 64 < cLine) : u + 1 < cLine := Nat.lt_of_le_of_lt (Nat.add_le_add_left (by decide) u) h
theorem get_method_wd {pl : Sem Bool} {Q : Value × List Value → Shared → Prop} (ho : s.heap.get? d = some o) (D : WdObj w o xs) (h : Q (.builtin "dict.get", [.ref d]) s) : wpAny (model prg w) A (getMethod (.ref d) "get" pl) Q E s := by
  obtain ⟨es, ep, d2, d3, d4, d6⟩ := D
  exact getMethod_builtin ⟨o, ho, d2.1⟩ PySem.F.plainAttrs_dict PySem.F.slot_dict_get PySem.F.type_dict_get (fun a e => by cases e; exact ⟨o, ho, d2.2.1⟩) h
theorem get_wd {dflt : Value} {Q : Value → Shared → Prop} (hu : A.units + 64 < cLine) (hd : (d == sysModules) = false) (ho : s.heap.get? d = some o) (D : WdObj w o xs) (K : KeysAt w s.heap xs) (hk : (tkn w).is s.heap k a) (h : ∀ tk, Q (((atKey xs k).map (·.2)).getD dflt) { s with toks := tk }) :
    wpAny (model prg w) A (call (.builtin "dict.get") [.ref d, .ref a, dflt]) Q E s :=
  call_meetsIn PySem.F.slot_dict_get (D.at ho K).typeIs PySem.F.entry_dict_get (PySem.F.args_dict_get_3 _ _ _) (meetsH_dict_get_default (tkn w) d a hd dflt) ⟨tupleKind_room_in1 (room1 hu), k, xs, hk, D.at ho K, h _⟩
theorem get_item_wd {p : Addr × Value} {value slice : PySem.Expr} {Q : Value → Shared → Prop} (hu : A.units + 64 < cLine) (ho : s.heap.get? d = some o) (D : WdObj w o xs) (K : KeysAt w s.heap xs) (hk : (tkn w).is s.heap k a) (hp : atKey xs k = some p) (h : ∀ tk, Q p.2 { s with toks := tk })
    (hs : subscripted slice false (.ref d) (.ref a) = operate [.ref d, .ref a] (getItem (.ref d) (.ref a)) := by with_unfolding_all rfl) : wpAny (model prg w) A (subscriptTail value slice (.ref d) (.ref a)) Q E s :=
  tail_any (D.at ho K).typeIs slot_dict_getitem.lookup (wpAny_getItem_heap (tupleKind_room_in1 (room1 hu)) hk (D.at ho K) hp (h _)) hs
theorem set_wd {Q : Unit → Shared → Prop} (hu : A.units + 64 < cLine) (F : Fr g L s.heap m) (N : News g L s.heap news) (U : UpdF d o news news') (D : WdObj w o xs) (K : KeysAt w s.heap xs) (hk : (tkn w).is s.heap k a) (hsz : xs.length ≤ 100000)
    (h : ∀ h' o' tk, Fr g L h' m → News g L h' (news' o') → WdObj w o' (storedH xs k a v) → Q () { s with heap := h', toks := tk }) :
    wpAny (model prg w) A (setItem (.ref d) (.ref a) v) Q E s := by
  obtain ⟨own, rest, rfl, hgr, h1, h2⟩ := U.split
  have hm := N (d, o) (List.mem_append_right _ (.head _))
  refine wpAny_setItem_heap (tupleKind_room_in1 (room1 hu)) hk (D.at hm.1 K) (fun h' hd hs => ?_) (line_le hsz)
  obtain ⟨o', ho', hi, _⟩ := wd_split hd
  refine h h' o' _ ⟨F.ns.sameBut hs hm.2.1.symm, fun b ob e => (hs.2 b fun q => ?_).trans (F.keep b ob e), F.above⟩ (hgr o' ▸ N.setAt h1 h2 hs ho') hi
  rw [q, hm.2.2] at e; cases e
end

theorem allNe_not {d : Nat} : ∀ {news : List (Addr × Obj)}, AllNe d news → ∀ p ∈ news, p.1 ∉ ([d] : List Addr)
  | [], _, _, h => nomatch h
  | q :: r, h, p, hp => by
    rcases List.mem_cons.mp hp with e | hp
    · rw [e]; exact nm_one h.1
    · exact allNe_not h.2 p hp
theorem none_up {h hs : Heap} {a : Addr} (up : ∀ b o, h.get? b = some o → hs.get? b = some o) (n : hs.get? a = none) : h.get? a = none := by
  cases q : h.get? a with
  | none => rfl
  | some o => rw [up a o q] at n; cases n
theorem fresh_s {h0 g h : Heap} {L a : Addr} {m : Str → Option Value} {W : List Addr} (up : ∀ b o, h0.get? b = some o → b ∉ W → g.get? b = some o) (F : Fr g L h m) (hW : ∀ b ∈ W, ∃ o, h.get? b = some o) (n : h.get? a = none) : h0.get? a = none := by
  cases q : h0.get? a with
  | none => rfl
  | some o =>
    by_cases hm : a ∈ W
    · obtain ⟨o', e⟩ := hW a hm; rw [n] at e; cases e
    · have := F.keep a o (up a o q hm); rw [n] at this; cases this
theorem not_L {g h : Heap} {L a : Addr} {m : Str → Option Value} (F : Fr g L h m) (n : h.get? a = none) : a ≠ L := fun z => by
  obtain ⟨o, _, _, e, _⟩ := F.ns
  rw [z, e] at n; cases n
theorem none_g {g h : Heap} {L a : Addr} {m : Str → Option Value} (F : Fr g L h m) (n : h.get? a = none) : g.get? a = none := none_up F.keep n
section
variable {w : World} {g h hs h5 : Heap} {L ad : Addr} {m : Str → Option Value} {kvs : List (Str × Value)} {x : Str} {n : Nat} {items : List Value}
/-- an array that a heard call made, in the ledger -/
theorem arr_led (X : ArrIs w hs h5 ad kvs x n items) (up : ∀ b o, h.get? b = some o → hs.get? b = some o) (F : Fr g L h m) (hga : g.get? ad = none) (haL : ad ≠ L) {r : List (Addr × Obj)} (R : News (over g h5) L h5 r) :
    ∃ tup its bl tb oa', DictObj w ad oa' (stored kvs x (.ref tup)) ∧ News (over g h5) L h5 ((tup, tupObj [.ref bl, .ref its]) :: (its, listOf items.toArray 0) :: (bl, listOf (List.replicate n (.int 10 tb)).toArray 0) :: (ad, oa') :: r) ∧ its ≠ bl ∧ h.get? tup = none ∧ h.get? its = none ∧ h.get? bl = none := by
  obtain ⟨tup, its, bl, tb, oa', q1, q2, q3, q4, q5, q6, q7, q8, q9, q10, q11⟩ := X
  have n6 := none_up up q6
  have n7 := none_up up q7
  have n8 := none_up up q8
  exact ⟨tup, its, bl, tb, oa', q2, news_cons q3 (not_L F n6) (over_none (none_g F n6)) (news_cons q5 (not_L F n7) (over_none (none_g F n7)) (news_cons q4 (not_L F n8) (over_none (none_g F n8)) (news_cons q1 haL (over_none hga) R))), q9, n6, n7, n8⟩
/-- an entry of the book, made by being asked, in the ledger -/
theorem ask_led {bd : Addr} {ob : Obj} {r : List (Addr × Obj)} {h2 : Heap} (X : BookAsk w h h2 bd kvs x n) (k : KeepW [bd] h h2) (F : Fr g L h m) (N : News g L h ((bd, ob) :: r)) (hne : AllNe bd r) :
    ∃ tup l wd tb ob' ow, DictObj w bd ob' (stored kvs x (.ref tup)) ∧ DictObj w wd ow [] ∧ Fr g L h2 m ∧ News g L h2 ((tup, tupObj [.ref l, .ref wd]) :: (wd, ow) :: (l, listOf (List.replicate n (.int 10 tb)).toArray 0) :: (bd, ob') :: r) ∧ h.get? tup = none ∧ h.get? wd = none ∧ h.get? l = none ∧ (AllNe tup r ∧ AllNe l r) ∧ AllNe wd r ∧ wd ≠ bd ∧ wd ≠ tup ∧ wd ≠ l := by
  obtain ⟨l, tb, ⟨tup, wd, ob', ow, q1, q2, q3, q4, q5, q6, q7, q8⟩, q9, q10⟩ := X
  have hN := (N (bd, ob) (.head _)).2
  have hW : ∀ b ∈ [bd], g.get? b = none ∧ b ≠ L := List.forall_mem_singleton.mpr ⟨hN.2, hN.1⟩
  have N0 : News g L h r := fun p hp => N p (.tail _ hp)
  refine ⟨tup, l, wd, tb, ob', ow, q2, q5, Fr.kpW F k hW, News.made F q6 q3 (News.made F q7 q4 (News.made F q10 q9 (News.old N (.head _) q1 (News.kpW N0 k (allNe_not hne))))), q6, q7, q10, ⟨allNe_of N0 q6, allNe_of N0 q10⟩, allNe_of N0 q7, fun z => ?_, fun z => q8 z.symm, fun z => ?_⟩
  · have := (N (bd, ob) (.head _)).1
    rw [← z, q7] at this; cases this
  · have := q5.nf
    rw [z, q9] at q4; cases q4
    obtain ⟨_, _, _, _, q, _⟩ := q5; cases q
end
section
variable {w : World} {h h' : Heap} {S : ST} {x : Str} {r : AR} {fs : List Addr} {ps : Array Value} {a : Addr} {k : List Int} {v : Value}
/-- where a deed leads -/
structure Led (w : World) (fs : List Addr) (h0 h' : Heap) (S S' : ST) : Prop where
  ok : S'.Ok w h'
  kept : Kept fs S.muts h0 h'
  muts : ∀ a ∈ S'.muts, a ∈ S.muts ∨ h0.get? a = none
  imms : ∀ a ∈ S'.imms, a ∈ S.imms ∨ h0.get? a = none
  load : ∀ c, (∀ p ∈ S.as, p.2.wr.length ≤ c) → ∀ p ∈ S'.as, p.2.wr.length ≤ c + 1
  core : S'.st = S.st ∧ S'.sd = S.sd ∧ S'.vd = S.vd ∧ S'.ad = S.ad ∧ S'.rd = S.rd ∧ S'.kd = S.kd ∧ S'.bd = S.bd ∧ S'.sp = S.sp
theorem stored_len {wr : List (List Int × Addr × Value)} : (storedH wr k a v).length ≤ wr.length + 1 := by
  unfold storedH
  split
  · rw [List.length_map]; exact Nat.le_succ _
  · rw [List.length_append]; exact Nat.le_refl _
theorem load_same : ∀ c, (∀ p ∈ S.as, p.2.wr.length ≤ c) → ∀ p ∈ S.as, p.2.wr.length ≤ c + 1 := fun _ h p hp => Nat.le_succ_of_le (h p hp)
theorem Kept.wide {fs W W' : List Addr} {h h' : Heap} (k : Kept fs W h h') (hW : ∀ a ∈ W, a ∈ W') : Kept fs W' h h' := ⟨fun b o e hb => k.same b o e fun z => hb (hW b z), fun b o e hb => k.slots b o e fun z => hb (hW b z)⟩
theorem led_new {oa ob ow : Obj} {ta tb bl bl' its wd : Addr} {ns : List Int} {items bvs bvs' : List Value} {wr : List (List Int × Addr × Value)} {c1 c2 c3 : Nat} (O : S.Ok w h) (hfs : ∀ a ∈ S.muts ++ S.imms, a ∉ fs) (kp : Kept fs [S.bd, S.ad, 211] h h') (hx : x ∈ names4) (hf : S.find x = none)
    (ha : h'.get? S.ad = some oa) (hb : h'.get? S.bd = some ob) (Da : DictObj w S.ad oa (stored S.kvA x (.ref ta))) (Db : DictObj w S.bd ob (stored S.kvB x (.ref tb))) (hta : h'.get? ta = some (tupObj [.ref bl, .ref its])) (hbl : h'.get? bl = some (listOf bvs.toArray c1)) (hbi : IntsAre bvs ns)
    (hits : h'.get? its = some (listOf items.toArray c2)) (htb : h'.get? tb = some (tupObj [.ref bl', .ref wd])) (hbl' : h'.get? bl' = some (listOf bvs'.toArray c3)) (hbi' : IntsAre bvs' ns) (hwd : h'.get? wd = some ow) (hW : WdObj w ow wr) (hK : KeysAt w h' wr) (hlow : (wd == sysModules) = false)
    (hfit : ({ ta := ta, tb := tb, bl := bl, bl' := bl', its := its, wd := wd, bs := ns, items := items, wr := wr } : AR).Fits x)
    (n1 : h.get? ta = none) (n2 : h.get? tb = none) (n3 : h.get? bl = none) (n4 : h.get? bl' = none) (n5 : h.get? its = none) (n6 : h.get? wd = none) (n7 : ∀ y ∈ wr, h.get? y.2.1 = none) (h1 : its ≠ bl) (h2 : its ≠ bl') (hlen : wr.length ≤ 1) (ht : h'.get? 211 = some (tabObj ps)) (htk : TabOk h' ps) :
    Led w fs h h' S (S.more x { ta := ta, tb := tb, bl := bl, bl' := bl', its := its, wd := wd, bs := ns, items := items, wr := wr } ps) := by
  have hnew : ∀ a ∈ ({ ta := ta, tb := tb, bl := bl, bl' := bl', its := its, wd := wd, bs := ns, items := items, wr := wr } : AR).foot, h.get? a = none := fun a ha => by
    unfold AR.foot at ha
    rcases List.mem_append.mp ha with ha | ha
    · simp only [List.mem_cons, List.not_mem_nil, or_false] at ha
      rcases ha with rfl | rfl | rfl | rfl | rfl | rfl <;> assumption
    · obtain ⟨y, hy, rfl⟩ := List.mem_map.mp ha
      exact n7 y hy
  refine ⟨O.more hfs kp hx hf ha hb Da Db ⟨hta, ⟨bvs, c1, hbl, hbi⟩, ⟨c2, hits⟩, htb, ⟨bvs', c3, hbl', hbi'⟩, hW.at hwd hK, hlow⟩ hfit hnew h1 h2 ht htk, kp.wide (fun a ha => ?_), fun a ha => ?_, fun a ha => ?_, fun c hc p hp => ?_, ⟨rfl, rfl, rfl, rfl, rfl, rfl, rfl, rfl⟩⟩
  · simp only [List.mem_cons, List.not_mem_nil, or_false] at ha
    rcases ha with rfl | rfl | rfl <;> simp [ST.muts]
  · rw [more_muts] at ha
    rcases List.mem_append.mp ha with ha | ha
    · exact .inl ha
    · refine .inr (hnew a ?_)
      simp only [List.mem_cons, List.not_mem_nil, or_false] at ha
      rcases ha with rfl | rfl <;> simp [AR.foot]
  · rw [more_imms] at ha
    rcases List.mem_append.mp ha with ha | ha
    · exact .inl ha
    · refine .inr (hnew a ?_)
      unfold AR.foot
      rcases List.mem_append.mp ha with ha | ha
      · refine List.mem_append_left _ ?_
        simp only [List.mem_cons, List.not_mem_nil, or_false] at ha ⊢
        rcases ha with rfl | rfl | rfl | rfl <;> simp
      · exact List.mem_append_right _ ha
  · rcases List.mem_append.mp hp with hp | hp
    · exact Nat.le_succ_of_le (hc p hp)
    · cases List.mem_singleton.mp hp
      exact Nat.le_trans hlen (Nat.succ_le_succ (Nat.zero_le _))
end
theorem kept_less {fs W : List Addr} {h h' : Heap} {a : Addr} {o : Obj} (k : Kept fs (a :: W) h h') (e : h.get? a = some o) (e' : h'.get? a = some o) : Kept fs W h h' :=
  ⟨fun b o1 q hb hf => by
    by_cases z : b = a
    · subst z; rw [e] at q; cases q; exact e'
    · exact k.same b o1 q (fun m => (List.mem_cons.mp m).elim z hb) hf, fun b o1 q hb hf => by
    by_cases z : b = a
    · subst z; rw [e] at q; cases q; exact ⟨o.slots, e'⟩
    · exact k.slots b o1 q (fun m => (List.mem_cons.mp m).elim z hb) hf⟩
theorem fresh_led {h0 g : Heap} {a : Addr} {W : List Addr} (up : ∀ b o, h0.get? b = some o → b ∉ W → g.get? b = some o) (n : g.get? a = none) (ha : a ∉ W) : h0.get? a = none := by
  cases q : h0.get? a with
  | none => rfl
  | some o => rw [up a o q ha] at n; cases n
/-- an array that dim made -/
def DimArr (w : World) (h0 h' : Heap) (ad : Addr) (kvs : List (Str × Value)) (x : Str) (l : Addr) (ns : List Int) : Prop :=
  ∃ tup its nv oa', IsNothing x nv ∧ h'.get? ad = some oa' ∧ DictObj w ad oa' (stored kvs x (.ref tup)) ∧ h'.get? tup = some (tupObj [.ref l, .ref its]) ∧ h'.get? its = some (listOf (List.replicate (manyOf ns).toNat nv).toArray 0) ∧ h0.get? tup = none ∧ h0.get? its = none
section
variable {w : World} {g h h0 hs h5 h' h'' : Heap} {L ad l : Addr} {m : Str → Option Value} {kvs : List (Str × Value)} {x : Str} {ns : List Int} {oa : Obj}
theorem DimArr.fwd (X : DimArr w h0 h' ad kvs x l ns) (k : ∀ b o, h'.get? b = some o → (∀ vs, o.data ≠ .fields vs) → (b = ad ∨ h0.get? b = none) → h''.get? b = some o) : DimArr w h0 h'' ad kvs x l ns := by
  obtain ⟨tup, its, nv, oa', q0, q1, q2, q3, q4, q5, q6⟩ := X
  exact ⟨tup, its, nv, oa', q0, k _ _ q1 q2.nf (.inl rfl), q2, k _ _ q3 (fun _ z => by cases z) (.inr q5), k _ _ q4 (fun _ z => by cases z) (.inr q6), q5, q6⟩
theorem dim_led (X : DimArr w hs h5 ad kvs x l ns) (up : ∀ b o, h.get? b = some o → hs.get? b = some o) (F : Fr g L h m) (hga : g.get? ad = none) (haL : ad ≠ L) {r : List (Addr × Obj)} (R : News (over g h5) L h5 r) :
    ∃ tup its nv oa', IsNothing x nv ∧ DictObj w ad oa' (stored kvs x (.ref tup)) ∧ News (over g h5) L h5 ((tup, tupObj [.ref l, .ref its]) :: (its, listOf (List.replicate (manyOf ns).toNat nv).toArray 0) :: (ad, oa') :: r) ∧ h.get? tup = none ∧ h.get? its = none := by
  obtain ⟨tup, its, nv, oa', q0, q1, q2, q3, q4, q5, q6⟩ := X
  have n6 := none_up up q5
  have n7 := none_up up q6
  exact ⟨tup, its, nv, oa', q0, q2, news_cons q3 (not_L F n6) (over_none (none_g F n6)) (news_cons q4 (not_L F n7) (over_none (none_g F n7)) (news_cons q1 haL (over_none hga) R)), n6, n7⟩
/-- an entry of the book, made by dim, in the ledger -/
theorem book_led {bd : Addr} {ob : Obj} {r : List (Addr × Obj)} {h2 : Heap} (X : BookNew w h h2 bd kvs x l) (k : KeepW [bd] h h2) (F : Fr g L h m) (N : News g L h r) (N1 : News g L h [(bd, ob)]) (hne : AllNe bd r) :
    ∃ tup wd ob' ow, DictObj w bd ob' (stored kvs x (.ref tup)) ∧ DictObj w wd ow [] ∧ Fr g L h2 m ∧ News g L h2 ((tup, tupObj [.ref l, .ref wd]) :: (wd, ow) :: (bd, ob') :: r) ∧ h.get? tup = none ∧ h.get? wd = none ∧ (AllNe tup r ∧ AllNe wd r) ∧ wd ≠ bd ∧ tup ≠ bd := by
  obtain ⟨tup, wd, ob', ow, q1, q2, q3, q4, q5, q6, q7, q8⟩ := X
  have hN := (N1 (bd, ob) (.head _)).2
  have hW : ∀ b ∈ [bd], g.get? b = none ∧ b ≠ L := List.forall_mem_singleton.mpr ⟨hN.2, hN.1⟩
  have e := (N1 (bd, ob) (.head _)).1
  refine ⟨tup, wd, ob', ow, q2, q5, Fr.kpW F k hW, News.made F q6 q3 (News.made F q7 q4 (News.old N1 (.head _) q1 (News.kpW N k (allNe_not hne)))), q6, q7, ⟨allNe_of N q6, allNe_of N q7⟩, fun z => ?_, fun z => ?_⟩
  · rw [← z, q7] at e; cases e
  · rw [← z, q6] at e; cases e
end
section
variable {w : World} {A : Around} {E : Value → Shared → Prop} {s : Shared} {Q : Value → Shared → Prop} {T : Sem Value} {g : Heap} {L : Addr} {m : Str → Option Value} {news : List (Addr × Obj)}
/-- a word -/
def WordPost (g : Heap) (L : Addr) (m : Str → Option Value) (news : List (Addr × Obj)) (s : Shared) (word : Str) (v : Value) (s' : Shared) : Prop :=
  ∃ h' tk tb, v = .str word tb ∧ s' = { s with heap := h', toks := tk } ∧ Fr g L h' m ∧ News g L h' news
theorem join_word (word : Str) (_F : Fr g L s.heap m) (_N : News g L s.heap news) (h : wpAny (model prg w) A T (WordPost g L m news s word) E s)
    (k : ∀ h' tk tb, Fr g L h' m → News g L h' news → Q (.str word tb) { s with heap := h', toks := tk }) : wpAny (model prg w) A T Q E s :=
  wpAny_mono h (fun _ _ h => by
    obtain ⟨h', tk, tb, e1, e2, F, N⟩ := h
    subst e1 e2
    exact k h' tk tb F N) fun _ _ e => e
theorem dim_none {kvs : List (Str × Value)} {x : Str} {ns : List Int} (h : dimWord kvs x ns = "") : valueAt kvs x = none ∧ madeWord ns = "" := by
  unfold dimWord at h
  cases q : valueAt kvs x with
  | none => rw [q] at h; exact ⟨rfl, h⟩
  | some v => rw [q] at h; exact absurd h (by simp only [Option.isSome_some, if_true]; decide)
theorem ok_dim (kvs : List (Str × Value)) (x : Str) (ns : List Int) : PyData.strOk (dimWord kvs x ns) = true := by
  unfold dimWord
  split
  · decide +kernel
  · exact ok_made ns
theorem ST.isB (S : ST) (x : Str) : (valueAt S.kvB x).isSome = (valueAt S.kvA x).isSome := by
  rw [ST.valA, ST.valB]; cases S.find x <;> rfl
theorem ST.noneA {S : ST} {x : Str} (h : valueAt S.kvA x = none) : S.find x = none := by
  rw [ST.valA] at h
  cases q : S.find x with
  | none => rfl
  | some r => rw [q] at h; cases h
end
section
variable {w : World} {h h' : Heap} {S : ST} {x : Str} {r : AR} {fs : List Addr} {ps : Array Value} {a : Addr} {k : List Int} {v : Value}
theorem ST.Ok.arr_apart (O : S.Ok w h) (hr : (x, r) ∈ S.as) {b : Addr} (hb : b ∈ [S.vd, S.kd, S.ad, S.bd, 211]) : b ≠ r.its ∧ b ≠ r.wd := by
  have nd := O.nd
  obtain ⟨⟨a1, a2, a3, a4, a5⟩, ⟨b1, b2, b3, b4⟩, ⟨c1, c2, c3⟩, ⟨e1, e2⟩, f1, _⟩ := nd
  simp only [List.mem_cons, List.not_mem_nil, or_false] at hb
  rcases hb with rfl | rfl | rfl | rfl | rfl
  · exact a5 _ hr
  · exact b4 _ hr
  · exact c3 _ hr
  · exact e2 _ hr
  · exact f1 _ hr
theorem ST.Ok.imm_apart (O : S.Ok w h) (hr : (x, r) ∈ S.as) {b : Addr} (hb : b ∈ S.imms) : b ≠ r.its ∧ b ≠ r.wd := ⟨fun z => O.frozen b hb (z ▸ (ST.its_mut hr).1), fun z => O.frozen b hb (z ▸ (ST.its_mut hr).2)⟩
theorem ST.arr_imm (hr : (x, r) ∈ S.as) {b : Addr} (hb : b ∈ [r.ta, r.tb, r.bl, r.bl'] ++ r.wr.map (·.2.1)) : b ∈ S.imms := List.mem_append_right _ (List.mem_flatMap.mpr ⟨_, hr, hb⟩)
theorem led_turn {ow : Obj} {svs : List Value} {c : Nat} (O : S.Ok w h) (hfs : ∀ a ∈ S.muts ++ S.imms, a ∉ fs) (hm : S.find x = some r) (kp : Kept fs [r.its, r.wd, 211] h h') (hits : h'.get? r.its = some (listOf (r.items.set (placeOf r.bs k).toNat v).toArray c)) (hwd : h'.get? r.wd = some ow) (hW : WdObj w ow (storedH r.wr k a v))
    (hkey : h'.get? a = some (tupObj svs)) (hi : IntsAre svs k) (hnew : h.get? a = none) (hw : placeWord r.bs k = "") (hf : fitWord x v = "") (hv : IsVal v) (ho : IsOk v) (ht : h'.get? 211 = some (tabObj ps)) (htk : TabOk h' ps) : Led w fs h h' S (S.turn x (r.put k a v) ps) := by
  have hr := ST.mem_find hm
  have X := O.lies (x, r) hr
  have hWc : ∀ a ∈ [r.its, r.wd, 211], a ∈ S.muts := fun a ha => by
    simp only [List.mem_cons, List.not_mem_nil, or_false] at ha
    rcases ha with rfl | rfl | rfl
    · exact (ST.its_mut hr).1
    · exact (ST.its_mut hr).2
    · simp [ST.muts]
  have im : ∀ b ∈ [r.ta, r.tb, r.bl, r.bl'] ++ r.wr.map (·.2.1), ∀ o, h.get? b = some o → h'.get? b = some o := fun b hb o e => O.kp_imm kp hWc hfs (ST.arr_imm hr hb) e
  obtain ⟨x1, ⟨bvs, c1, x2, x3⟩, _, x4, ⟨bvs', c3, x5, x6⟩, x7, x8⟩ := X
  obtain ⟨ow0, _, _, hK⟩ := wd_split x7
  have hK' : KeysAt w h' (storedH r.wr k a v) := fun y hy => by
    have old : ∀ z : List Int × Addr × Value, z ∈ r.wr → (tkn w).is h' z.1 z.2.1 := fun z hz => by
      obtain ⟨o, it, n, t1, t2⟩ := hK z hz
      exact ⟨o, it, n, im _ (List.mem_append_right _ (List.mem_map_of_mem hz)) o t1, t2⟩
    rcases stored_mem hy with hy | ⟨e1, _, e2 | ⟨u, hu⟩⟩
    · exact old y hy
    · rw [e1, e2]; exact key_at hkey hi
    · rw [e1]; exact old _ hu
  have hl : (r.put k a v).Lies w h' := ⟨im r.ta (by simp) _ x1, ⟨bvs, c1, im r.bl (by simp) _ x2, x3⟩, ⟨c, hits⟩, im r.tb (by simp) _ x4, ⟨bvs', c3, im r.bl' (by simp) _ x5, x6⟩, hW.at hwd hK', x8⟩
  refine ⟨O.turn hfs hm kp hl ((O.fits (x, r) hr).put hw hf hv ho) hnew ht htk, kp.wide hWc, fun b hb => ?_, fun b hb => ?_, fun c hc p hp => ?_, ⟨rfl, rfl, rfl, rfl, rfl, rfl, rfl, rfl⟩⟩
  · rw [turn_muts O hm] at hb; exact .inl hb
  · rcases turn_imms O hm hb with hb | rfl
    · exact .inl hb
    · exact .inr hnew
  · obtain ⟨q, hq, rfl⟩ := List.mem_map.mp hp
    split
    · exact Nat.le_trans stored_len (Nat.succ_le_succ (hc _ hr))
    · exact Nat.le_succ_of_le (hc q hq)
end

/-- a dict by its entries, whatever its keys are -/
def RawDict (h : Heap) (d : Addr) (es : Array DictEntry) (ep : Nat) : Prop := ∃ o, h.get? d = some o ∧ o.ExactDict ∧ o.data = .dict es ep
section
variable {h h' : Heap} {d b : Addr} {es : Array DictEntry} {ep : Nat}
theorem RawDict.at (x : RawDict h d es ep) (e : ∀ o, h.get? d = some o → h'.get? d = some o) : RawDict h' d es ep := let ⟨o, ho, r⟩ := x; ⟨o, e o ho, r⟩
theorem RawDict.low (x : RawDict h d es ep) : d < h.objs.size := let ⟨_, ho, _⟩ := x; Heap.lt_size ho
end
section
variable {w : World} {A : Around} {E : Value → Shared → Prop} {s : Shared} {it d : Addr} {i ep : Nat} {es : Array DictEntry}
theorem RawDict.typeIs (x : RawDict s.heap d es ep) : s.TypeIs (.ref d) "dict" := let ⟨o, ho, hc, _⟩ := x; ⟨o, ho, hc.1⟩
theorem raw_iter {Q : Value → Shared → Prop} (lo : (d == sysModules) = false) (x : RawDict s.heap d es ep) (hQ : Q (.ref s.heap.objs.size) { s with heap := s.heap.push { cls := .type "dict_keyiterator", data := .fields #[.ref d, .int 0 0, .int es.size 0, .int ep 0] } }) :
    wpAny (model prg w) A (pyIter (.ref d)) Q E s := by
  have hT := x.typeIs
  obtain ⟨o, ho, _, hd⟩ := x
  refine wpAny_pyIter_slot hT PySem.F.slot_dict_iter (wpAny_call_entry PySem.F.slot_dict_iter hT PySem.F.entry_dict_iter ?_ (PySem.F.args_dict_iter_1 _))
  unfold Builtin.«dict.__iter__»
  refine wpAny_bind ?_
  unfold Builtin.Dict.dictSlotNone
  refine wpAny_bind (wpAny_notOrdered_dict hT ?_)
  show wpAny _ _ (pure (Value.ref d)) _ _ s
  refine wpAny_pure ?_
  show wpAny _ _ (Builtin.Dict.showsAll d >>= _) _ _ s
  unfold Builtin.Dict.showsAll
  rw [if_neg (by rw [lo]; exact Bool.false_ne_true)]
  refine wpAny_bind (wpAny_pure (wpAny_bind (wpAny_dictEntries ho hd (wpAny_bind (wpAny_dictEpoch ho hd ?_)))))
  refine wpAny_bind (wpAny_newObj_type (wpAny_pure ⟨_, rfl, "dict_keyiterator", _, ⟨_, Heap.get?_push_size _ rfl, rfl⟩, PySem.F.slot_dict_keyiterator_next.lookup, ?_⟩))
  simpa [rawInt] using hQ
/-- the head of a turn of its iterator -/
theorem raw_turn {Q : Option Value → Shared → Prop} (hit : s.heap.IsKeyIter it d i es.size ep) (x : RawDict s.heap d es ep)
    (hsome : ∀ e h', es[i]? = some e → h'.IsKeyIter it d (i + 1) es.size ep → Heap.SameBut it s.heap h' → Q (some e.key) { s with heap := h' })
    (hnone : es[i]? = none → A.handled = none ∧ ∀ h', Heap.ExtBut it s.heap h' → Q none { s with heap := h' }) : wpAny (model prg w) A (pyNext (.ref it)) Q E s := by
  have hT := hit.typeIs
  obtain ⟨o, ho, hc, hd⟩ := id hit
  obtain ⟨od, hod, _, hdd⟩ := x
  unfold pyNext
  refine wpAny_bind (wpAny_attempt (wpAny_callSpecial?_slot (name := Str.ofString "__next__") hT PySem.F.slot_dict_keyiterator_next
    (wpAny_call_entry PySem.F.slot_dict_keyiterator_next hT PySem.F.entry_dict_keyiterator_next ?_ (PySem.F.args_dict_keyiterator_next_1 _))))
  refine wpAny_bind (wpAny_pure (wpAny_bind (wpAny_bind ?_)))
  first | refine wpAny_bind (wpAny_typeNameOfWhole_keyiter hT (wpAny_pure ?_)) | refine wpAny_bind (wpAny_typeNameOf_keyiter hT (wpAny_pure ?_))
  refine wpAny_bind (wpAny_fieldsOf ho hd ?_)
  have hown : Builtin.Dict_items.ownsTuple "dict_keyiterator" = false := by decide
  rw [hown]
  show wpAny _ _ (if (Value.ref d == Value.none) = true then _ else _) _ _ s
  rw [if_neg (show ¬ ((Value.ref d == Value.none) = true) from Bool.false_ne_true)]
  refine wpAny_bind (wpAny_pure (wpAny_bind (wpAny_dictEntries hod hdd ?_)))
  rw [if_neg (by simp)]
  refine wpAny_bind (wpAny_pure (wpAny_bind (wpAny_dictEpoch hod hdd ?_)))
  rw [if_neg (by simp)]
  refine wpAny_pure ?_
  dsimp only
  rw [if_neg (show ¬ ((i : Int) < 0) from Int.not_lt.mpr (Int.natCast_nonneg i)), Int.toNat_natCast]
  cases q : es[i]? with
  | some e =>
    dsimp only
    refine wpAny_bind ?_
    first | refine wpAny_bind (wpAny_typeNameOfWhole_keyiter hT (wpAny_pure ?_)) | refine wpAny_bind (wpAny_typeNameOf_keyiter hT (wpAny_pure ?_))
    refine wpAny_bind (wpAny_isOneOf_keyiter hT ?_)
    show wpAny _ _ (setField (.ref it) 1 (rawInt ((i : Int) + 1)) >>= _) _ _ s
    refine wpAny_bind (wpAny_setField ho hd (by simp) ?_)
    have hit' : (s.heap.update it (Obj.mapFields (·.setIfInBounds 1 (rawInt ((i : Int) + 1))))).IsKeyIter it d (i + 1) es.size ep :=
      ⟨_, Heap.get?_update_self _ ho (Obj.isFreed_of_fields (Obj.data_mapFields hd _)), (Obj.cls_mapFields ..).trans hc, by rw [Obj.data_mapFields hd]; simp [rawInt]⟩
    refine wpAny_bind (wpAny_holding ?_)
    refine wpAny_bind (wpAny_isOneOf_keyiter (s := { s with heap := s.heap.update it (Obj.mapFields (·.setIfInBounds 1 (rawInt ((i : Int) + 1)))) }) hit'.typeIs ?_)
    show wpAny _ _ (pure e.key) _ _ _
    exact wpAny_pure (wpAny_pure ⟨_, rfl, wpAny_pure (hsome e _ q hit' (Heap.SameBut.update ..))⟩)
  | none =>
    obtain ⟨hh, hnone⟩ := hnone q
    dsimp only
    refine wpAny_bind ?_
    first | refine wpAny_bind (wpAny_typeNameOfWhole_keyiter hT (wpAny_pure ?_)) | refine wpAny_bind (wpAny_typeNameOf_keyiter hT (wpAny_pure ?_))
    show wpAny _ _ (setField (.ref it) 0 .none >>= _) _ _ s
    refine wpAny_bind (wpAny_setField ho hd (by simp) ?_)
    show wpAny _ _ (newExc (.type "StopIteration") [] >>= _) _ _ _
    refine wpAny_bind ?_
    simp only [newExc, newTuple]
    refine wpAny_bind (wpAny_newObj_type ?_ (by size_fits))
    refine wpAny_bind (m := firstArgMember _ _) (wpAny_of_eq (a := Value.none) (by first | rfl | (simp only [firstArgMember]; rfl)) ?_)
    refine wpAny_newObj_type ?_ (by size_fits)
    unfold raiseNew
    refine wpAny_bind (wpAny_handled ?_)
    rw [show A.in1.handled = none from hh]
    refine wpAny_bind (wpAny_pure (wpAny_throw ?_))
    refine wpAny_bind (wpAny_isInstance (T := "StopIteration") (b := true) ⟨_, Heap.get?_push_size _ rfl, rfl⟩ isSubtype_stop ?_)
    exact wpAny_pure (hnone _ (((Heap.SameBut.update ..).extBut.push _).push _))
theorem raw_walks (hh : A.handled = none) (I d : Addr) (hne : d ≠ I) (es : Array DictEntry) (ep : Nat) :
    Walks prg w A I [I, d] [I] es.size (fun i v => ∃ e, es[i]? = some e ∧ v = e.key) (fun i h => h.IsKeyIter I d i es.size ep ∧ RawDict h d es ep) where
  sub := fun b hb => by simp at hb; simp [hb]
  frame := fun _ _ _ st hk => ⟨st.1.at fun o e => hk I (by simp) o e, st.2.at fun o e => hk d (by simp) o e⟩
  item := fun i s Q E hi st hQ => by
    refine raw_turn st.1 st.2 (fun e h' he hit' hs' => ?_) fun q => ?_
    · exact hQ e.key h' s.toks ⟨e, he, rfl⟩ ⟨hit', st.2.at fun o q => hs'.extBut d o hne q⟩ fun b o hb q => hs'.extBut b o (fun z => hb (by simp [z])) q
    · rw [Array.getElem?_eq_getElem hi] at q; cases q
  done := fun s Q E st hQ => by
    refine raw_turn st.1 st.2 (fun e h' he _ _ => ?_) fun _ => ⟨hh, fun h' he' => hQ h' s.toks fun b o hb q => he' b o (fun z => hb (by simp [z])) q⟩
    rw [Array.getElem?_eq_none (Nat.le_refl _)] at he; cases he
  self := fun _ _ _ _ st hQ => wpAny_pyIter_keyiter st.1 hQ
theorem raw_src (lo : (d == sysModules) = false) : KdlSrc prg w "dict" d d es.size (fun i v => ∃ e, es[i]? = some e ∧ v = e.key) (fun h => RawDict h d es ep) where
  type := fun _ x => x.typeIs
  there := fun _ x => ⟨x.low, x.low⟩
  keep := fun _ _ x hk => x.at fun o e => hk d (.inl rfl) o e
  notList := by decide
  notTuple := by decide
  hint := fun _ _ _ _ x hq => kdl_hint_dict x.typeIs hq
  iter := fun _ _ hh x => ⟨_, _, (fun _ _ hq => raw_iter lo x hq), raw_walks hh _ d (Nat.ne_of_lt x.low) es ep, ⟨⟨_, Heap.get?_push_size _ rfl, rfl, rfl⟩, x.at fun _ e => Heap.get?_push_of_some _ e⟩⟩
end

/-- what a sort's questions come to when lt answers them -/
def runT {α : Type} (lt : Nat → Nat → Bool) : KasT α → α
  | .ret a => a
  | .ask i j k => runT lt (k (lt i j))
theorem SOk.run {α : Type} {n : Nat} {lt : Nat → Nat → Bool} {Q : α → Prop} : ∀ (t : KasT α), SOk n lt t Q → SOk n lt t (fun a => a = runT lt t) ∧ Q (runT lt t)
  | .ret _, h => ⟨rfl, h⟩
  | .ask _ _ k, ⟨a, b, h⟩ => let r := SOk.run (k _) h; ⟨⟨a, b, r.1⟩, r.2⟩
/-- the order in which a sort lays n things -/
def sortIdx (n : Nat) (lt : Nat → Nat → Bool) : Array Nat := if n < 2 then List.toArray (List.range n) else runT lt (kas_sort n)
theorem sortIdx_ok {n : Nat} {lt : Nat → Nat → Bool} (O : SOrd n lt) : SPm n (sortIdx n lt) ∧ SAsc lt (sortIdx n lt) n := by
  unfold sortIdx
  by_cases h : n < 2
  · rw [if_pos h]
    exact ⟨s_range, fun i j hij hj => no_two hij (Nat.lt_of_lt_of_le hj (Nat.le_of_lt_succ h))⟩
  · rw [if_neg h]
    exact (SOk.run _ (s_sort O (Nat.le_of_not_lt h))).2
/-- things laid in that order -/
def laid {α : Type} (xs : List α) (d : α) (lt : Nat → Nat → Bool) : List α := (sortIdx xs.length lt).toList.map fun i => xs.getD i d
theorem laid_map {α β : Type} (f : α → β) (xs : List α) (d : α) (lt : Nat → Nat → Bool) : (laid xs d lt).map f = laid (xs.map f) (f d) lt := by
  unfold laid
  rw [List.map_map, List.length_map]
  refine List.map_congr_left fun i _ => ?_
  show f (xs.getD i d) = (xs.map f).getD i (f d)
  rw [List.getD_eq_getElem?_getD, List.getD_eq_getElem?_getD, List.getElem?_map]
  cases xs[i]? <;> rfl

theorem zip_small (vs : List Value) (h : vs.length < 2) : (vs.toArray.zip vs.toArray).map (·.2) = vs.toArray := by
  apply Array.toList_inj.mp
  rw [Array.toList_map]
  rcases vs with _ | ⟨v, _ | ⟨u, r⟩⟩
  · simp
  · simp
  · exact absurd h (Nat.not_lt.mpr (Nat.le_add_left 2 r.length))
theorem laid_small {lt : Nat → Nat → Bool} : ∀ (vs : List Value), vs.length < 2 → laid vs .none lt = vs
  | [], _ => rfl
  | [_], _ => rfl
  | _ :: _ :: _, h => absurd h (by simp)
section
variable {w : World} {A : Around} {E : Value → Shared → Prop} {s : Shared} {g : Heap} {L D : Addr} {m : Str → Option Value} {news : List (Addr × Obj)} {vs : List Value} {n : Nat} {lt : Nat → Nat → Bool}
/-- a list of less than two -/
theorem sort_small {Q : Value → Shared → Prop} (F : Fr g L s.heap m) (N : News g L s.heap ((D, listOf vs.toArray n) :: news)) (hD : ∀ p ∈ news, p.1 ≠ D) (h2 : vs.length < 2)
    (h : ∀ h' c, Fr g L h' m → News g L h' ((D, listOf vs.toArray c) :: news) → Q .none { s with heap := h' }) : wpAny (model prg w) A (call (.builtin "list.sort") [.ref D]) Q E s := by
  have x1 : ∀ p ∈ ([] : List (Addr × Obj)), p.1 ≠ D := fun _ z => nomatch z
  replace N : News g L s.heap ([] ++ (D, listOf vs.toArray n) :: news) := N
  have nz := N (D, listOf vs.toArray n) (.head _)
  have ho : s.heap.get? D = some (seqObj "list" vs.toArray n) := nz.1
  have ha : D < s.heap.objs.size := Heap.lt_size ho
  refine wpAny_call_entry slot_list_sort ⟨_, nz.1, rfl⟩ entry_list_sort ?_ (args_list_sort _)
  rw [list_sort_plain]
  refine wpAny_bind (listItems_at ho rfl ?_)
  refine wpAny_bind (listUpdate_at ho rfl ?_ (by rw [List.size_toArray]; exact line_le (Nat.le_of_lt h2)) (Nat.zero_le _))
  have s1 := Heap.SameBut.update s.heap D (Obj.mapSeq fun _ => (#[] : Array Value))
  obtain ⟨e1, ho1⟩ : ∃ e1, (s.heap.update D (Obj.mapSeq fun _ => (#[] : Array Value))).get? D = some (seqObj "list" #[] e1) := ⟨_, get?_update_seq ho fun _ => #[]⟩
  refine wpAny_bind (seqEpoch_at ho1 rfl ?_)
  refine wpAny_bind (wpAny_newTuple ?_ (line_le (n := vs.length) (Nat.le_of_lt h2)))
  refine wpAny_bind (wpAny_newList ?_ (Nat.zero_le _))
  refine wpAny_holding ?_
  show wpAny (model prg w) _ _ _ _ { s with heap := ((s.heap.update D (Obj.mapSeq fun _ => (#[] : Array Value))).push (seqObj "tuple" vs.toArray 0)).push (seqObj "list" #[] 0) }
  have ho6 : (((s.heap.update D (Obj.mapSeq fun _ => (#[] : Array Value))).push (seqObj "tuple" vs.toArray 0)).push (seqObj "list" #[] 0)).get? D = some (seqObj "list" #[] e1) := Heap.get?_push_of_some _ (Heap.get?_push_of_some _ ho1)
  dsimp only
  have hn2 : vs.toArray.size < 2 := by rw [List.size_toArray]; exact h2
  rw [if_pos hn2, if_pos hn2]
  refine wpAny_bind (wpAny_pure ?_)
  rw [StateT.run_pure]
  refine wpAny_bind (wpAny_pure ?_)
  dsimp only
  refine wpAny_bind (seqEpoch_at ho6 rfl ?_)
  have hout : (arrOf (SortSt.mk' general' (vs.toArray.zip vs.toArray) #[] 7 none)).map (·.2) = vs.toArray := by
    show (vs.toArray.zip vs.toArray).map (·.2) = vs.toArray
    exact zip_small vs h2
  refine wpAny_bind (listUpdate_at ho6 rfl ?_ (Nat.zero_le _) (by rw [hout, List.size_toArray]; exact Nat.le_succ_of_le (line_le (Nat.le_of_lt h2))))
  rw [hout]
  simp only [bne_self_eq_false, Bool.false_eq_true, if_false]
  have s2 := Heap.SameBut.update (((s.heap.update D (Obj.mapSeq fun _ => (#[] : Array Value))).push (seqObj "tuple" vs.toArray 0)).push (seqObj "list" #[] 0)) D (Obj.mapSeq fun _ => vs.toArray)
  obtain ⟨c2, hc2⟩ : ∃ c2, ((((s.heap.update D (Obj.mapSeq fun _ => (#[] : Array Value))).push (seqObj "tuple" vs.toArray 0)).push (seqObj "list" #[] 0)).update D (Obj.mapSeq fun _ => vs.toArray)).get? D = some (seqObj "list" vs.toArray c2) := ⟨_, get?_update_seq ho6 fun _ => vs.toArray⟩
  have F1 := ((kas_fr F s1 nz.2.1 nz.2.2).push (seqObj "tuple" vs.toArray 0)).push (seqObj "list" #[] 0)
  have N1 : News g L (((s.heap.update D (Obj.mapSeq fun _ => (#[] : Array Value))).push (seqObj "tuple" vs.toArray 0)).push (seqObj "list" #[] 0)) ([] ++ (D, seqObj "list" #[] e1) :: news) := fun p hp => by
    have := (news_set N x1 hD s1 ho1) p hp
    exact ⟨Heap.get?_push_of_some _ (Heap.get?_push_of_some _ this.1), this.2⟩
  exact wpAny_pure ⟨_, rfl, h _ c2 (kas_fr F1 s2 nz.2.1 nz.2.2) (news_set N1 x1 hD s2 hc2)⟩

/-- texts, sorted -/
theorem sort_strs {Q : Value → Shared → Prop} (F : Fr g L s.heap m) (N : News g L s.heap ((D, listOf vs.toArray n) :: news)) (hD : ∀ p ∈ news, p.1 ≠ D) (xs : List Str) (hx : ∀ i : Nat, i < vs.length → ∃ t, vs[i]? = some (.str (xs.getD i "") t)) (O : SOrd vs.length fun i j => decide ((xs.getD i "").cps.toList < (xs.getD j "").cps.toList)) (h64 : vs.length < 64)
    (h : ∀ h' c, Fr g L h' m → News g L h' ((D, listOf (laid vs .none fun i j => decide ((xs.getD i "").cps.toList < (xs.getD j "").cps.toList)).toArray c) :: news) → Q .none { s with heap := h' }) : wpAny (model prg w) A (call (.builtin "list.sort") [.ref D]) Q E s := by
  by_cases h2 : vs.length < 2
  · rw [laid_small vs h2] at h
    exact sort_small F N hD h2 h
  · have hget : ∀ i, i < vs.length → ∃ t, vs.getD i Value.none = .str (xs.getD i "") t := fun i hi => by
      obtain ⟨t, e⟩ := hx i hi
      exact ⟨t, by rw [List.getD_eq_getElem?_getD, e]; rfl⟩
    refine kas_lsort (vs := vs) (T := .type "str") F N (.head hD) rfl (Nat.le_of_not_lt h2) h64 (fun e1 h' _ _ v hv => ?_) (by decide) fun e1 h' F' N' => ?_
    · obtain ⟨i, hi, rfl⟩ := List.getElem_of_mem hv
      obtain ⟨t, e⟩ := hx i hi
      rw [List.getElem?_eq_getElem hi] at e
      rw [Option.some.inj e]
      exact .of_pure rfl
    · refine SOk.wp (n := vs.length) (lt := fun i j => decide ((xs.getD i "").cps.toList < (xs.getD j "").cps.toList)) (fun i j C hi hj hc => ?_) _ (SOk.mono (fun p hp => ?_) _ (SOk.run _ (s_sort O (Nat.le_of_not_lt h2))).1)
      · obtain ⟨t, e⟩ := hget i hi
        obtain ⟨u, e'⟩ := hget j hj
        unfold kas_ask
        rw [e, e']
        exact kas_lt_str hc
      · have e2 : p = sortIdx vs.length (fun i j => decide ((xs.getD i "").cps.toList < (xs.getD j "").cps.toList)) := by rw [hp]; unfold sortIdx; rw [if_neg h2]
        refine ⟨_, _, F', N', .head hD, fun h6 c F6 N6 => h h6 c F6 ?_⟩
        unfold laid
        rw [← e2]; exact N6
end
theorem strs_tot {a b : List Nat} (h : a ≠ b) : a < b ∨ b < a := by
  by_cases q : a < b
  · exact .inl q
  · by_cases q2 : b < a
    · exact .inr q2
    · exact absurd (List.le_antisymm (List.not_lt.mp q2) (List.not_lt.mp q)) h
theorem strs_ord (xs : List Str) (hn : xs.Nodup) {n : Nat} (hl : n = xs.length) : SOrd n fun i j => decide ((xs.getD i "").cps.toList < (xs.getD j "").cps.toList) where
  irr := fun i => decide_eq_false (List.lt_irrefl _)
  tr := fun i j k h1 h2 => by
    simp only [decide_eq_true_eq] at *
    exact List.lt_trans h1 h2
  tot := fun i j hi hj hne => by
    simp only [decide_eq_true_eq]
    subst hl
    refine strs_tot fun e => hne ?_
    rw [List.getD_eq_getElem?_getD, List.getD_eq_getElem?_getD, List.getElem?_eq_getElem hi, List.getElem?_eq_getElem hj] at e
    have e2 : xs[i] = xs[j] := by
      have : (xs[i]).cps = (xs[j]).cps := Array.toList_inj.mp e
      first | exact Str.ext this | (cases h1 : xs[i]; cases h2 : xs[j]; simp_all)
    exact (List.getElem_inj hn).mp e2

/-- the order of tuples, by their items -/
def lexD (fin : Bool) : List Int → List Int → Bool
  | a :: r, b :: r' => if a = b then lexD fin r r' else decide (a < b)
  | _, _ => fin
theorem lexD_place : ∀ (a b : List Int), lexD (decide (a.length < b.length)) a b = placeLt a b
  | [], [] => rfl
  | [], _ :: _ => decide_eq_true (Nat.succ_pos _)
  | _ :: _, [] => decide_eq_false (Nat.not_lt_zero _)
  | x :: r, y :: r' => by
    show (if x = y then lexD (decide (r.length + 1 < r'.length + 1)) r r' else decide (x < y)) = if x = y then placeLt r r' else decide (x < y)
    rw [show decide (r.length + 1 < r'.length + 1) = decide (r.length < r'.length) from decide_eq_decide.mpr Nat.succ_lt_succ_iff, lexD_place r r']
section
variable {w : World} {A : Around} {E : Value → Shared → Prop} {s : Shared} {g : Heap} {L D : Addr} {m : Str → Option Value} {news : List (Addr × Obj)} {vs : List Value} {n : Nat}
theorem lex_ask {fin : Bool} {Q : Bool → Shared → Prop} {ps : List Value} {as : List Int} (h1 : ItemsAre (intKind prg w) as ps) : ∀ {qs : List Value} {bs : List Int} (i : Nat), ItemsAre (intKind prg w) bs qs → Q (lexD fin as bs) s → KatLex prg w A true fin Q (ps.zip qs) i s := by
  induction h1 with
  | nil => intro qs bs i _ h; exact kat_nil h
  | @cons a p as ps h1 t1 ih =>
    intro qs bs i h2 h
    cases h2 with
    | nil => exact kat_nil h
    | @cons b q bs qs h2 t2 =>
      obtain ⟨t, rfl⟩ := Value.isInt_shape h1
      obtain ⟨u, rfl⟩ := Value.isInt_shape h2
      rw [List.zip_cons_cons]
      refine kat_cons (wpAny_eqBool_int ?_)
      replace h : Q (if a = b then lexD fin as bs else decide (a < b)) s := h
      by_cases e : a = b
      · rw [if_pos e] at h
        rw [show (a == b) = true from beq_iff_eq.mpr e]
        exact kat_yes (ih (i + 1) t2 h)
      · rw [if_neg e] at h
        rw [show (a == b) = false from beq_eq_false_iff_ne.mpr e]
        refine kat_no ?_
        cases i with
        | zero => exact oneLt_int h
        | succ i => exact kat_one _ _ (PyProof.Rows.lt_int h)
theorem places_ord (ks : List (List Int)) (hn : ks.Nodup) {n : Nat} (hl : n = ks.length) : SOrd n fun i j => placeLt (ks.getD i []) (ks.getD j []) where
  irr := fun i => placeLt_irr _
  tr := fun i j k h1 h2 => placeLt_tr h1 h2
  tot := fun i j hi hj hne => by
    subst hl
    refine placeLt_tot fun e => hne ?_
    rw [List.getD_eq_getElem?_getD, List.getD_eq_getElem?_getD, List.getElem?_eq_getElem hi, List.getElem?_eq_getElem hj] at e
    exact (List.getElem_inj hn).mp e
/-- tuples of ints, sorted -/
theorem sort_tups {Q : Value → Shared → Prop} (F : Fr g L s.heap m) (N : News g L s.heap ((D, listOf vs.toArray n) :: news)) (hD : ∀ p ∈ news, p.1 ≠ D) (ks : List (List Int)) (hx : ∀ i : Nat, i < vs.length → ∃ a, vs[i]? = some (.ref a) ∧ (tkn w).is g (ks.getD i []) a)
    (hne : 2 ≤ vs.length → ∀ i : Nat, i < vs.length → ks.getD i [] ≠ []) (O : SOrd vs.length fun i j => placeLt (ks.getD i []) (ks.getD j [])) (h64 : vs.length < 64)
    (h : ∀ h' c, Fr g L h' m → News g L h' ((D, listOf (laid vs .none fun i j => placeLt (ks.getD i []) (ks.getD j [])).toArray c) :: news) → Q .none { s with heap := h' }) : wpAny (model prg w) A (call (.builtin "list.sort") [.ref D]) Q E s := by
  by_cases h2 : vs.length < 2
  · rw [laid_small vs h2] at h
    exact sort_small F N hD h2 h
  · have hget : ∀ i, i < vs.length → ∃ a, vs.getD i Value.none = .ref a ∧ (tkn w).is g (ks.getD i []) a := fun i hi => by
      obtain ⟨a, e, k⟩ := hx i hi
      exact ⟨a, by rw [List.getD_eq_getElem?_getD, e]; rfl, k⟩
    refine kat_lsort (vs := vs) F N (.head hD) rfl (Nat.le_of_not_lt h2) h64 fun e1 h' F' N' => ?_
    have tups : ∀ (us : List Value) (ls : List (List Int)), us.length = ls.length → (∀ i : Nat, i < us.length → ∃ a, us[i]? = some (.ref a) ∧ (tkn w).is g (ls.getD i []) a ∧ ls.getD i [] ≠ []) → ∃ fs : List Value, fs.length = us.length ∧ KatTups h' us fs ∧ ∀ v ∈ fs, ∃ i t, v = .int i t := by
      intro us
      induction us with
      | nil => intro ls _ _; exact ⟨[], rfl, trivial, fun _ z => nomatch z⟩
      | cons u us ih =>
        intro ls hl hh
        cases ls with
        | nil => simp at hl
        | cons l ls =>
          refine foldG fun G9 hG9 => ?_
          obtain ⟨a, e, ⟨o, items, c, ho, hc, hd, hi⟩, hz⟩ := hh 0 (by simp)
          have hi : ItemsAre (intKind prg w) l items.toList := hi
          have hz : l ≠ [] := hz
          obtain ⟨fs, f1, f2, f3⟩ := ih ls (by simpa using hl) fun i hi => by
            obtain ⟨a, q1, q2, q3⟩ := hh (i + 1) (Nat.succ_lt_succ hi)
            exact ⟨a, by simpa using q1, q2, q3⟩
          refine hG9 ?_
          clear hG9 G9
          have e : u = .ref a := by simpa using e
          cases hx : items.toList with
          | nil => rw [hx] at hi; cases hi; exact absurd rfl hz
          | cons v r =>
            rw [hx] at hi
            cases hi with
            | @cons k0 _ _ _ h1 _ =>
              obtain ⟨t, rfl⟩ := Value.isInt_shape h1
              refine ⟨.int k0 t :: fs, by simp [f1], ?_, fun v hv => ?_⟩
              · rw [e]
                exact KatTups.cons (F'.keep _ _ ho) hc hd (by rw [← Array.getElem?_toList, hx]; rfl) f2
              · rcases List.mem_cons.mp hv with rfl | hv
                · exact ⟨_, _, rfl⟩
                · exact f3 v hv
    obtain ⟨fs, f1, f2, f3⟩ := tups vs ((List.range vs.length).map fun i => ks.getD i []) (by simp) fun i hi => by
      obtain ⟨a, q1, q2⟩ := hx i hi
      have : ((List.range vs.length).map fun i => ks.getD i []).getD i [] = ks.getD i [] := by simp [hi]
      rw [this]
      exact ⟨a, q1, q2, hne (Nat.le_of_not_lt h2) i hi⟩
    refine kat_kind (T := .type "int") f2 (by omega) (fun v hv => ?_) (by decide) ?_
    · obtain ⟨i, t, rfl⟩ := f3 v hv
      exact .of_pure rfl
    · refine SOk.wp (n := vs.length) (lt := fun i j => placeLt (ks.getD i []) (ks.getD j [])) (fun i j C hi hj hc => ?_) _ (SOk.mono (fun p hp => ?_) _ (SOk.run _ (s_sort O (Nat.le_of_not_lt h2))).1)
      · obtain ⟨a, e, o, items, c, ho, _, hd, hI⟩ := hget i hi
        refine foldG fun G9 hG9 => ?_
        obtain ⟨b, e', o', items', c', ho', _, hd', hI'⟩ := hget j hj
        refine hG9 ?_
        clear hG9 G9
        unfold kas_ask
        rw [e, e']
        refine kat_lt (F'.keep _ _ ho) hd (F'.keep _ _ ho') hd' (lex_ask hI 0 hI' ?_)
        have z1 : items.size = (ks.getD i []).length := by rw [← Array.length_toList]; exact hI.length.symm
        have z2 : items'.size = (ks.getD j []).length := by rw [← Array.length_toList]; exact hI'.length.symm
        rw [z1, z2, lexD_place]; exact hc
      · have e2 : p = sortIdx vs.length (fun i j => placeLt (ks.getD i []) (ks.getD j [])) := by rw [hp]; unfold sortIdx; rw [if_neg h2]
        refine ⟨_, _, F', N', .head hD, fun h6 c F6 N6 => h h6 c F6 ?_⟩
        unfold laid
        rw [← e2]; exact N6
end

section
variable {n : Nat} {lt : Nat → Nat → Bool} {p : Array Nat}
theorem SPm.mem (P : SPm n p) {i : Nat} (h : i ∈ p.toList) : i < n := List.mem_range.mp (P.perm.mem_iff.mp h)
theorem SPm.nodup (P : SPm n p) : p.toList.Nodup := P.perm.nodup_iff.mpr List.nodup_range
theorem SPm.onto (P : SPm n p) {j : Nat} (hj : j < n) : j ∈ p.toList := P.perm.mem_iff.mpr (List.mem_range.mpr hj)
theorem SPm.asc (P : SPm n p) (A : SAsc lt p n) : p.toList.Pairwise fun i j => lt i j = true := by
  rw [List.pairwise_iff_getElem]
  intro i j hi hj hij
  have hl : p.toList.length = n := by rw [Array.length_toList]; exact P.size
  have := A i j hij (hl ▸ hj)
  rw [getD_opt, getD_opt, ← Array.getElem?_toList, ← Array.getElem?_toList, List.getElem?_eq_getElem hi, List.getElem?_eq_getElem hj] at this
  exact this
variable {α : Type} {xs : List α} {d d' : α}
theorem laid_d (O : SOrd xs.length lt) : laid xs d lt = laid xs d' lt := by
  unfold laid
  refine List.map_congr_left fun i hi => ?_
  have := (sortIdx_ok O).1.mem hi
  rw [List.getD_eq_getElem?_getD, List.getD_eq_getElem?_getD, List.getElem?_eq_getElem this]; rfl
theorem laid_mem (O : SOrd xs.length lt) {e : α} : e ∈ laid xs d lt ↔ e ∈ xs := by
  unfold laid
  constructor
  · intro h
    obtain ⟨i, hi, rfl⟩ := List.mem_map.mp h
    have := (sortIdx_ok O).1.mem hi
    rw [List.getD_eq_getElem?_getD, List.getElem?_eq_getElem this]
    exact List.getElem_mem this
  · intro h
    obtain ⟨i, hi, rfl⟩ := List.getElem_of_mem h
    refine List.mem_map.mpr ⟨i, (sortIdx_ok O).1.onto hi, ?_⟩
    rw [List.getD_eq_getElem?_getD, List.getElem?_eq_getElem hi]; rfl
theorem laid_len (O : SOrd xs.length lt) : (laid xs d lt).length = xs.length := by
  unfold laid
  rw [List.length_map, Array.length_toList]
  exact (sortIdx_ok O).1.size
theorem laid_asc (O : SOrd xs.length lt) {rel : α → α → Prop} (h : ∀ i j, lt i j = true → rel (xs.getD i d) (xs.getD j d)) : (laid xs d lt).Pairwise rel := by
  unfold laid
  rw [List.pairwise_map]
  obtain ⟨P, A⟩ := sortIdx_ok O
  exact (P.asc A).imp fun q => h _ _ q
end
/-- the names of a dict, sorted -/
def sortedNames (kvs : List (Str × Value)) : List Str := let xs : List Str := kvs.map (·.1); laid xs "" fun i j => decide ((xs.getD i "").cps.toList < (xs.getD j "").cps.toList)
/-- what was written, sorted by its places -/
def sortedWr (wr : List (List Int × Addr × Value)) : List (List Int × Addr × Value) := laid wr ([], 0, .none) fun i j => placeLt ((wr.map (·.1)).getD i []) ((wr.map (·.1)).getD j [])
theorem wr_ord {wr : List (List Int × Addr × Value)} (hn : (wr.map (·.1)).Nodup) : SOrd wr.length fun i j => placeLt ((wr.map (·.1)).getD i []) ((wr.map (·.1)).getD j []) := places_ord _ hn (by rw [List.length_map])
theorem sortedWr_mem {wr : List (List Int × Addr × Value)} (hn : (wr.map (·.1)).Nodup) {e : List Int × Addr × Value} : e ∈ sortedWr wr ↔ e ∈ wr := laid_mem (wr_ord hn)
theorem sortedWr_len {wr : List (List Int × Addr × Value)} (hn : (wr.map (·.1)).Nodup) : (sortedWr wr).length = wr.length := laid_len (wr_ord hn)
theorem sortedWr_asc {wr : List (List Int × Addr × Value)} (hn : (wr.map (·.1)).Nodup) : (sortedWr wr).Pairwise fun a b => placeLt a.1 b.1 = true := by
  refine laid_asc (wr_ord hn) fun i j h => ?_
  have e : ∀ i, (wr.map (·.1)).getD i [] = (wr.getD i ([], 0, .none)).1 := fun i => by
    rw [List.getD_eq_getElem?_getD, List.getD_eq_getElem?_getD, List.getElem?_map]
    cases wr[i]? <;> rfl
  rw [e, e] at h; exact h
theorem strs_map {f : Nat → Value} {g : Nat → Str} : ∀ (l : List Nat), (∀ i ∈ l, ∃ t, f i = .str (g i) t) → StrsAre (l.map f) (l.map g)
  | [], _ => .nil
  | i :: l, h => by
    obtain ⟨t, e⟩ := h i (.head _)
    rw [List.map_cons, List.map_cons, e]
    exact .cons _ _ (strs_map l fun j hj => h j (.tail _ hj))
theorem in1_none {A : Around} (h : A.handled = none) : A.in1.handled = none := h
section
variable {w : World} {A : Around} {E : Value → Shared → Prop} {s : Shared} {g : Heap} {L d : Addr} {m : Str → Option Value} {news : List (Addr × Obj)} {o : Obj} {kvs : List (Str × Value)} {wr : List (List Int × Addr × Value)}
theorem sorted_names {Q : Value → Shared → Prop} (hh : A.handled = none) (F : Fr g L s.heap m) (N : News g L s.heap news) (ho : s.heap.get? d = some o) (D : DictObj w d o kvs) (hz : kvs.length ≤ 60)
    (h : ∀ B h' c tk vs, Fr g L h' m → News g L h' ((B, listOf vs.toArray c) :: news) → AllLt B news → StrsAre vs (sortedNames kvs) → Q (.ref B) { s with heap := h', toks := tk }) : wpAny (model prg w) A (call (.builtin "sorted") [.ref d]) Q E s := by
  refine foldG fun G9 hG9 => ?_
  obtain ⟨lo, es, ep, d1, d2, d3, d4, d5⟩ := D
  refine hG9 ?_
  clear hG9 G9
  have hes : es.size = kvs.length := by rw [← Array.length_toList]; exact d4.length
  refine kdu_sorted (raw_src lo) hh F N ⟨o, ho, d1, d2⟩ (line_le (by rw [hes]; exact hz) (by decide)) fun B h' tk vs F' N' l1 hl hv => ?_
  have hget : ∀ i : Nat, i < vs.length → ∃ t, vs[i]? = some (.str ((kvs.map (·.1)).getD i "") t) := fun i hi => by
    refine foldG fun G9 hG9 => ?_
    obtain ⟨e, he, hk⟩ := hv i vs[i] (List.getElem?_eq_getElem hi)
    have hik : i < kvs.length := hes ▸ hl ▸ hi
    obtain ⟨q1, _⟩ := d4.get? (i := i) (e := e) (k := (kvs[i]).1) (v := (kvs[i]).2) (by rw [Array.getElem?_toList]; exact he) (List.getElem?_eq_getElem hik)
    obtain ⟨t, q⟩ := Value.isStrOf_shape q1
    refine hG9 ?_
    clear hG9 G9
    refine ⟨t, ?_⟩
    rw [List.getElem?_eq_getElem hi, hk, q, List.getD_eq_getElem?_getD, List.getElem?_map, List.getElem?_eq_getElem hik]; rfl
  have hvl : vs.length = (kvs.map (·.1)).length := by rw [List.length_map]; exact hl.trans hes
  refine sort_strs F' N' (fun p hp => Nat.ne_of_lt (l1 p hp)) (kvs.map (·.1)) hget (strs_ord _ d5 hvl) (by rw [hl, hes]; exact Nat.lt_of_le_of_lt hz (by decide)) fun h6 c F6 N6 => ?_
  refine h B h6 c _ _ F6 N6 (allLt_of l1) ?_
  unfold sortedNames laid
  rw [hvl]
  refine strs_map _ fun i hi => ?_
  have := (sortIdx_ok (strs_ord _ d5 rfl)).1.mem hi
  obtain ⟨t, e⟩ := hget i (hvl ▸ this)
  exact ⟨t, by rw [List.getD_eq_getElem?_getD, e]; rfl⟩
theorem sorted_wd {Q : Value → Shared → Prop} (hh : A.handled = none) (F : Fr g L s.heap m) (N : News g L s.heap news) (ho : s.heap.get? d = some o) (lo : (d == sysModules) = false) (D : WdObj w o wr) (hK : KeysAt w g wr) (hz : wr.length ≤ 60) (hne : 2 ≤ wr.length → ∀ e ∈ wr, e.1 ≠ [])
    (h : ∀ B h' c tk, Fr g L h' m → News g L h' ((B, listOf ((sortedWr wr).map fun e => Value.ref e.2.1).toArray c) :: news) → AllLt B news → Q (.ref B) { s with heap := h', toks := tk }) : wpAny (model prg w) A (call (.builtin "sorted") [.ref d]) Q E s := by
  refine foldG fun G9 hG9 => ?_
  obtain ⟨es, ep, d1, d2, d3, d4⟩ := D
  refine hG9 ?_
  clear hG9 G9
  have hes : es.size = wr.length := size_of_entries d3
  refine kdu_sorted (raw_src lo) hh F N ⟨o, ho, d1, d2⟩ (line_le (by rw [hes]; exact hz) (by decide)) fun B h' tk vs F' N' l1 hl hv => ?_
  have hget : ∀ i : Nat, i < vs.length → vs[i]? = some (.ref (wr.getD i ([], 0, .none)).2.1) := fun i hi => by
    obtain ⟨e, he, hk⟩ := hv i vs[i] (List.getElem?_eq_getElem hi)
    have hik : i < wr.length := hes ▸ hl ▸ hi
    rw [entry_at d3 i, List.getElem?_eq_getElem hik] at he
    rw [List.getElem?_eq_getElem hi, hk, ← Option.some.inj he, List.getD_eq_getElem?_getD, List.getElem?_eq_getElem hik]; rfl
  have hvl : vs.length = wr.length := hl.trans hes
  have hks : ∀ i : Nat, i < wr.length → (wr.map (·.1)).getD i [] = (wr.getD i ([], 0, .none)).1 := fun i hi => by
    rw [List.getD_eq_getElem?_getD, List.getD_eq_getElem?_getD, List.getElem?_map]
    cases wr[i]? <;> rfl
  have hm : ∀ i : Nat, i < wr.length → wr.getD i ([], 0, .none) ∈ wr := fun i hi => by
    rw [List.getD_eq_getElem?_getD, List.getElem?_eq_getElem hi]
    exact List.getElem_mem hi
  refine sort_tups F' N' (fun p hp => Nat.ne_of_lt (l1 p hp)) (wr.map (·.1)) (fun i hi => ⟨_, hget i hi, by rw [hks i (hvl ▸ hi)]; exact hK _ (hm i (hvl ▸ hi))⟩) (fun h2 i hi => by rw [hks i (hvl ▸ hi)]; exact hne (hvl ▸ h2) _ (hm i (hvl ▸ hi))) (by rw [hvl]; exact wr_ord d4) (by rw [hvl]; exact Nat.lt_of_le_of_lt hz (by decide)) fun h6 c F6 N6 => ?_
  have e : laid vs Value.none (fun i j => placeLt ((wr.map (·.1)).getD i []) ((wr.map (·.1)).getD j [])) = (sortedWr wr).map fun e => Value.ref e.2.1 := by
    have e1 : vs = wr.map fun e => Value.ref e.2.1 := by
      refine List.ext_getElem? fun i => ?_
      by_cases hi : i < vs.length
      · rw [hget i hi, List.getElem?_map, List.getD_eq_getElem?_getD, List.getElem?_eq_getElem (hvl ▸ hi : i < wr.length)]; rfl
      · rw [List.getElem?_eq_none (Nat.le_of_not_lt hi), List.getElem?_eq_none (by rw [List.length_map, ← hvl]; exact Nat.le_of_not_lt hi)]
    unfold sortedWr
    rw [laid_map, e1]
    exact laid_d (by rw [List.length_map]; exact wr_ord d4)
  rw [e] at N6
  exact h B h6 c _ F6 N6 (allLt_of l1)
end

/-- places that rise -/
def Rise (xs : Array Nat) : Prop := ∀ i j, i < j → j < xs.size → xs.getD i 0 < xs.getD j 0
theorem getD_any {xs : Array Nat} {i d : Nat} (h : i < xs.size) : xs.getD i d = xs.getD i 0 := by
  unfold Array.getD
  rw [dif_pos h, dif_pos h]
theorem Rise.le {xs : Array Nat} (R : Rise xs) {i j : Nat} (hij : i ≤ j) (hj : j < xs.size) : xs.getD i 0 ≤ xs.getD j 0 := by
  by_cases h : i = j
  · rw [h]; exact Nat.le_refl _
  · exact Nat.le_of_lt (R i j (Nat.lt_of_le_of_ne hij h) hj)
theorem below_go {xs : Array Nat} {j : Nat} (R : Rise xs) : ∀ (fuel lo hi : Nat), lo ≤ hi → hi ≤ xs.size → hi - lo ≤ fuel → (∀ i, i < lo → xs.getD i 0 < j) → (∀ i, hi ≤ i → i < xs.size → j ≤ xs.getD i 0) →
    SetTable.below.go xs j fuel lo hi ≤ xs.size ∧ (∀ i, i < SetTable.below.go xs j fuel lo hi → xs.getD i 0 < j) ∧ ∀ i, SetTable.below.go xs j fuel lo hi ≤ i → i < xs.size → j ≤ xs.getD i 0
  | 0, lo, hi, h1, h2, h3, a, b => by
    unfold SetTable.below.go
    exact ⟨Nat.le_trans h1 h2, a, fun i hi' hs => b i (Nat.le_trans (Nat.le_of_sub_eq_zero (Nat.eq_zero_of_le_zero h3)) hi') hs⟩
  | fuel + 1, lo, hi, h1, h2, h3, a, b => by
    unfold SetTable.below.go
    by_cases q : lo < hi
    · rw [if_pos q]
      dsimp only
      obtain ⟨m1, m2⟩ := mid_is q
      have hm : (lo + hi) / 2 < xs.size := Nat.lt_of_lt_of_le m2 h2
      by_cases c : xs.getD ((lo + hi) / 2) j < j
      · rw [if_pos c]
        rw [getD_any hm] at c
        exact below_go R fuel _ hi m2 h2 (Nat.le_trans (Nat.sub_le_sub_left (Nat.succ_le_succ m1) hi) (Nat.pred_le_pred h3)) (fun i hi' => Nat.lt_of_le_of_lt (R.le (Nat.le_of_lt_succ hi') hm) c) b
      · rw [if_neg c]
        rw [getD_any hm] at c
        exact below_go R fuel lo _ m1 (Nat.le_of_lt hm) (Nat.le_of_lt_succ (Nat.lt_of_lt_of_le (Nat.sub_lt_sub_right m1 m2) h3)) a fun i hi' hs => Nat.le_trans (Nat.not_lt.mp c) (R.le hi' hs)
    · rw [if_neg q]
      exact ⟨Nat.le_trans h1 h2, a, fun i hi' hs => b i (Nat.le_trans (Nat.le_of_not_lt q) hi') hs⟩
theorem below_is {xs : Array Nat} {j : Nat} (R : Rise xs) : SetTable.below xs j ≤ xs.size ∧ (∀ i, i < SetTable.below xs j → xs.getD i 0 < j) ∧ ∀ i, SetTable.below xs j ≤ i → i < xs.size → j ≤ xs.getD i 0 :=
  below_go R _ _ _ (Nat.zero_le _) (Nat.le_refl _) (by first | exact Nat.le_refl _ | exact Nat.le_succ _ | omega) (fun _ h => absurd h (Nat.not_lt_zero _)) fun i h1 h2 => absurd h2 (Nat.not_lt_of_le h1)
theorem insert_list {xs : Array Nat} {p x : Nat} : (SetTable.insertAt xs p x).toList = xs.toList.take p ++ x :: xs.toList.drop p := by
  unfold SetTable.insertAt
  simp [Array.toList_extract]
  exact List.take_of_length_le (by simp)
theorem insert_get {xs : Array Nat} {p x : Nat} (hp : p ≤ xs.size) (i : Nat) : (SetTable.insertAt xs p x).getD i 0 = if i < p then xs.getD i 0 else if i = p then x else xs.getD (i - 1) 0 := by
  rw [getD_opt, ← Array.getElem?_toList, insert_list]
  have hl : (xs.toList.take p).length = p := by rw [List.length_take, Array.length_toList, Nat.min_eq_left hp]
  by_cases h : i < p
  · rw [if_pos h, List.getElem?_append_left (hl.symm ▸ h), List.getElem?_take_of_lt h, getD_opt, Array.getElem?_toList]
  · rw [if_neg h, List.getElem?_append_right (by rw [hl]; exact Nat.le_of_not_lt h), hl]
    by_cases q : i = p
    · rw [if_pos q, q, Nat.sub_self]; rfl
    · have r : p < i := Nat.lt_of_le_of_ne (Nat.le_of_not_lt h) (Ne.symm q)
      have e : p + (i - p - 1) = i - 1 := by rw [Nat.sub_right_comm, Nat.add_sub_cancel' (Nat.le_sub_one_of_lt r)]
      rw [if_neg q, ← Nat.sub_add_cancel (Nat.sub_pos_of_lt r), List.getElem?_cons_succ, List.getElem?_drop, getD_opt, Array.getElem?_toList, e]
theorem insert_size {xs : Array Nat} {p x : Nat} (hp : p ≤ xs.size) : (SetTable.insertAt xs p x).size = xs.size + 1 := by
  rw [← Array.length_toList, insert_list, List.length_append, List.length_cons, List.length_take, List.length_drop, Array.length_toList, Nat.min_eq_left hp]
  exact congrArg Nat.succ (Nat.add_sub_cancel' hp)
theorem Rise.insert {xs : Array Nat} {p x : Nat} (R : Rise xs) (hp : p ≤ xs.size) (a : ∀ i, i < p → xs.getD i 0 < x) (b : ∀ i, p ≤ i → i < xs.size → x < xs.getD i 0) : Rise (SetTable.insertAt xs p x) := fun i j hij hj => by
  rw [insert_size hp] at hj
  have hj1 : j - 1 < xs.size := Nat.lt_of_lt_of_le (one_lt hij) (Nat.le_of_lt_succ hj)
  rw [insert_get hp, insert_get hp]
  rcases Nat.lt_trichotomy i p with q | q | q
  · rw [if_pos q]
    rcases Nat.lt_trichotomy j p with r | r | r
    · rw [if_pos r]; exact R _ _ hij (Nat.lt_of_lt_of_le r hp)
    · rw [if_neg (Nat.not_lt_of_le (Nat.le_of_eq r.symm)), if_pos r]; exact a _ q
    · rw [if_neg (Nat.lt_asymm r), if_neg (Nat.ne_of_gt r)]; exact R _ _ (Nat.lt_of_lt_of_le q (Nat.le_sub_one_of_lt r)) hj1
  · subst q
    rw [if_neg (Nat.lt_irrefl _), if_pos rfl, if_neg (Nat.lt_asymm hij), if_neg (Nat.ne_of_gt hij)]; exact b _ (Nat.le_sub_one_of_lt hij) hj1
  · have r := Nat.lt_trans q hij
    rw [if_neg (Nat.lt_asymm q), if_neg (Nat.ne_of_gt q), if_neg (Nat.lt_asymm r), if_neg (Nat.ne_of_gt r)]
    exact R _ _ (Nat.sub_lt_sub_right (Nat.lt_of_le_of_lt (Nat.zero_le _) q) hij) hj1
theorem put_rise {t : SetTable} {j : Nat} (R : Rise t.place) (h : ∀ i, t.slot j ≠ .live i) : Rise (t.put j).1.place := by
  obtain ⟨b1, b2, b3⟩ := below_is (j := j) R
  refine R.insert b1 b2 fun i hi hs => ?_
  have hne : ¬ (t.place[SetTable.below t.place j]? == some j) = true := fun q => h _ (by unfold SetTable.slot; dsimp only; rw [if_pos q])
  have h2 := b3 _ (Nat.le_refl _) (Nat.lt_of_le_of_lt hi hs)
  have h3 : t.place.getD (SetTable.below t.place j) 0 ≠ j := fun q => hne (by
    rw [getD_opt, Array.getElem?_eq_getElem (Nat.lt_of_le_of_lt hi hs)] at q
    rw [Array.getElem?_eq_getElem (Nat.lt_of_le_of_lt hi hs)]
    simpa using q)
  exact Nat.lt_of_lt_of_le (Nat.lt_of_le_of_ne h2 (Ne.symm h3)) (R.le hi hs)
theorem probe_free {t : SetTable} {f : Nat → Int} {hsh : Int} : ∀ (fuel : Nat) (p : SetTable.Probe), (∀ d, p.dummy = some d → t.slot d = .dummy) → ∀ j d, SetTable.probe.go t f hsh fuel p = some (.empty j d) → t.slot j = .empty ∧ ∀ e, d = some e → t.slot e = .dummy
  | 0, p, _, j, d, h => by unfold SetTable.probe.go at h; cases h
  | fuel + 1, p, hp, j, d, h => by
    unfold SetTable.probe.go at h
    have adv : ∀ q : SetTable.Probe, (t.advance q).dummy = q.dummy := fun q => by unfold SetTable.advance; split <;> rfl
    split at h
    · rename_i q
      cases h
      exact ⟨q, hp⟩
    · rename_i q
      exact probe_free fuel _ (fun e he => by rw [adv] at he; cases he; exact q) j d h
    · split at h
      · cases h
      · exact probe_free fuel _ (fun e he => by rw [adv] at he; exact hp e he) j d h
theorem free_not {t : SetTable} {hsh : Int} {sl : Nat} {b : Bool} (h : t.freeSlot hsh = some (sl, b)) : ∀ i, t.slot sl ≠ .live i := by
  unfold SetTable.freeSlot at h
  split at h
  · rename_i j d q
    cases h
    obtain ⟨q1, q2⟩ := probe_free _ _ (fun e he => by cases he) j d q
    intro i e
    cases d with
    | none => rw [show (none : Option Nat).getD j = j from rfl, q1] at e; cases e
    | some x => rw [show (some x).getD j = x from rfl, q2 x rfl] at e; cases e
  · cases h
theorem range_rise (n : Nat) : Rise (Array.range n) := fun i j hij hj => by
  rw [Array.size_range] at hj
  rw [getD_opt, getD_opt]
  simp [hj, Nat.lt_trans hij hj]
  exact hij
theorem stand_rise {t : SetTable} {n : Nat} (R : Rise t.place) : Rise (t.orStandIn n).place ∧ (t.orStandIn n).led = t.led := by
  unfold SetTable.orStandIn
  split
  · exact ⟨R, rfl⟩
  · exact ⟨range_rise n, rfl⟩
theorem new_rise {t : SetTable} {es : Array (Int × Value)} {hsh : Int} {x : Value} (R : Rise t.place) : Rise (layNew t es hsh x).2.1.place ∧ (layNew t es hsh x).2.1.led = t.led := by
  unfold layNew
  split
  · rename_i sl d q
    obtain ⟨h1, h2⟩ := stand_rise (n := (SetTable.insertAt es (t.put sl).2 (hsh, x)).size) (put_rise R (free_not q))
    exact ⟨h1, h2⟩
  · exact ⟨range_rise _, rfl⟩
theorem pair_rise {l : List Nat} (h : l.Pairwise (· < ·)) : Rise l.toArray := fun i j hij hj => by
  have hj : j < l.length := by simpa using hj
  have := List.pairwise_iff_getElem.mp h i j (Nat.lt_trans hij hj) hj hij
  rw [getD_opt, getD_opt]
  simp [hj, Nat.lt_trans hij hj]
  exact this
theorem relay_rise {t : SetTable} {es : Array (Int × Value)} {n : Nat} : Rise (relayAll t es n).2.1.place ∧ (relayAll t es n).2.1.led = t.led := by
  unfold relayAll
  split
  · rename_i t' order q
    dsimp only
    split
    · unfold SetTable.relaid SetTable.laid at q
      cases hc : SetTable.layClean (SetTable.sizeAbove n - 1) (es.map (·.1)) with
      | none => rw [hc] at q; cases q
      | some owner =>
        rw [hc] at q
        simp only [Option.bind_eq_bind, Option.bind_some, Option.pure_def, Option.some.injEq, Prod.mk.injEq] at q
        obtain ⟨rfl, _⟩ := q
        refine ⟨pair_rise ?_, rfl⟩
        rw [List.pairwise_map, List.pairwise_filterMap]
        refine List.pairwise_lt_range.imp fun hab b hb b' hb' => ?_
        obtain ⟨z, hz, rfl⟩ := Option.map_eq_some_iff.mp hb
        obtain ⟨z', hz', rfl⟩ := Option.map_eq_some_iff.mp hb'
        exact hab
    · exact ⟨range_rise _, rfl⟩
  · exact ⟨range_rise _, rfl⟩

/-- a set of the ints ns, and what its table is -/
def SetNow (w : World) (h : Heap) (a : Addr) (ns : List Int) : Prop :=
  ∃ o es ep t, h.get? a = some o ∧ o.ExactSet ∧ o.data = .set es ep t ∧ ElemsOf (intKind prg w) es.toList ∧ (∃ ms, IntsAre (es.toList.map (·.2)) ms ∧ ms.Perm ns) ∧ t.fits es.size = true ∧ t.led = !(w.params.followText "set-order") ∧ Rise t.place
theorem ints_perm {l l' : List Value} (p : l.Perm l') : ∀ {ns : List Int}, IntsAre l ns → ∃ ms, IntsAre l' ms ∧ ms.Perm ns := by
  induction p with
  | nil => intro ns h; exact ⟨ns, h, .refl _⟩
  | cons x p ih =>
    intro ns h
    cases h with
    | cons n t h =>
      obtain ⟨ms, h1, h2⟩ := ih h
      exact ⟨n :: ms, .cons n t h1, h2.cons n⟩
  | swap x y l =>
    intro ns h
    cases h with
    | cons n t h =>
      cases h with
      | cons m u h => exact ⟨m :: n :: _, .cons m u (.cons n t h), .swap _ _ _⟩
  | trans p q ih1 ih2 =>
    intro ns h
    obtain ⟨ms, h1, h2⟩ := ih1 h
    obtain ⟨ks, h3, h4⟩ := ih2 h1
    exact ⟨ks, h3, h4.trans h2⟩
section
variable {w : World} {A : Around} {E : Value → Shared → Prop} {s : Shared} {a : Addr} {h h' : Heap} {ns : List Int} {k : Int} {tk : Tok}
theorem SetNow.kp (x : SetNow w h a ns) (e : ∀ o, h.get? a = some o → h'.get? a = some o) : SetNow w h' a ns := by obtain ⟨o, es, ep, t, ho, r⟩ := x; exact ⟨o, es, ep, t, e o ho, r⟩
theorem set_store {o : Obj} {es es' : Array (Int × Value)} {ep : Nat} {t t' : SetTable} (ho : h.get? a = some o) (hd : o.data = .set es ep t) : (h.update a (Obj.putSet es' t')).get? a = some { o with data := .set es' (ep + 1) t' } := by
  have := Heap.get?_update_self (Obj.putSet es' t') ho (by rw [putSet_of es' t' hd]; rfl)
  rw [putSet_of es' t' hd] at this; exact this
/-- an int that is not in it yet -/
theorem set_add (x : SetNow w s.heap a ns) (hk : k ∉ ns) (hz : ns.length + 1 < scanBound) {Q : Bool → Shared → Prop} (h : ∀ h', Heap.SameBut a s.heap h' → SetNow w h' a (ns ++ [k]) → Q true { s with heap := h' }) :
    wpAny (model prg w) A (setAddHashed a (.int k tk) ((intKind prg w).hash k)) Q E s := by
  obtain ⟨o, es, ep, t, ho, hex, hd, hel, ⟨ms, hi, hp⟩, hf, hled, hr⟩ := x
  have hkey : (intKind prg w).is k (.int k tk) = true := intKind_is _ _ _ _
  have hsc : (Value.int k tk).scannable = true := rfl
  have hlen : es.size = ns.length := by
    have := hi.length
    rw [List.length_map, Array.length_toList] at this
    rw [this, hp.length_eq]
  have hb : es.size < scanBound := hlen ▸ Nat.lt_of_succ_lt hz
  unfold setAddHashed setAddHashedIn
  refine wpAny_holding (wpAny_bind (wpAny_setState_of ho hd hf ?_))
  dsimp only
  rw [byScan_of hsc hb hel]
  simp only [↓reduceIte]
  unfold setAddByScan
  refine wpAny_bind (wpAny_bind (wpAny_rule (wpAny_bind (wpAny_setScan_of hkey ho hd hf hel ?_))))
  have hno : List.findIdx? (fun e => (intKind prg w).is k e.2) es.toList = none := by
    rw [List.findIdx?_eq_none_iff]
    intro e he
    cases q : (intKind prg w).is k e.2 with
    | false => rfl
    | true =>
      exfalso
      obtain ⟨i, hi', rfl⟩ := List.getElem_of_mem he
      have hv : (es.toList.map (·.2))[i]? = some (es.toList[i]).2 := by rw [List.getElem?_map, List.getElem?_eq_getElem hi']; rfl
      obtain ⟨m, t', e1, e2⟩ := IntsAre.at hi i _ hv
      obtain ⟨u, e3⟩ := Value.isInt_shape q
      rw [e3] at e1; cases e1
      exact hk (hp.mem_iff.mp (List.mem_of_getElem? e2))
  rw [hno]
  dsimp only
  have hgw : ∀ (b : Bool) {s₁ : Shared} {Q' : Unit → Shared → Prop}, Q' () s₁ → wpAny (model prg w) A (match b with | true => rule "set.scan.the-table-gave-way" | false => pure ()) Q' E s₁ :=
    fun b s₁ Q' hq => by cases b <;> first | exact wpAny_pure hq | exact wpAny_rule hq
  have hperm := layNew_perm t es ((intKind prg w).hash k) (.int k tk)
  have hfits := layNew_fits t es ((intKind prg w).hash k) (.int k tk)
  have hrise := new_rise (es := es) (hsh := (intKind prg w).hash k) (x := .int k tk) hr
  generalize layNew t es ((intKind prg w).hash k) (.int k tk) = Ly at hperm hfits hrise ⊢
  obtain ⟨es1, t1, wasDummy, gave⟩ := Ly
  dsimp only at hperm hfits hrise ⊢
  rw [Array.toList_push] at hperm
  have hel1 : ElemsOf (intKind prg w) es1.toList := (hel.push hkey hsc).perm hperm
  have hi1 : ∃ ms, IntsAre (es1.toList.map (·.2)) ms ∧ ms.Perm (ns ++ [k]) := by
    have e := (hperm.map (·.2)).symm
    rw [List.map_append] at e
    obtain ⟨ks, h1, h2⟩ := ints_perm e (IntsAre.append hi (.cons k tk .nil))
    exact ⟨ks, h1, h2.trans (hp.append_right _)⟩
  have hz1 : es1.size = ns.length + 1 := by
    rw [← Array.length_toList, hperm.length_eq, List.length_append, Array.length_toList, hlen]; rfl
  refine wpAny_bind (hgw _ ?_)
  have hb1 : es1.size < scanBound := hz1 ▸ hz
  have tail : ∀ t2 : SetTable, t2.fits es1.size = true → t2.led = !(w.params.followText "set-order") → Rise t2.place → ∀ {R : Option Bool → Shared → Prop}, (∀ h', Heap.SameBut a s.heap h' → SetNow w h' a (ns ++ [k]) → R (some true) { s with heap := h' }) →
      wpAny (model prg w) A (do
        storeSet a es1 t2
        if (!wasDummy && t2.tooFull) = true then do
            (match (relayAll t2 es1 (SetTable.grown es1.size)).2.2 with | true => rule "set.scan.the-table-gave-way" | false => pure ())
            storeSet a (relayAll t2 es1 (SetTable.grown es1.size)).1 (relayAll t2 es1 (SetTable.grown es1.size)).2.1
            pure (some true)
          else pure (some true)) R E s := fun t2 hf2 hl2 hr2 {R} hR => by
    refine wpAny_bind (wpAny_storeSet_of ho hd ?_ (fits_of_scanBound (by first | exact hb1 | exact Nat.le_of_lt hb1)))
    have ho1 := set_store (es' := es1) (t' := t2) ho hd
    have hsb1 := Heap.SameBut.update s.heap a (Obj.putSet es1 t2)
    split
    · have hp2 := relayAll_perm t2 es1 (SetTable.grown es1.size)
      have hf3 := relayAll_fits t2 es1 (SetTable.grown es1.size)
      obtain ⟨hr3, hl3⟩ := relay_rise (t := t2) (es := es1) (n := SetTable.grown es1.size)
      generalize relayAll t2 es1 (SetTable.grown es1.size) = Rl at hp2 hf3 hr3 hl3 ⊢
      obtain ⟨es2, t3, gave2⟩ := Rl
      dsimp only at hp2 hf3 hr3 hl3 ⊢
      have hsz : es2.size = es1.size := by rw [← Array.length_toList, hp2.length_eq, Array.length_toList]
      refine wpAny_bind (hgw _ ?_)
      refine wpAny_bind (wpAny_storeSet_of ho1 rfl ?_ (fits_of_scanBound (by first | exact hsz ▸ hb1 | exact Nat.le_of_lt (hsz ▸ hb1))))
      have ho2 := set_store (es' := es2) (t' := t3) ho1 rfl
      obtain ⟨ks, k1, k2⟩ := hi1
      obtain ⟨ls, l1, l2⟩ := ints_perm (hp2.map (·.2)).symm k1
      exact wpAny_pure (hR _ (hsb1.trans (Heap.SameBut.update _ a _)) ⟨_, es2, _, t3, ho2, hex, rfl, hel1.perm hp2, ⟨ls, l1, l2.trans k2⟩, hf3, hl3.trans hl2, hr3⟩)
    · exact wpAny_pure (hR _ hsb1 ⟨_, es1, _, t2, ho1, hex, rfl, hel1, hi1, hf2, hl2, hr2⟩)
  split
  · refine wpAny_bind ?_
    rw [hashByValue_scannable 8 hsc]
    refine wpAny_pure ?_
    refine tail _ ?_ ?_ ?_ fun h' hsb hS => by dsimp only; exact wpAny_pure (h h' hsb hS)
    · split
      · exact hfits
      · exact SetTable.fits_plain_off hfits
    · split
      · exact hrise.2.trans hled
      · exact hrise.2.trans hled
    · split
      · exact hrise.1
      · exact hrise.1
  · refine wpAny_bind (wpAny_pure ?_)
    simp only [↓reduceIte]
    exact tail _ hfits (hrise.2.trans hled) hrise.1 fun h' hsb hS => by dsimp only; exact wpAny_pure (h h' hsb hS)
end

theorem take_next {ns : List Int} {i : Nat} (h : i < ns.length) : ns.take (i + 1) = ns.take i ++ [ns.getD i 0] := by
  rw [List.take_add_one, List.getElem?_eq_getElem h, List.getD_eq_getElem?_getD, List.getElem?_eq_getElem h]; rfl
theorem not_before {ns : List Int} (hn : ns.Nodup) {i : Nat} (h : i < ns.length) : ns.getD i 0 ∉ ns.take i := fun hm => by
  obtain ⟨j, hj, e⟩ := List.getElem_of_mem hm
  rw [List.length_take] at hj
  rw [List.getElem_take, List.getD_eq_getElem?_getD, List.getElem?_eq_getElem h] at e
  have := (List.getElem_inj hn).mp (show ns[j] = ns[i] from e)
  exact Nat.lt_irrefl i (Nat.lt_of_le_of_lt (Nat.le_of_eq this.symm) (Nat.lt_of_lt_of_le hj (Nat.min_le_left _ _)))
section
variable {w : World} {A : Around} {I : Addr} {fp wr : List Addr} {G : Array GenState → Array GenState → Prop} {n : Nat} {P : Nat → Value → Prop} {St : Nat → Shared → Prop} {R : Result → Shared → Prop}
/-- a set takes what an iterator gives -/
theorem set_loop (W : WalksS prg w A.in1 I fp wr G n P St) (S : Addr) (hSf : S ∉ fp) (ns : List Int) (hval : ∀ i v, P i v → ∃ t, v = .int (ns.getD i 0) t) (hn : ns.length = n) (hd : ns.Nodup) (hb : n + 1 < scanBound) :
    ∀ (k i : Nat) (s : Shared), n - i = k → i ≤ n → St i s → SetNow w s.heap S (ns.take i) → (∀ s', Moved (S :: wr) G s s' → SetNow w s'.heap S ns → R (.ok (.ret .none)) s') →
      codeAny (model prg w) A (.builtin "set.update.loop" ⟨[.ref S, .ref I], []⟩) R s := by
  have hSw : S ∉ wr := fun h => hSf (W.sub _ h)
  have hsub : ∀ b ∈ wr, b ∈ S :: wr := fun b hb => List.mem_cons_of_mem _ hb
  intro k
  induction k with
  | zero =>
    intro i s hk hi hst hS hR
    obtain rfl : i = n := Nat.le_antisymm hi (Nat.le_of_sub_eq_zero hk)
    refine codeAny_builtin PyProof.Rows.F.entry_set_update_loop ?_
    rw [Around.under_plainId PyProof.Rows.F.plain_set_update_loop _]
    show wpAny _ A.in1 (pyNext (.ref I) >>= _) _ _ s
    refine wpAny_bind (W.done s _ _ hst fun s' hm => ?_)
    show wpAny _ A.in1 (ret Value.none) _ _ s'
    rw [List.take_of_length_le (Nat.le_of_eq hn)] at hS
    exact wpAny_pure (hR s' (hm.mono hsub) (hS.kp fun o e => hm.heap S _ hSw e))
  | succ k ih =>
    intro i s hk hi hst hS hR
    have hlt : i < n := Nat.lt_of_sub_eq_succ hk
    have hin : i < ns.length := Nat.lt_of_lt_of_le hlt (Nat.le_of_eq hn.symm)
    refine codeAny_builtin PyProof.Rows.F.entry_set_update_loop ?_
    rw [Around.under_plainId PyProof.Rows.F.plain_set_update_loop _]
    show wpAny _ A.in1 (pyNext (.ref I) >>= _) _ _ s
    refine wpAny_bind (W.item i s _ _ hlt hst fun v s' hP hst' hm => ?_)
    obtain ⟨t, rfl⟩ := hval i v hP
    have hS' : SetNow w s'.heap S (ns.take i) := hS.kp fun o e => hm.heap S _ hSw e
    show wpAny _ A.in1 (holding [Value.int (ns.getD i 0) t] (setAdd S (.int (ns.getD i 0) t)) >>= _) _ _ s'
    refine wpAny_bind (wpAny_holding ?_)
    unfold setAdd
    refine wpAny_holding (wpAny_bind ((intKind prg w).pyHash (k := ns.getD i 0) (intKind_is _ _ _ _) ?_))
    refine set_add (s := { s' with toks := s'.toks + 1 }) hS' (not_before hd hin) (Nat.lt_of_le_of_lt (Nat.succ_le_succ (Nat.le_trans (List.length_take_le i ns) hi)) hb) fun h' hsb hS2 => ?_
    rw [← take_next hin] at hS2
    refine wpAny_pure ⟨plainId_quiet PyProof.Rows.F.plain_set_update_loop _, ih (i + 1) _ (congrArg Nat.pred hk) hlt (W.frame _ s' _ _ hst' (Nat.le_succ _) fun b hb o e => ?_) hS2 fun s'' hm'' hS'' => ?_⟩
    · rw [hsb.2 b (fun z : b = S => hSf (by rw [← z]; exact hb))]; exact e
    · refine hR s'' (Moved.trans W.gtrans ((hm.mono hsub).then_heap (Nat.le_succ _) fun b o hb e => ?_) hm'') hS''
      rw [hsb.2 b (fun z : b = S => hb (by rw [z]; exact List.mem_cons_self))]; exact e
end
abbrev setObj (w : World) : Obj := { cls := .type "set", dict := none, data := .set #[] 0 (.fresh 0 0 (!(w.params.followText "set-order"))) }
section
variable {w : World} {A : Around} {E : Value → Shared → Prop} {s : Shared}
theorem set_code (a : Value) {Q₁ : Value → Shared → Prop} (h : Q₁ (.ref s.heap.objs.size) { s with heap := s.heap.push (setObj w) }) :
    codeAny (model prg w) A (.call (.builtin "set.__new__") ⟨[.type "set", a], []⟩) (wants Q₁ E) s := by
  refine codeAny_of_tree ?_
  show wpAny _ A.in1 (do checkBuiltinCall "set.__new__" ⟨[.type "set", a], []⟩; again (.builtin "set.__new__" ⟨[.type "set", a], []⟩)) _ _ s
  refine wpAny_bind (wpAny_of_eq (PySem.F.newCall_set_1 a) (wpAny_pure ⟨plainId_quiet PySem.F.plain_set_new _, codeAny_builtin PySem.F.entry_set_new ?_⟩))
  rw [Around.under_plainId PySem.F.plain_set_new _]
  unfold Builtin.«set.__new__» Builtin.Frozenset.newClass
  have hsub := sub_set_self
  refine foldG fun G9 hG9 => ?_
  obtain ⟨hp, g, d, tk, os⟩ := s
  refine hG9 ?_
  clear hG9 G9
  dsimp only
  wp_walk
  refine wpAny_askSetting (wpAny_pure ?_)
  dsimp only
  simp only [newObj]
  refine wpAny_bind (wpAny_alloc (wpAny_pure ?_))
  exact wpAny_pure h
theorem set_fresh {h : Heap} {a : Addr} (e : h.get? a = some (setObj w)) : SetNow w h a [] :=
  ⟨_, #[], 0, _, e, ⟨rfl, rfl, rfl⟩, rfl, (fun _ z => nomatch z), ⟨[], .nil, .refl _⟩, rfl, rfl, fun _ _ _ hj => absurd hj (Nat.not_lt_zero _)⟩
set_option maxHeartbeats 16000000 in
/-- a set of a list of ints, no two alike -/
theorem call_set {l : Addr} {items : Array Value} {ns : List Int} {Q : Value → Shared → Prop} (hh : A.handled = none) (hl : s.heap.IsList l items) (hi : IntsAre items.toList ns) (hd : ns.Nodup) (hb : items.size + 1 < scanBound)
    (h : ∀ (h' : Heap) (tk : Nat), SetNow w h' s.heap.objs.size ns → (∀ b o, b < s.heap.objs.size → s.heap.get? b = some o → h'.get? b = some o) → Q (.ref s.heap.objs.size) { s with heap := h', toks := tk }) :
    wpAny (model prg w) A (call (.type "set") [.ref l]) Q E s := by
  have hns : ns.length = items.size := by rw [← hi.length, Array.length_toList]
  obtain ⟨c, tl, hmro⟩ := PySem.F.called_set.mro
  have hmade := PySem.F.called_set.made
  have hsub := PySem.F.called_set.sub
  refine wpAny_call (codeAny_of_tree ?_)
  show wpAny _ _ (callAny (.type "set") _) _ _ _
  refine wpAny_pure ⟨Code.quiet_builtin _ (by decide +kernel), codeAny_builtin PySem.F.entry_type_call ?_⟩
  rw [Around.under_plain (weight_type_call_type "set" [.ref l] []) rfl]
  have h1 := PySem.F.called_set.notType
  have h2 := PySem.F.called_set.canCreate
  have hct := PySem.F.typeCall_set_1 (.ref l)
  repeat (any_goals (first | assumption | wp_step))
  refine codeAny_mono (set_code (.ref l) (E := E) (Q₁ := fun obj s₁ => obj = .ref s.heap.objs.size ∧ s₁ = { s with heap := s.heap.push (setObj w) }) ⟨rfl, rfl⟩) fun r s₁ hr => ?_
  cases r with
  | error e => exact hr
  | ok fl =>
    cases fl with
    | ret obj =>
      obtain ⟨rfl, rfl⟩ := hr
      have hS : (s.heap.push (setObj w)).get? s.heap.objs.size = some (setObj w) := Heap.get?_push_size _ rfl
      have hT : Shared.TypeIs { s with heap := s.heap.push (setObj w) } (.ref s.heap.objs.size) "set" := ⟨_, hS, rfl⟩
      have hli := PySem.F.called_set.init.lookup
      have hbi := PySem.F.called_set.init.bind (.ref s.heap.objs.size)
      repeat (any_goals (first | assumption | wp_step))
      refine codeAny_mono (codeAny_call_builtin (R := wants (fun r s₂ => r = .none ∧ ∃ h' tk, s₂ = { s with heap := h', toks := tk } ∧ SetNow w h' s.heap.objs.size ns ∧ (∀ b o, b < s.heap.objs.size → s.heap.get? b = some o → h'.get? b = some o)) E) PySem.F.called_set.init.plain PySem.F.entry_set_init (check_set_init_1 hT ?_)) fun r₂ s₂ hr₂ => ?_
      · obtain ⟨ol, hol, hcl, nl, hdl⟩ := hl
        obtain ⟨ocls, odict, odata, oslots⟩ := ol
        simp only at hcl hdl
        subst hcl; subst hdl
        have hol' : (s.heap.push (setObj w)).get? l = some { cls := .type "list", dict := odict, data := .seq items nl, slots := oslots } := Heap.get?_push_of_some _ hol
        have hsls := PySem.F.sub_list_set
        have hslf := PySem.F.sub_list_frozenset
        have hne : (Value.type "list" == Value.type "dict") = false := by decide
        have hl1 : (s.heap.push (setObj w)).IsList l items := ⟨_, hol', rfl, nl, rfl⟩
        unfold Builtin.«set.__init__» noKeywords Builtin.Frozenset.updateFrom
        generalize hPI : pyIter = PI
        wp_walk
        subst hPI
        refine wpAny_pyIter_list hl1 ?_
        refine wpAny_bind (wpAny_runValue ?_)
        have hlS : l < s.heap.objs.size := Heap.lt_size hol
        have hh3 : A.in1.in1.in1.handled = none := by simp [hh]
        have hneI : l ≠ (s.heap.push (setObj w)).objs.size := by rw [Heap.size_push]; exact Nat.ne_of_lt (Nat.lt_succ_of_lt hlS)
        have hSf : s.heap.objs.size ∉ [(s.heap.push (setObj w)).objs.size, l] := by
          rw [Heap.size_push]; simp only [List.mem_cons, List.not_mem_nil, or_false, not_or]
          exact ⟨Nat.ne_of_lt (Nat.lt_succ_self _), Nat.ne_of_gt hlS⟩
        have hval : ∀ (i : Nat) (v : Value), items[i]? = some v → ∃ t, v = .int (ns.getD i 0) t := fun i v hv => PyProof.Rows.IntsAre.int_at hi i v (by rw [Array.getElem?_toList]; exact hv)
        refine set_loop ((Walks.list hh3 _ l hneI items).toS) s.heap.objs.size hSf ns hval hns hd hb (items.size - 0) 0 _ rfl (Nat.zero_le _) ⟨⟨_, Heap.get?_push_size _ rfl, rfl, rfl⟩, (hl1.push _)⟩ ?hS0 ?hR
        case hS0 => exact set_fresh (Heap.get?_push_of_some _ hS)
        case hR =>
          intro s' hm hS'
          refine foldG fun G9 hG9 => ?_
          obtain ⟨h', g', d', tk', os'⟩ := s'
          refine hG9 ?_
          clear hG9 G9
          have eg : g' = s.gens := hm.gens
          have ed : d' = s.drawn := hm.drawn
          have eo : os' = s.os := hm.os
          subst eg; subst ed; subst eo
          show wpAny _ _ _ _ _ _
          refine wpAny_pure ?_
          show wpAny _ _ (ret Value.none) _ _ _
          refine wpAny_pure ⟨rfl, h', tk', rfl, hS', fun b o hb e => ?_⟩
          have hb1 : b ≠ s.heap.objs.size := Nat.ne_of_lt hb
          have hb2 : b ≠ (s.heap.push (setObj w)).objs.size := by rw [Heap.size_push]; exact Nat.ne_of_lt (Nat.lt_succ_of_lt hb)
          exact hm.heap b o (by simp only [List.mem_cons, List.not_mem_nil, or_false, not_or]; exact ⟨hb1, hb2⟩) (Heap.get?_push_of_some _ (Heap.get?_push_of_some _ e))
      · cases r₂ with
        | error e => exact hr₂
        | ok fl₂ =>
          cases fl₂ with
          | ret r =>
            refine foldG fun G9 hG9 => ?_
            obtain ⟨rfl, h', tk, rfl, hS', hk'⟩ := hr₂
            refine hG9 ?_
            clear hG9 G9
            repeat (any_goals (first | assumption | wp_step))
            exact h _ _ hS' hk'
          | _ => exact hr₂.elim
    | _ => exact hr.elim
end

theorem sit_owner : Manifest.owners.lookup (String.ofList ['r', 'o', 't', 'a', 'r', 'e', 't', 'i', '_', 't', 'e', 's'].reverse) = some Manifest.sig_set_iterator := by kernel_rfl
theorem sit_slot_next : Slot "set_iterator" "__next__" "set_iterator.__next__" :=
  .of (owner := "set_iterator") (n := "__next__") (by rw [typeLookup_type, builtinLookup_eq_fast]; kernel_rfl) (by decide +kernel) (by decide +kernel) (by decide +kernel)
    (by first | exact .inl (by decide +kernel) | exact .inr (by decide +kernel)) (by rw [isSubtype_type]; kernel_rfl)
theorem sit_slot_iter : Slot "set_iterator" "__iter__" "set_iterator.__iter__" :=
  .of (owner := "set_iterator") (n := "__iter__") (by rw [typeLookup_type, builtinLookup_eq_fast]; kernel_rfl) (by decide +kernel) (by decide +kernel) (by decide +kernel)
    (by first | exact .inl (by decide +kernel) | exact .inr (by decide +kernel)) (by rw [isSubtype_type]; kernel_rfl)
theorem sit_entry_next : entryFor table "set_iterator.__next__" = some Builtin.«set_iterator.__next__» := entryFor_of_tree (by kernel_rfl)
theorem sit_entry_iter : entryFor table "set_iterator.__iter__" = some Builtin.«dict_keyiterator.__iter__» :=
  entryFor_alias (id' := "dict_keyiterator.__iter__") (by rw [fastTable_eq_tree]; kernel_rfl) rfl (by decide +kernel) (by rw [fastTable_eq_tree]; kernel_rfl)
theorem sit_entry_set : entryFor table "set.__iter__" = some Builtin.«frozenset.__iter__» :=
  entryFor_alias (id' := "frozenset.__iter__") (by rw [fastTable_eq_tree]; kernel_rfl) rfl (by decide +kernel) (by rw [fastTable_eq_tree]; kernel_rfl)
theorem sit_args_next (a : Value) : argsOk "set_iterator.__next__" ⟨[a], []⟩ := by
  unfold argsOk; rw [signature?_of (id := "set_iterator.__next__") (n := ['_', '_', 't', 'x', 'e', 'n', '_', '_']) (o := ['r', 'o', 't', 'a', 'r', 'e', 't', 'i', '_', 't', 'e', 's']) (by kernel_rfl) sit_owner]; kernel_rfl
theorem sit_args_iter (a : Value) : argsOk "set_iterator.__iter__" ⟨[a], []⟩ := by
  unfold argsOk; rw [signature?_of (id := "set_iterator.__iter__") (n := ['_', '_', 'r', 'e', 't', 'i', '_', '_']) (o := ['r', 'o', 't', 'a', 'r', 'e', 't', 'i', '_', 't', 'e', 's']) (by kernel_rfl) sit_owner]; kernel_rfl
/-- an iterator of a set -/
def SetIt (h : Heap) (I a : Addr) (fst : Value) (i n ep : Nat) : Prop := ∃ o, h.get? I = some o ∧ o.cls = .type "set_iterator" ∧ o.data = .fields #[fst, .int i 0, .ref a, .int n 0, .int ep 0]
def SetD (h : Heap) (a : Addr) (es : Array (Int × Value)) (ep : Nat) (t : SetTable) : Prop := ∃ o, h.get? a = some o ∧ o.ExactSet ∧ o.data = .set es ep t
section
variable {h h' : Heap} {I a : Addr} {fst : Value} {i n ep : Nat} {es : Array (Int × Value)} {t : SetTable}
theorem SetIt.kp (x : SetIt h I a fst i n ep) (e : ∀ o, h.get? I = some o → h'.get? I = some o) : SetIt h' I a fst i n ep := let ⟨o, ho, r⟩ := x; ⟨o, e o ho, r⟩
theorem SetD.kp (x : SetD h a es ep t) (e : ∀ o, h.get? a = some o → h'.get? a = some o) : SetD h' a es ep t := let ⟨o, ho, r⟩ := x; ⟨o, e o ho, r⟩
theorem SetD.low (x : SetD h a es ep t) : a < h.objs.size := let ⟨_, ho, _⟩ := x; Heap.lt_size ho
end
section
variable {w : World} {A : Around} {E : Value → Shared → Prop} {s : Shared} {I a tp : Addr} {fst : Value} {i n ep slot : Nat} {es : Array (Int × Value)} {t : SetTable}
theorem wpAny_choose {src : Source} {k : Nat} {Q : Nat → Shared → Prop} (hk : k ≠ 0) (h : ∀ j dr, j < k → Q j { s with drawn := dr }) : wpAny (model prg w) A (choose src k) Q E s :=
  fun _ _ _ => ⟨hk, h _ _ (Nat.mod_lt _ (Nat.pos_of_ne_zero hk))⟩
theorem cons_erase {α : Type} : ∀ (l : List α) (j : Nat) (h : j < l.length), (l[j] :: l.eraseIdx j).Perm l
  | x :: r, 0, _ => .refl _
  | x :: r, j + 1, h => (List.Perm.swap _ _ _).trans ((cons_erase r j (Nat.lt_of_succ_lt_succ h)).cons _)
/-- an order drawn -/
theorem draw_order {α : Type} : ∀ (k : Nat) (xs : List α) (s : Shared) (Q : List α → Shared → Prop), xs.length = k → (∀ ys dr, ys.Perm xs → Q ys { s with drawn := dr }) → wpAny (model prg w) A (drawOrder k xs) Q E s
  | 0, xs, s, Q, hk, h => by
    obtain rfl := List.length_eq_zero_iff.mp hk
    unfold drawOrder
    exact wpAny_pure (h [] s.drawn (.refl _))
  | k + 1, [], s, Q, hk, h => by cases hk
  | k + 1, x :: r, s, Q, hk, h => by
    unfold drawOrder
    refine wpAny_bind (wpAny_choose (by simp) fun j dr hj => ?_)
    rw [List.getElem?_eq_getElem hj]
    dsimp only
    refine wpAny_bind (draw_order k _ _ _ (by rw [List.length_eraseIdx, if_pos hj, hk]; rfl) fun ys dr' hp => ?_)
    refine wpAny_pure (h _ dr' ?_)
    refine (hp.cons _).trans ?_
    exact cons_erase _ _ hj
theorem pick_go {α : Type} (next : Nat → Nat) : ∀ (fuel k : Nat) (left : List α) (out : Array α), left.length = fuel → (pickOrder.go next fuel k left out).toList.Perm (out.toList ++ left)
  | 0, k, left, out, h => by
    obtain rfl := List.length_eq_zero_iff.mp h
    unfold pickOrder.go
    simp
  | fuel + 1, k, left, out, h => by
    unfold pickOrder.go
    have hj : next k % left.length < left.length := Nat.mod_lt _ (Nat.lt_of_lt_of_le (Nat.succ_pos fuel) (Nat.le_of_eq h.symm))
    rw [List.getElem?_eq_getElem hj]
    dsimp only
    refine (pick_go next fuel (k + 1) _ _ (by rw [List.length_eraseIdx, if_pos hj, h]; rfl)).trans ?_
    rw [Array.toList_push, List.append_assoc]
    exact (cons_erase _ _ hj).append_left _
theorem pick_perm {α : Type} (next : Nat → Nat) (xs : Array α) : (pickOrder next xs).toList.Perm xs.toList := by
  unfold pickOrder
  have := pick_go next xs.size 0 xs.toList #[] (by simp)
  simpa using this
/-- a turn of a set's iterator by its table -/
theorem sit_int {r : Option (Value × Nat)} {Q : Option Value → Shared → Prop} (hit : SetIt s.heap I a (.int slot 0) i es.size ep) (x : SetD s.heap a es ep t) (hf : t.fits es.size = true)
    (hn : ∀ (B : Around) (E' : Value → Shared → Prop) (Q' : Option (Value × Nat) → Shared → Prop), Q' r s → wpAny (model prg w) B (setNext a slot i ep) Q' E' s)
    (hsome : ∀ v nx h', r = some (v, nx) → SetIt h' I a (.int nx 0) (i + 1) es.size ep → Heap.SameBut I s.heap h' → Q (some v) { s with heap := h' })
    (hnone : r = none → A.handled = none ∧ ∀ h', Heap.ExtBut I s.heap h' → Q none { s with heap := h' }) : wpAny (model prg w) A (pyNext (.ref I)) Q E s := by
  obtain ⟨o, ho, hc, hd⟩ := hit
  obtain ⟨os, hos, hex, hds⟩ := x
  have hT : s.TypeIs (.ref I) "set_iterator" := ⟨o, ho, hc⟩
  unfold pyNext
  refine wpAny_bind (wpAny_attempt (wpAny_callSpecial?_slot (name := Str.ofString "__next__") hT sit_slot_next
    (wpAny_call_entry sit_slot_next hT sit_entry_next ?_ (sit_args_next _))))
  unfold Builtin.«set_iterator.__next__»
  refine wpAny_bind (m := slotArgs "__next__" 0 _) (wpAny_pure ?_)
  refine wpAny_bind (wpAny_fieldsOf ho hd ?_)
  dsimp only
  refine wpAny_bind (wpAny_setEntries_of hos hds hf ?_)
  rw [if_neg (by simp)]
  refine wpAny_bind (m := setNext a _ _ _) (by
    rw [show ((slot : Int)).toNat = slot from Int.toNat_natCast _, show ((i : Int)).toNat = i from Int.toNat_natCast _, show ((ep : Int)).toNat = ep from Int.toNat_natCast _]
    refine hn _ _ _ ?_
    cases r with
    | some p =>
      obtain ⟨v, nx⟩ := p
      dsimp only
      refine wpAny_bind (wpAny_setField ho hd (by simp) ?_)
      have ho1 := Heap.get?_update_self (Obj.mapFields (·.setIfInBounds 0 (rawInt nx))) ho (Obj.isFreed_of_fields (Obj.data_mapFields hd _))
      have hd1 := Obj.data_mapFields hd (·.setIfInBounds 0 (rawInt nx))
      refine wpAny_bind (wpAny_setField ho1 hd1 (by simp) ?_)
      have ho2 := Heap.get?_update_self (Obj.mapFields (·.setIfInBounds 1 (rawInt ((i : Int) + 1)))) ho1 (Obj.isFreed_of_fields (Obj.data_mapFields hd1 _))
      exact wpAny_pure ⟨_, rfl, wpAny_pure (hsome v nx _ rfl ⟨_, ho2, (Obj.cls_mapFields ..).trans ((Obj.cls_mapFields ..).trans hc), by rw [Obj.data_mapFields hd1]; simp [rawInt]⟩ ((Heap.SameBut.update ..).trans (Heap.SameBut.update ..)))⟩
    | none =>
      obtain ⟨hh, hnone⟩ := hnone rfl
      dsimp only
      refine wpAny_bind (wpAny_setField ho hd (by simp) ?_)
      refine wpAny_bind ?_
      simp only [newExc, newTuple]
      refine wpAny_bind (wpAny_newObj_type ?_ (by size_fits))
      refine wpAny_bind (m := firstArgMember _ _) (wpAny_of_eq (a := Value.none) (by first | rfl | (simp only [firstArgMember]; rfl)) ?_)
      refine wpAny_newObj_type ?_ (by size_fits)
      simp only [raiseNew]
      refine wpAny_bind (wpAny_handled ?_)
      rw [show A.in1.handled = none from hh]
      refine wpAny_bind (wpAny_pure (wpAny_throw ?_))
      refine wpAny_bind (wpAny_isInstance (T := "StopIteration") (b := true) ⟨_, Heap.get?_push_size _ rfl, rfl⟩ isSubtype_stop ?_)
      exact wpAny_pure (hnone _ (((Heap.SameBut.update ..).extBut.push _).push _)))
/-- a turn of a set's iterator by an order drawn -/
theorem sit_tup {ps : Array Value} {Q : Option Value → Shared → Prop} (hit : SetIt s.heap I a (.ref tp) i es.size ep) (x : SetD s.heap a es ep t) (hf : t.fits es.size = true)
    (ht : ∃ o, s.heap.get? tp = some o ∧ ∃ c, o.data = .seq ps c)
    (hsome : ∀ j, i < ps.size → ps[i]? = some j → ∃ (p : Nat) (u : Tok) (e : Int × Value), j = .int p u ∧ es[p]? = some e ∧ ∀ h', SetIt h' I a (.ref tp) (i + 1) es.size ep → Heap.SameBut I s.heap h' → Q (some e.2) { s with heap := h' })
    (hnone : ps[i]? = none → A.handled = none ∧ ∀ h', Heap.ExtBut I s.heap h' → Q none { s with heap := h' }) : wpAny (model prg w) A (pyNext (.ref I)) Q E s := by
  obtain ⟨o, ho, hc, hd⟩ := hit
  obtain ⟨os, hos, hex, hds⟩ := x
  obtain ⟨ot, hot, ct, hdt⟩ := ht
  have hT : s.TypeIs (.ref I) "set_iterator" := ⟨o, ho, hc⟩
  unfold pyNext
  refine wpAny_bind (wpAny_attempt (wpAny_callSpecial?_slot (name := Str.ofString "__next__") hT sit_slot_next
    (wpAny_call_entry sit_slot_next hT sit_entry_next ?_ (sit_args_next _))))
  unfold Builtin.«set_iterator.__next__»
  refine wpAny_bind (m := slotArgs "__next__" 0 _) (wpAny_pure ?_)
  refine wpAny_bind (wpAny_fieldsOf ho hd ?_)
  dsimp only
  refine wpAny_bind (wpAny_setEntries_of hos hds hf ?_)
  rw [if_neg (by simp)]
  refine wpAny_bind (m := seqItems? (.ref tp)) ?_
  unfold seqItems?
  refine wpAny_bind (wpAny_load hot ?_)
  rw [hdt]
  refine wpAny_pure ?_
  dsimp only
  rw [show ((i : Int)).toNat = i from Int.toNat_natCast _]
  cases q : ps[i]? with
  | some j =>
    obtain ⟨p, u, e, rfl, he, hQ⟩ := hsome j (by rw [Array.getElem?_eq_some_iff] at q; exact q.1) q
    dsimp only
    refine wpAny_bind ?_
    unfold setNextDrawn
    refine wpAny_bind (wpAny_setState_of hos hds hf ?_)
    dsimp only
    rw [show ((ep : Int)).toNat = ep from Int.toNat_natCast _, show ((p : Int)).toNat = p from Int.toNat_natCast _]
    rw [if_neg (by simp)]
    rw [he]
    dsimp only
    refine wpAny_pure ?_
    refine wpAny_bind (wpAny_setField ho hd (by simp) ?_)
    have ho1 := Heap.get?_update_self (Obj.mapFields (·.setIfInBounds 1 (rawInt ((i : Int) + 1)))) ho (Obj.isFreed_of_fields (Obj.data_mapFields hd _))
    exact wpAny_pure ⟨_, rfl, wpAny_pure (hQ _ ⟨_, ho1, (Obj.cls_mapFields ..).trans hc, by rw [Obj.data_mapFields hd]; simp [rawInt]⟩ (Heap.SameBut.update ..))⟩
  | none =>
    obtain ⟨hh, hnone⟩ := hnone q
    dsimp only
    refine wpAny_bind (wpAny_setField ho hd (by simp) ?_)
    have ho1 := Heap.get?_update_self (Obj.mapFields (·.setIfInBounds 0 (rawInt 0))) ho (Obj.isFreed_of_fields (Obj.data_mapFields hd _))
    have hd1 := Obj.data_mapFields hd (·.setIfInBounds 0 (rawInt 0))
    refine wpAny_bind (wpAny_setField ho1 hd1 (by simp) ?_)
    refine wpAny_bind ?_
    simp only [newExc, newTuple]
    refine wpAny_bind (wpAny_newObj_type ?_ (by size_fits))
    refine wpAny_bind (m := firstArgMember _ _) (wpAny_of_eq (a := Value.none) (by first | rfl | (simp only [firstArgMember]; rfl)) ?_)
    refine wpAny_newObj_type ?_ (by size_fits)
    simp only [raiseNew]
    refine wpAny_bind (wpAny_handled ?_)
    rw [show A.in1.handled = none from hh]
    refine wpAny_bind (wpAny_pure (wpAny_throw ?_))
    refine wpAny_bind (wpAny_isInstance (T := "StopIteration") (b := true) ⟨_, Heap.get?_push_size _ rfl, rfl⟩ isSubtype_stop ?_)
    exact wpAny_pure (hnone _ ((((Heap.SameBut.update ..).trans (Heap.SameBut.update ..)).extBut.push _).push _))
theorem sit_again {Q : Value → Shared → Prop} (hit : SetIt s.heap I a fst i n ep) (h : Q (.ref I) s) : wpAny (model prg w) A (pyIter (.ref I)) Q E s := by
  obtain ⟨o, ho, hc, hd⟩ := hit
  have hT : s.TypeIs (.ref I) "set_iterator" := ⟨o, ho, hc⟩
  refine wpAny_pyIter_slot hT sit_slot_iter (wpAny_call_entry sit_slot_iter hT sit_entry_iter ?_ (sit_args_iter _))
  show wpAny _ _ (ret (.ref I)) _ _ s
  exact wpAny_pure ⟨_, rfl, "set_iterator", _, hT, sit_slot_next.lookup, h⟩
theorem by_text {Q : Bool → Shared → Prop} (h : Q (w.params.followText "set-order") s) : wpAny (model prg w) A setsByText Q E s := by
  unfold setsByText
  exact wpAny_bind (wpAny_askSetting (wpAny_pure h))
/-- the next of a set whose order the text gives -/
theorem next_text {Q : Option (Value × Nat) → Shared → Prop} (hb : w.params.followText "set-order" = true) (x : SetD s.heap a es ep t) (hf : t.fits es.size = true)
    (h : Q (((pickOrder (w.params.setOrder a ep) es)[i]?).map fun e => (e.2, slot)) s) : wpAny (model prg w) A (setNext a slot i ep) Q E s := by
  obtain ⟨os, hos, hex, hds⟩ := x
  unfold setNext
  refine wpAny_bind (wpAny_setState_of hos hds hf ?_)
  dsimp only
  refine wpAny_bind (by_text ?_)
  rw [hb]
  simp only [↓reduceIte]
  rw [if_neg (by simp)]
  refine wpAny_bind ?_
  unfold setWalk
  refine wpAny_bind (wpAny_setState_of hos hds hf ?_)
  dsimp only
  refine wpAny_bind (by_text ?_)
  rw [hb]
  simp only [↓reduceIte]
  exact wpAny_bind (wpAny_askSetting (wpAny_pure (wpAny_pure h)))
/-- the next of a set by its table's places -/
theorem next_place {Q : Option (Value × Nat) → Shared → Prop} (hb : w.params.followText "set-order" = false) (x : SetD s.heap a es ep t) (hf : t.fits es.size = true) (hl : t.led = true) (hp : (!t.plain && decide (es.size > 1)) = false)
    (h : Q (match es[SetTable.below t.place slot]?, t.place[SetTable.below t.place slot]? with | some (_, x), some j => some (x, j + 1) | _, _ => none) s) : wpAny (model prg w) A (setNext a slot i ep) Q E s := by
  obtain ⟨os, hos, hex, hds⟩ := x
  unfold setNext
  refine wpAny_bind (wpAny_setState_of hos hds hf ?_)
  dsimp only
  refine wpAny_bind (by_text ?_)
  rw [hb]
  simp only [Bool.false_eq_true, ↓reduceIte]
  show wpAny _ _ (if (!t.plain && decide (es.size > 1)) = true then _ else _) _ _ _
  rw [hp]
  simp only [Bool.false_eq_true, ↓reduceIte]
  refine wpAny_bind ?_
  show wpAny _ _ (if (!t.led && !es.isEmpty) = true then _ else _) _ _ _
  rw [hl]
  simp only [Bool.not_true, Bool.false_and, Bool.false_eq_true, ↓reduceIte]
  exact wpAny_pure (wpAny_pure h)
end

/-- where a table's walk stands at its turn i -/
def slotAt (t : SetTable) : Nat → Nat
  | 0 => 0
  | i + 1 => t.place.getD i 0 + 1
theorem below_at {t : SetTable} (R : Rise t.place) {i : Nat} (hi : i ≤ t.place.size) : SetTable.below t.place (slotAt t i) = i := by
  obtain ⟨b1, b2, b3⟩ := below_is (j := slotAt t i) R
  generalize SetTable.below t.place (slotAt t i) = b at b1 b2 b3
  cases i with
  | zero =>
    by_cases h : b = 0
    · exact h
    · exact absurd (b2 0 (Nat.pos_of_ne_zero h)) (Nat.not_lt_zero _)
  | succ i =>
    have h1 : ¬ b ≤ i := fun h => Nat.not_succ_le_self (t.place.getD i 0) (b3 i h hi)
    have h2 : ¬ i + 1 < b := fun h => Nat.lt_irrefl _ (Nat.lt_of_lt_of_le (R i (i + 1) (Nat.lt_succ_self i) (Nat.lt_of_lt_of_le h b1)) (Nat.le_of_lt_succ (b2 (i + 1) h)))
    exact Nat.le_antisymm (Nat.le_of_not_lt h2) (Nat.lt_of_not_le h1)
/-- what a set's iterator is, once it is there -/
def SetWalk (w : World) (I : Addr) (lo a : Addr) (ns : List Int) (h' : Heap) : Prop :=
  ∃ (vs : List Value) (ms : List Int) (fp : List Addr) (St : Nat → Heap → Prop), IntsAre vs ms ∧ ms.Perm ns ∧ (∀ b ∈ fp, b = a ∨ lo ≤ b) ∧ lo ≤ I ∧
    (∀ B : Around, B.handled = none → Walks prg w B I fp [I] vs.length (fun i v => vs[i]? = some v) St) ∧ St 0 h'
section
variable {w : World} {A : Around} {E : Value → Shared → Prop} {s : Shared} {I a tp : Addr} {ep : Nat} {es : Array (Int × Value)} {t : SetTable} {ns : List Int}
theorem walk_text (hb : w.params.followText "set-order" = true) (hf : t.fits es.size = true) (hne : a ≠ I) (hh : A.handled = none) {vs : List Value} (hvs : vs = (pickOrder (w.params.setOrder a ep) es).toList.map (·.2)) :
    Walks prg w A I [I, a] [I] vs.length (fun i v => vs[i]? = some v) (fun i h => SetIt h I a (.int (0 : Nat) 0) i es.size ep ∧ SetD h a es ep t) where
  sub := fun b hb => by simp at hb; simp [hb]
  frame := fun _ _ _ st hk => ⟨st.1.kp fun o e => hk I (by simp) o e, st.2.kp fun o e => hk a (by simp) o e⟩
  item := fun i s Q E hi st hQ => by
    have hv : ∃ e, (pickOrder (w.params.setOrder a ep) es)[i]? = some e ∧ vs[i]? = some e.2 := by
      rw [List.getElem?_eq_getElem hi]
      subst hvs
      rw [List.length_map, Array.length_toList] at hi
      exact ⟨_, Array.getElem?_eq_getElem hi, by simp⟩
    obtain ⟨e, he, hv⟩ := hv
    refine sit_int (r := some (e.2, 0)) st.1 st.2 hf (fun B E' Q' h => next_text hb st.2 hf (by rw [he]; exact h)) (fun v nx h' hr hit' hs' => ?_) fun hr => by cases hr
    cases hr
    exact hQ _ h' s.toks hv ⟨hit', st.2.kp fun o q => hs'.extBut a o hne q⟩ fun b o hb q => hs'.extBut b o (fun z => hb (by simp [z])) q
  done := fun s Q E st hQ => by
    refine sit_int (r := none) st.1 st.2 hf (fun B E' Q' h => next_text hb st.2 hf ?_) (fun v nx h' hr _ _ => by cases hr) fun _ => ⟨hh, fun h' he' => hQ h' s.toks fun b o hb q => he' b o (fun z => hb (by simp [z])) q⟩
    rw [Array.getElem?_eq_none (by subst hvs; simp)]
    exact h
  self := fun _ _ _ _ st hQ => sit_again st.1 hQ
theorem walk_place (hb : w.params.followText "set-order" = false) (hf : t.fits es.size = true) (hl : t.led = true) (hp : (!t.plain && decide (es.size > 1)) = false) (R : Rise t.place) (hne : a ≠ I) (hh : A.handled = none) {vs : List Value} (hvs : vs = es.toList.map (·.2)) :
    Walks prg w A I [I, a] [I] vs.length (fun i v => vs[i]? = some v) (fun i h => SetIt h I a (.int (slotAt t i : Nat) 0) i es.size ep ∧ SetD h a es ep t) where
  sub := fun b hb => by simp at hb; simp [hb]
  frame := fun _ _ _ st hk => ⟨st.1.kp fun o e => hk I (by simp) o e, st.2.kp fun o e => hk a (by simp) o e⟩
  item := fun i s Q E hi st hQ => by
    have hsz : t.place.size = es.size := by unfold SetTable.fits at hf; simp at hf; exact hf.1
    have hi2 : i < es.size := by subst hvs; simpa using hi
    have hv : vs[i]? = some es[i].2 := by subst hvs; simp [hi2]
    have hlt : i < t.place.size := Nat.lt_of_lt_of_le hi2 (Nat.le_of_eq hsz.symm)
    refine sit_int (r := some (es[i].2, slotAt t (i + 1))) st.1 st.2 hf (fun B E' Q' h => next_place hb st.2 hf hl hp (by
      rw [below_at R (Nat.le_of_lt hlt), Array.getElem?_eq_getElem hi2, Array.getElem?_eq_getElem hlt]
      have e : slotAt t (i + 1) = t.place[i]'hlt + 1 := by
        simp only [slotAt]
        rw [getD_opt, Array.getElem?_eq_getElem hlt]; rfl
      rw [e] at h
      exact h)) (fun v nx h' hr hit' hs' => ?_) fun hr => by cases hr
    cases hr
    exact hQ _ h' s.toks hv ⟨hit', st.2.kp fun o q => hs'.extBut a o hne q⟩ fun b o hb q => hs'.extBut b o (fun z => hb (by simp [z])) q
  done := fun s Q E st hQ => by
    have hsz : t.place.size = es.size := by unfold SetTable.fits at hf; simp at hf; exact hf.1
    have hn : vs.length = es.size := by subst hvs; simp
    refine sit_int (r := none) st.1 st.2 hf (fun B E' Q' h => next_place hb st.2 hf hl hp ?_) (fun v nx h' hr _ _ => by cases hr) fun _ => ⟨hh, fun h' he' => hQ h' s.toks fun b o hb q => he' b o (fun z => hb (by simp [z])) q⟩
    rw [hn, below_at R (Nat.le_of_eq hsz.symm), Array.getElem?_eq_none (Nat.le_refl _)]
    exact h
  self := fun _ _ _ _ st hQ => sit_again st.1 hQ
theorem walk_drawn {ps : Array Value} {xs : List Nat} (hf : t.fits es.size = true) (hne : a ≠ I) (hnt : tp ≠ I) (hh : A.handled = none) (hps : ps = (xs.map fun x : Nat => rawInt x).toArray) (hx : ∀ x ∈ xs, x < es.size) {vs : List Value} (hvs : vs = xs.map fun x => (es.getD x (0, .none)).2) :
    Walks prg w A I [I, a, tp] [I] vs.length (fun i v => vs[i]? = some v) (fun i h => SetIt h I a (.ref tp) i es.size ep ∧ SetD h a es ep t ∧ ∃ o, h.get? tp = some o ∧ ∃ c, o.data = .seq ps c) where
  sub := fun b hb => by simp at hb; simp [hb]
  frame := fun _ _ _ st hk => ⟨st.1.kp fun o e => hk I (by simp) o e, st.2.1.kp fun o e => hk a (by simp) o e, let ⟨o, ho, r⟩ := st.2.2; ⟨o, hk tp (by simp) o ho, r⟩⟩
  item := fun i s Q E hi st hQ => by
    have hi2 : i < xs.length := by subst hvs; simpa using hi
    have hv : vs[i]? = some (es.getD xs[i] (0, .none)).2 := by subst hvs; simp [hi2]
    refine sit_tup st.1 st.2.1 hf st.2.2 (fun j _ hj => ?_) fun hj => ?_
    · subst hps
      rw [List.getElem?_toArray, List.getElem?_map, List.getElem?_eq_getElem hi2] at hj
      cases hj
      have hlt := hx _ (List.getElem_mem hi2)
      refine ⟨xs[i], 0, es.getD xs[i] (0, .none), rfl, ?_, fun h' hit' hs' => ?_⟩
      · rw [Array.getElem?_eq_getElem hlt]
        unfold Array.getD
        rw [dif_pos hlt]; rfl
      · obtain ⟨o, ho, r⟩ := st.2.2
        exact hQ _ h' s.toks hv ⟨hit', st.2.1.kp fun o q => hs'.extBut a o hne q, ⟨o, hs'.extBut tp o hnt ho, r⟩⟩ fun b o hb q => hs'.extBut b o (fun z => hb (by simp [z])) q
    · exfalso
      subst hps
      rw [List.getElem?_toArray, List.getElem?_map, List.getElem?_eq_getElem hi2] at hj
      cases hj
  done := fun s Q E st hQ => by
    have hn : vs.length = xs.length := by subst hvs; simp
    have hnone : ps[vs.length]? = none := by rw [hn]; subst hps; simp
    refine sit_tup st.1 st.2.1 hf st.2.2 (fun j _ hj => ?_) fun _ => ⟨hh, fun h' he' => hQ h' s.toks fun b o hb q => he' b o (fun z => hb (by simp [z])) q⟩
    rw [hnone] at hj; cases hj
  self := fun _ _ _ _ st hQ => sit_again st.1 hQ
theorem range_pick (es : Array (Int × Value)) : (List.range es.size).map (fun x => (es.getD x (0, Value.none)).2) = es.toList.map (·.2) := by
  apply List.ext_getElem
  · simp
  · intro i h1 h2
    have hi : i < es.size := by simpa using h1
    simp [Array.getD, hi]
/-- iter(set) -/
theorem set_iter {Q : Value → Shared → Prop} (x : SetNow w s.heap a ns) (hb : ns.length ≤ sizeLine)
    (h : ∀ (I : Addr) (h' : Heap) (dr : Drawn), (∀ b o, s.heap.get? b = some o → h'.get? b = some o) → SetWalk w I s.heap.objs.size a ns h' → Q (.ref I) { s with heap := h', drawn := dr }) : wpAny (model prg w) A (pyIter (.ref a)) Q E s := by
  refine foldG fun G9 hG9 => ?_
  obtain ⟨o, es, ep, t, ho, hex, hd, hel, ⟨ms, hi, hp⟩, hf, hled, hr⟩ := x
  refine hG9 ?_
  clear hG9 G9
  have hT : s.TypeIs (.ref a) "set" := ⟨o, ho, hex.1⟩
  have hlt : a < s.heap.objs.size := Heap.lt_size ho
  have hlen : es.size = ns.length := by
    have := hi.length
    rw [List.length_map, Array.length_toList] at this
    rw [this, hp.length_eq]
  refine wpAny_pyIter_slot hT PySem.F.slot_set_iter (wpAny_call_entry PySem.F.slot_set_iter hT sit_entry_set ?_ (PySem.F.args_set_iter_1 _))
  unfold Builtin.«frozenset.__iter__» Builtin.Frozenset.slot0
  refine wpAny_bind (wpAny_bind (m := slotArgs "__iter__" 0 _) (wpAny_pure ?_))
  unfold Builtin.Frozenset.addrOf
  refine wpAny_pure ?_
  unfold Builtin.Frozenset.sizeOf
  refine wpAny_bind (wpAny_bind (wpAny_setEntries_of ho hd hf (wpAny_pure ?_)))
  unfold setDrawn
  refine wpAny_bind (wpAny_bind (wpAny_setState_of ho hd hf ?_))
  dsimp only
  refine wpAny_bind (by_text ?_)
  refine wpAny_pure ?_
  show wpAny _ _ (if (!(w.params.followText "set-order") && (!t.plain && decide (es.size > 1))) = true then _ else _) _ _ _
  by_cases hc : (!(w.params.followText "set-order") && (!t.plain && decide (es.size > 1))) = true
  · rw [if_pos hc]
    refine wpAny_bind (draw_order es.size (List.range es.size) s _ (by simp) fun xs dr hxs => ?_)
    have hxl : xs.length = es.size := by rw [hxs.length_eq, List.length_range]
    refine wpAny_bind (wpAny_newTuple ?_ (by rw [List.length_map, hxl, hlen]; exact hb))
    refine wpAny_bind (wpAny_setEpoch_of (a := a) (Heap.get?_push_of_some _ ho) hd hf ?_)
    unfold newFields
    refine wpAny_bind (wpAny_newObj_type ?_ (by size_fits))
    refine wpAny_pure ⟨_, rfl, "set_iterator", _, ⟨_, Heap.get?_push_size _ rfl, rfl⟩, sit_slot_next.lookup, ?_⟩
    refine h _ _ dr (fun b o e => Heap.get?_push_of_some _ (Heap.get?_push_of_some _ e)) ?_
    have hperm : (xs.map fun x => (es.getD x (0, Value.none)).2).Perm (es.toList.map (·.2)) := by
      have := hxs.map fun x => (es.getD x (0, Value.none)).2
      rw [range_pick] at this
      exact this
    obtain ⟨ms', hm1, hm2⟩ := ints_perm hperm.symm hi
    refine ⟨_, ms', [(s.heap.push _).objs.size, a, s.heap.objs.size], _, hm1, hm2.trans hp, fun b hb => ?_, by rw [Heap.size_push]; exact Nat.le_succ _, fun B hB => walk_drawn (tp := s.heap.objs.size) (ps := (xs.map fun x : Nat => rawInt x).toArray) (ep := ep) hf (by rw [Heap.size_push]; exact Nat.ne_of_lt (Nat.lt_succ_of_lt hlt)) (by rw [Heap.size_push]; exact Nat.ne_of_lt (Nat.lt_succ_self _)) hB rfl (fun x hx => by have := hxs.mem_iff.mp hx; simpa using this) rfl, ⟨⟨_, Heap.get?_push_size _ rfl, rfl, rfl⟩, ⟨o, Heap.get?_push_of_some _ (Heap.get?_push_of_some _ ho), hex, hd⟩, ⟨_, Heap.get?_push_of_some _ (Heap.get?_push_size _ rfl), _, rfl⟩⟩⟩
    simp only [List.mem_cons, List.not_mem_nil, or_false] at hb
    rcases hb with rfl | rfl | rfl
    · exact .inr (by rw [Heap.size_push]; exact Nat.le_succ _)
    · exact .inl rfl
    · exact .inr (Nat.le_refl _)
  · rw [if_neg hc]
    refine wpAny_bind (wpAny_pure ?_)
    refine wpAny_bind (wpAny_setEpoch_of ho hd hf ?_)
    unfold newFields
    refine wpAny_bind (wpAny_newObj_type ?_ (by size_fits))
    refine wpAny_pure ⟨_, rfl, "set_iterator", _, ⟨_, Heap.get?_push_size _ rfl, rfl⟩, sit_slot_next.lookup, ?_⟩
    refine h _ _ s.drawn (fun b o e => Heap.get?_push_of_some _ e) ?_
    have hfp : ∀ b ∈ [s.heap.objs.size, a], b = a ∨ s.heap.objs.size ≤ b := fun b hb => by
      simp only [List.mem_cons, List.not_mem_nil, or_false] at hb
      rcases hb with rfl | rfl
      · exact .inr (Nat.le_refl _)
      · exact .inl rfl
    by_cases hb2 : w.params.followText "set-order" = true
    · obtain ⟨ms', hm1, hm2⟩ := ints_perm (((pick_perm (w.params.setOrder a ep) es).map (·.2)).symm) hi
      exact ⟨_, ms', _, _, hm1, hm2.trans hp, hfp, Nat.le_refl _, fun B hB => walk_text (t := t) (ep := ep) hb2 hf (Nat.ne_of_lt hlt) hB rfl, ⟨⟨_, Heap.get?_push_size _ rfl, rfl, rfl⟩, ⟨o, Heap.get?_push_of_some _ ho, hex, hd⟩⟩⟩
    · have hb3 : w.params.followText "set-order" = false := by simpa using hb2
      have hp3 : (!t.plain && decide (es.size > 1)) = false := by
        rw [hb3] at hc; simpa using hc
      have hl3 : t.led = true := by rw [hled, hb3]; rfl
      exact ⟨_, ms, _, _, hi, hp, hfp, Nat.le_refl _, fun B hB => walk_place (t := t) (ep := ep) hb3 hf hl3 hp3 hr (Nat.ne_of_lt hlt) hB rfl, ⟨⟨_, Heap.get?_push_size _ rfl, rfl, rfl⟩, ⟨o, Heap.get?_push_of_some _ ho, hex, hd⟩⟩⟩
end

section
variable {w : World} {A : Around} {E : Value → Shared → Prop} {s : Shared} {a : Addr} {ns : List Int}
theorem set_hint {r : Addr} {Q : Bool → Shared → Prop} (hT : s.TypeIs (.ref r) "set") (h : Q false s) : wpAny (model prg w) A (Builtin.List.listLengthHint (.ref r)) Q E s := by
  unfold Builtin.List.listLengthHint
  refine wpAny_bind (wpAny_specialOf hT PySem.F.slot_set_len.lookup ?_)
  generalize hid : ("set.__len__" : String) = id0
  wp_delta
  rw [show splitId id0 = some ("set", "__len__") from by subst hid; decide +kernel]
  subst hid
  refine wpAny_bind (wpAny_isInstance (T := "set") (b := true) hT (by rw [isSubtype_type]; kernel_rfl) ?_)
  refine wpAny_ite_split (fun hab => absurd hab (by decide)) (fun _ => ?_)
  refine wpAny_ite_split (fun _ => ?_) (fun hab => absurd (by decide +kernel) hab)
  refine wpAny_bind (wpAny_typeOf hT ?_)
  exact wpAny_pure h
theorem SetNow.typeIs (x : SetNow w s.heap a ns) : s.TypeIs (.ref a) "set" := let ⟨o, _, _, _, ho, hex, _⟩ := x; ⟨o, ho, hex.1⟩
theorem SetNow.low {h : Heap} (x : SetNow w h a ns) : a < h.objs.size := let ⟨_, _, _, _, ho, _⟩ := x; Heap.lt_size ho
theorem items_list {vs : List Value} {acc : Array Value} (h : ItemsOf (fun i v => vs[i]? = some v) acc vs.length) : acc.toList = vs := by
  refine List.ext_getElem (by rw [Array.length_toList]; exact h.1) fun i h1 h2 => ?_
  have : vs[i]? = some acc.toList[i] := h.2 i acc.toList[i] (by rw [← Array.getElem?_toList]; exact List.getElem?_eq_getElem h1)
  rw [List.getElem?_eq_getElem h2] at this
  exact (Option.some.inj this).symm
theorem set_extend {R : Result → Shared → Prop} (x : SetNow w s.heap a ns) (hz : ns.length ≤ 60) (hh : A.handled = none) (S : Addr) (hSa : S ≠ a) (res : Value) (c₀ : Nat) (hS : s.heap.get? S = some { cls := .type "list", data := .seq #[] c₀ })
    (hR : ∀ h' tk dr acc' c', (∀ b o, b ≠ S → s.heap.get? b = some o → h'.get? b = some o) → h'.get? S = some { cls := .type "list", dict := none, data := .seq acc' c', slots := #[] } → (∃ ms, IntsAre acc'.toList ms ∧ ms.Perm ns) → R (.ok (.ret res)) { s with heap := h', toks := tk, drawn := dr }) :
    wpAny (model prg w) A.in1 (Builtin.List.listExtendWith (.ref S) (.ref a) res)
      (fun fin s' => match fin with | .done f => R (.ok f) s' | .again c' => c'.quiet = true ∧ codeAny (model prg w) A c' R s') (fun e s' => R (.error e) s') s := by
  unfold Builtin.List.listExtendWith
  refine wpAny_bind (wpAny_typeOf (T := "set") x.typeIs ?_)
  have h1 : Builtin.List.listSameRef (.ref S) (.ref a) = false := by simp [Builtin.List.listSameRef, hSa]
  have h2 : (Value.type "set" == Value.type "list") = false := by decide
  have h3 : (Value.type "set" == Value.type "tuple") = false := by decide
  simp only [h1, h2, h3, Bool.or_false, Bool.false_eq_true, if_false]
  refine wpAny_bind (set_iter x (line_le hz) fun I h₁ dr hk₁ W => ?_)
  obtain ⟨vs, ms, fp, St, hi, hp, hfp, hlo, W, st⟩ := W
  have hSlt : S < s.heap.objs.size := Heap.lt_size hS
  have hSI : S ≠ I := Nat.ne_of_lt (Nat.lt_of_lt_of_le hSlt hlo)
  have hSf : S ∉ fp := fun hm => by
    rcases hfp S hm with e | e
    · exact hSa e
    · exact absurd hSlt (Nat.not_lt.mpr e)
  have hvl : vs.length = ns.length := by rw [hi.length, hp.length_eq]
  have key : ∀ (h : Heap) (c₁ tk : Nat), St 0 h → (∀ b o, b ≠ S → s.heap.get? b = some o → h.get? b = some o) →
      h.get? S = some { cls := .type "list", data := .seq #[] c₁ } → codeAny (model prg w) A (.builtin "list.extend.loop" ⟨[.ref S, .ref I, res], []⟩) R { s with heap := h, toks := tk, drawn := dr } := by
    intro h c₁ tk hst hk hS₁
    refine codeAny_extend_loopS (W A.in1 hh).toS (by rw [hvl]; exact line_le hz) S hSf res vs.length 0 _ #[] c₁ rfl (Nat.zero_le _) hst hS₁ (ItemsOf.nil _) fun s' acc' c' hm hS' hacc => ?_
    rw [Moved.eq_with hm]
    refine hR s'.heap s'.toks dr acc' c' (fun b o hb e => hm.heap b o (fun hmem => ?_) (hk b o hb e)) hS' ⟨ms, by rw [items_list hacc]; exact hi, hp⟩
    rcases List.mem_cons.mp hmem with e' | hmem
    · exact hb e'
    · have := Heap.lt_size e
      rw [List.mem_singleton.mp hmem] at this
      exact absurd this (Nat.not_lt.mpr hlo)
  have hS₁ := hk₁ _ _ hS
  refine wpAny_bind (wpAny_holding (set_hint (s := { s with heap := h₁, drawn := dr }) (let ⟨o, ho, hc⟩ := x.typeIs; ⟨o, hk₁ _ _ ho, hc⟩) ?_))
  refine wpAny_ite_split (fun _ => ?_) (fun _ => wpAny_pure ⟨plainId_quiet PySem.F.plain_extend_loop _, key _ c₀ _ st (fun b o _ e => hk₁ _ _ e) hS₁⟩)
  refine wpAny_bind (wpAny_rule ?_)
  refine wpAny_bind ?_
  show wpAny _ _ (updateSeq S (·.push .none) >>= fun _ => updateSeq S (·.pop)) _ _ _
  refine wpAny_bind (wpAny_updateSeq hS₁ rfl ?_)
  have hS₂ := Heap.get?_update_self (Obj.mapSeq (·.push Value.none)) hS₁ rfl
  refine wpAny_updateSeq (hz := by seq_fits) hS₂ rfl ?_
  have hS₃ := Heap.get?_update_self (Obj.mapSeq (·.pop)) hS₂ rfl
  refine wpAny_pure ⟨plainId_quiet PySem.F.plain_extend_loop _, key _ _ _ ?_ (fun b o hb e => ?_) hS₃⟩
  · refine (W A hh).frame 0 _ _ st fun b hb o e => ?_
    have hbS : b ≠ S := fun h => hSf (h ▸ hb)
    exact (Heap.get?_update_other _ _ (Ne.symm hbS)).trans ((Heap.get?_update_other _ _ (Ne.symm hbS)).trans e)
  · exact (Heap.get?_update_other _ _ (Ne.symm hb)).trans ((Heap.get?_update_other _ _ (Ne.symm hb)).trans (hk₁ _ _ e))
theorem set_collect {R : List Value → Shared → Prop} (x : SetNow w s.heap a ns) (hz : ns.length ≤ 60) (hh : A.handled = none)
    (h : ∀ (h' : Heap) (tk : Nat) (dr : Drawn) (vs : List Value) (ms : List Int), (∀ b o, s.heap.get? b = some o → h'.get? b = some o) → IntsAre vs ms → ms.Perm ns → R vs { s with heap := h', toks := tk, drawn := dr }) :
    wpAny (model prg w) A (collect (.ref a)) R E s := by
  unfold collect
  refine wpAny_bind (wpAny_runValue (codeAny_builtin entry_proto_collect' ?_))
  rw [Around.under_plainId PySem.F.plain_proto_collect _]
  show wpAny _ A.in1 (newList [] >>= fun l => again (.builtin "list.__iadd__" ⟨[l, .ref a], []⟩)) _ _ s
  refine wpAny_bind (wpAny_newObj_type ?_)
  refine wpAny_pure ⟨plainId_quiet PySem.F.plain_list_iadd _, codeAny_builtin entry_list_iadd' ?_⟩
  rw [Around.under_plainId PySem.F.plain_list_iadd _]
  have hS₁ : (s.heap.push { cls := .type "list", data := .seq ([] : List Value).toArray }).get? s.heap.objs.size = some { cls := .type "list", data := .seq #[] } := Heap.get?_push_size _ rfl
  show wpAny _ A.in1 (Builtin.List.listExtendWith (.ref s.heap.objs.size) (.ref a) (.ref s.heap.objs.size)) _ _ _
  have x' : SetNow w (s.heap.push { cls := .type "list", data := .seq ([] : List Value).toArray }) a ns := x.kp fun o e => Heap.get?_push_of_some _ e
  have key := set_extend (A := A) (s := { s with heap := s.heap.push { cls := .type "list", data := .seq ([] : List Value).toArray } })
    (R := fun (q : Result) (s' : Shared) => ∃ (h' : Heap) (tk : Nat) (dr : Drawn) (acc' : Array Value) (c' : Nat), q = .ok (.ret (.ref s.heap.objs.size)) ∧ s' = { s with heap := h', toks := tk, drawn := dr } ∧
      (∀ b o, s.heap.get? b = some o → h'.get? b = some o) ∧ h'.get? s.heap.objs.size = some { cls := .type "list", dict := none, data := .seq acc' c', slots := #[] } ∧ ∃ ms, IntsAre acc'.toList ms ∧ ms.Perm ns)
    x' hz hh s.heap.objs.size (Nat.ne_of_gt x.low) (.ref s.heap.objs.size) 0 hS₁
    (fun h' tk dr acc' c' hk hS' hacc => ⟨h', tk, dr, acc', c', rfl, rfl, fun b o e => hk b o (Nat.ne_of_lt (Heap.lt_size e)) (Heap.get?_push_of_some _ e), hS', hacc⟩)
  refine wpAny_mono key (fun fin s' x => ?_) fun e s' x => ?_
  · cases fin with
    | done f =>
      obtain ⟨h', tk, dr, acc', c', e, rfl, hk, hS', ms, hi, hp⟩ := x
      cases e
      show wpAny _ A (load s.heap.objs.size >>= _) _ _ _
      refine wpAny_bind (wpAny_load hS' ?_)
      exact wpAny_pure (h h' tk dr _ ms hk hi hp)
    | again c₁ =>
      refine ⟨x.1, codeAny_mono x.2 fun q s₂ y => ?_⟩
      obtain ⟨h', tk, dr, acc', c', rfl, rfl, hk, hS', ms, hi, hp⟩ := y
      show wpAny _ A (load s.heap.objs.size >>= _) _ _ _
      refine wpAny_bind (wpAny_load hS' ?_)
      exact wpAny_pure (h h' tk dr _ ms hk hi hp)
  · obtain ⟨_, _, _, _, _, e', _⟩ := x
    cases e'
variable {g : Heap} {L D : Addr} {m : Str → Option Value} {news : List (Addr × Obj)} {vs : List Value} {n : Nat}
theorem sort_ints {Q : Value → Shared → Prop} (F : Fr g L s.heap m) (N : News g L s.heap ((D, listOf vs.toArray n) :: news)) (hD : ∀ p ∈ news, p.1 ≠ D) (hI : IntsAre vs ns) (h64 : vs.length < 64)
    (h : ∀ h' c vs' ns', Fr g L h' m → News g L h' ((D, listOf vs'.toArray c) :: news) → IntsAre vs' ns' → ns'.Perm ns → ns'.Pairwise (· ≤ ·) → Q .none { s with heap := h' }) : wpAny (model prg w) A (call (.builtin "list.sort") [.ref D]) Q E s := by
  have x1 : ∀ p ∈ ([] : List (Addr × Obj)), p.1 ≠ D := fun _ z => nomatch z
  replace N : News g L s.heap ([] ++ (D, listOf vs.toArray n) :: news) := N
  have nz := N (D, listOf vs.toArray n) (.head _)
  have ho : s.heap.get? D = some (seqObj "list" vs.toArray n) := nz.1
  refine wpAny_call_entry slot_list_sort ⟨_, nz.1, rfl⟩ entry_list_sort ?_ (args_list_sort _)
  refine list_sort_tree ho hI h64 fun out ns' h1 h2 h3 => ⟨_, rfl, ?_⟩
  unfold sortedHeap
  have s1 := Heap.SameBut.update s.heap D (Obj.mapSeq fun _ => (#[] : Array Value))
  obtain ⟨e1, ho1⟩ : ∃ e1, (s.heap.update D (Obj.mapSeq fun _ => (#[] : Array Value))).get? D = some (seqObj "list" #[] e1) := ⟨_, get?_update_seq ho fun _ => #[]⟩
  have ho6 : (((s.heap.update D (Obj.mapSeq fun _ => (#[] : Array Value))).push (seqObj "tuple" vs.toArray 0)).push (seqObj "list" #[] 0)).get? D = some (seqObj "list" #[] e1) := Heap.get?_push_of_some _ (Heap.get?_push_of_some _ ho1)
  have s2 := Heap.SameBut.update (((s.heap.update D (Obj.mapSeq fun _ => (#[] : Array Value))).push (seqObj "tuple" vs.toArray 0)).push (seqObj "list" #[] 0)) D (Obj.mapSeq fun _ => out)
  obtain ⟨c2, hc2⟩ : ∃ c2, ((((s.heap.update D (Obj.mapSeq fun _ => (#[] : Array Value))).push (seqObj "tuple" vs.toArray 0)).push (seqObj "list" #[] 0)).update D (Obj.mapSeq fun _ => out)).get? D = some (seqObj "list" out c2) := ⟨_, get?_update_seq ho6 fun _ => out⟩
  have F1 := ((kas_fr F s1 nz.2.1 nz.2.2).push (seqObj "tuple" vs.toArray 0)).push (seqObj "list" #[] 0)
  have N1 : News g L (((s.heap.update D (Obj.mapSeq fun _ => (#[] : Array Value))).push (seqObj "tuple" vs.toArray 0)).push (seqObj "list" #[] 0)) ([] ++ (D, seqObj "list" #[] e1) :: news) := fun p hp => by
    have := (news_set N x1 hD s1 ho1) p hp
    exact ⟨Heap.get?_push_of_some _ (Heap.get?_push_of_some _ this.1), this.2⟩
  refine h _ c2 out.toList ns' (kas_fr F1 s2 nz.2.1 nz.2.2) ?_ h1 h2 h3
  rw [Array.toArray_toList]
  exact news_set N1 x1 hD s2 hc2
/-- sorted(set), the set of ints that ascend -/
theorem sorted_set {Q : Value → Shared → Prop} (hh : A.handled = none) (F : Fr g L s.heap m) (N : News g L s.heap news) (x : SetNow w s.heap a ns) (hz : ns.length ≤ 60) (hasc : ns.Pairwise (· ≤ ·))
    (h : ∀ B h' c tk dr vs, Fr g L h' m → News g L h' ((B, listOf vs.toArray c) :: news) → AllLt B news → IntsAre vs ns → Q (.ref B) { s with heap := h', toks := tk, drawn := dr }) : wpAny (model prg w) A (call (.builtin "sorted") [.ref a]) Q E s := by
  refine call_function_entry kind_sorted plain_sorted entry_sorted (args_sorted1 _) ?_
  unfold Builtin.«sorted»
  refine wpAny_bind (m := checkCount "sorted" 1 1 _) (wpAny_pure ?_)
  refine wpAny_bind (set_collect (A := A.in1) x hz hh fun h' tk dr vs ms hk hi hp => ?_)
  have hl : vs.length = ns.length := by rw [hi.length, hp.length_eq]
  refine wpAny_bind (wpAny_newList ?_ (by rw [hl]; exact line_le hz))
  have F1 : Fr g L (h'.push { cls := .type "list", data := .seq vs.toArray }) m := (F.keeps hk).push _
  have N1 : News g L (h'.push { cls := .type "list", data := .seq vs.toArray }) ((h'.objs.size, listOf vs.toArray 0) :: news) := News.push (F.keeps hk) (fun p hp => ⟨hk _ _ (N p hp).1, (N p hp).2⟩) _ rfl
  have lt : ∀ q ∈ news, q.1 < h'.objs.size := fun q hq => Heap.lt_size (hk _ _ (N q hq).1)
  refine wpAny_bind (wpAny_holding ?_)
  refine sort_ints (s := { s with heap := h'.push { cls := .type "list", data := .seq vs.toArray }, toks := tk, drawn := dr }) F1 N1 (fun p hp => Nat.ne_of_lt (lt p hp)) hi (by rw [hl]; exact Nat.lt_of_le_of_lt hz (by decide)) fun h6 c vs' ns' F6 N6 i1 i2 i3 => ?_
  have e : ns' = ns := ksm_same (i2.trans hp) i3 hasc
  rw [e] at i1
  exact wpAny_pure ⟨_, rfl, h _ h6 c tk dr vs' F6 N6 (allLt_of lt) i1⟩
end

theorem valData_lay {v : Value} (h : IsOk v) : (valData v).canLay0 = true := SeqAt.canLay_of_shaped (valData_shaped h)
theorem vals_shaped {vs : List Value} (h : ∀ v ∈ vs, IsOk v) : SeqAt.shaped (.list (vs.map valData)) = true := by
  have h1 : ∀ l : List Value, (∀ v ∈ l, IsOk v) → PyData.canLayAll0 (l.map valData) = true := fun l => by
    induction l with
    | nil => intro _; rfl
    | cons v l ih =>
      intro hl
      show PyData.canLayAll0 (valData v :: l.map valData) = true
      simp only [PyData.canLayAll0, Bool.and_eq_true]
      exact ⟨valData_lay (hl v (.head _)), ih fun u hu => hl u (.tail _ hu)⟩
  have h2 : ∀ l : List Value, PyData.depthAll (l.map valData) = 0 := fun l => by
    induction l with
    | nil => rfl
    | cons v l ih =>
      show PyData.depthAll (valData v :: l.map valData) = 0
      simp only [PyData.depthAll, ih, valData_depth]; rfl
  simp [SeqAt.shaped, PyData.canLay0, PyData.depth, h1 vs h, h2 vs]
theorem vals_read (h : Heap) : ∀ {vs : List Value}, (∀ v ∈ vs, IsVal v) → ReadsAll h vs (vs.map valData) []
  | [], _ => .nil
  | v :: r, hv => .cons (val_flat (hv v (.head _)) h) (vals_read h fun u hu => hv u (.tail _ hu))
section
variable {w : World} {A : Around} {E : Value → Shared → Prop} {s : Shared} {a b : Addr} {Q : Value → Shared → Prop}
/-- two lists of the same values -/
theorem lists_same {vs : List Value} {c c' : Nat} (hu : A.units + 64 < cLine) (ha : s.heap.get? a = some (listOf vs.toArray c)) (hb : s.heap.get? b = some (listOf vs.toArray c')) (hv : ∀ v ∈ vs, IsVal v ∧ IsOk v) (h : Q (.bool false) s) : wpAny (model prg w) A (compareOp .NotEq (.ref a) (.ref b)) Q E s := by
  have hs := vals_shaped fun v hv' => (hv v hv').2
  have hr := vals_read s.heap fun v hv' => (hv v hv').1
  refine ne_dataH (reads_list_at ha rfl rfl (by simpa using hr)) (reads_list_at hb rfl rfl (by simpa using hr)) hs hs hu ?_
  rw [SeqAt.eqv_refl _ (SeqAt.canLay_of_shaped hs)]
  exact h
/-- two lists of the same names -/
theorem names_same {vs vs' : List Value} {xs : List Str} {c c' : Nat} (hu : A.units + 64 < cLine) (ha : s.heap.get? a = some (listOf vs.toArray c)) (hb : s.heap.get? b = some (listOf vs'.toArray c')) (h1 : StrsAre vs xs) (h2 : StrsAre vs' xs) (hx : ∀ x ∈ xs, PyData.strOk x = true) (h : Q (.bool false) s) :
    wpAny (model prg w) A (compareOp .NotEq (.ref a) (.ref b)) Q E s := by
  have e : xs.map PyData.str = (xs.map fun x => Value.str x 0).map valData := by rw [List.map_map]; rfl
  have hs : SeqAt.shaped (.list (xs.map PyData.str)) = true := by
    rw [e]
    refine vals_shaped fun v hv => ?_
    obtain ⟨x, hx', rfl⟩ := List.mem_map.mp hv
    intro y t q; cases q; exact hx x hx'
  refine ne_dataH (reads_list_at ha rfl rfl (by simpa using strs_readAll s.heap h1)) (reads_list_at hb rfl rfl (by simpa using strs_readAll s.heap h2)) hs hs hu ?_
  rw [SeqAt.eqv_refl _ (SeqAt.canLay_of_shaped hs)]
  exact h
theorem hits_same {kvs : List (Str × Value)} (hn : (kvs.map (·.1)).Nodup) (hv : ∀ p ∈ kvs, IsVal p.2 ∧ IsOk p.2) : ∀ l : List (Str × Value), (∀ p ∈ l, p ∈ kvs) → KeqHits A s kvs l true := fun l => by
  induction l with
  | nil => intro _; exact .nil
  | cons p r ih =>
    intro hl
    obtain ⟨k, v⟩ := p
    have hm := hl _ (.head _)
    have hva : valueAt kvs k = some v := by
      unfold valueAt
      cases q : kvs.find? fun kv => decide (kv.1 = k) with
      | none => rw [List.find?_eq_none] at q; exact absurd (q _ hm) (by simp)
      | some p =>
        have h1 := List.mem_of_find?_eq_some q
        have h2 := List.find?_some q
        have h2 : p.1 = k := by simpa using h2
        obtain ⟨k', v'⟩ := p
        dsimp only at h2
        subst h2
        have := name_uniq hn h1 hm
        rw [this]; rfl
    have hq := KeqHits.hit (A := A) (s := s) hva (keq_flat (val_flat (hv _ hm).1) (val_flat (hv _ hm).1)) (ih fun q hq => hl q (.tail _ hq))
    rw [SeqAt.eqv_refl _ (valData_lay (hv _ hm).2)] at hq
    exact hq
where
  name_uniq {α : Type} {l : List (Str × α)} (hn : (l.map (·.1)).Nodup) {k : Str} {v u : α} (h1 : (k, v) ∈ l) (h2 : (k, u) ∈ l) : v = u := by
    induction l with
    | nil => cases h1
    | cons p r ih =>
      rw [List.map_cons, List.nodup_cons] at hn
      rcases List.mem_cons.mp h1 with e1 | h1 <;> rcases List.mem_cons.mp h2 with e2 | h2
      · rw [← e1] at e2; exact (Prod.mk.inj e2).2.symm
      · exact absurd (List.mem_map_of_mem (f := (·.1)) h2) (by rw [← e1] at hn; exact hn.1)
      · exact absurd (List.mem_map_of_mem (f := (·.1)) h1) (by rw [← e2] at hn; exact hn.1)
      · exact ih hn.2 h1 h2
theorem dicts_same {oa ob : Obj} {kvs : List (Str × Value)} (hu : A.units + 64 < cLine) (ha : s.heap.get? a = some oa) (hb : s.heap.get? b = some ob) (Da : DictObj w a oa kvs) (Db : DictObj w b ob kvs) (hv : ∀ p ∈ kvs, IsVal p.2 ∧ IsOk p.2) (h : Q (.bool false) s) :
    wpAny (model prg w) A (compareOp .NotEq (.ref a) (.ref b)) Q E s := by
  refine keq_ne Da.1 Db.1 (Da.at ha) (Db.at hb) (Nat.lt_of_le_of_lt (Nat.le_add_right _ _) hu) (fun _ => hits_same Da.nodup hv _ fun _ h => h) ?_
  simpa using h
/-- whether a value is nothing -/
def plainNo : Value → Bool
  | .int i _ => i == 0
  | .str y _ => y == ""
  | _ => false
theorem val_ne {x : Str} {v nv : Value} (hu : A.units + 64 < cLine) (hv : IsVal v) (ho : IsOk v) (hf : fitWord x v = "") (hn : IsNothing x nv) (h : Q (.bool (!plainNo v)) s) : wpAny (model prg w) A (compareOp .NotEq v nv) Q E s := by
  obtain ⟨f1, f2, _⟩ := nothing_val hn
  refine ne_dataH (val_flat hv s.heap) (f1 s.heap) (valData_shaped ho) f2 hu ?_
  have e : PyData.eqv (valData v) (if isText x then .str "" else .int 0) = plainNo v := by
    unfold fitWord at hf
    rcases hv with ⟨i, t, rfl⟩ | ⟨y, t, rfl, _⟩
    · dsimp only at hf
      by_cases c : isText x = true
      · rw [if_pos c] at hf; exact absurd hf (by decide)
      · rw [if_neg c]
        simp [valData, plainNo, PyData.eqv]
    · dsimp only at hf
      by_cases c : isText x = true
      · rw [if_pos c]
        simp [valData, plainNo, PyData.eqv]
      · rw [if_neg c] at hf; exact absurd hf (by decide)
  rw [e]; exact h
end
theorem nothing_no {x : Str} {v : Value} (h : IsNothing x v) : plainNo v = true := by
  unfold IsNothing at h
  split at h
  · obtain ⟨t, rfl⟩ := h; rfl
  · obtain ⟨t, rfl⟩ := h; rfl
theorem nothing_fits {x : Str} {v : Value} (h : IsNothing x v) : IsVal v ∧ IsOk v ∧ fitWord x v = "" := by
  unfold IsNothing at h
  split at h
  · rename_i q
    obtain ⟨t, rfl⟩ := h
    exact ⟨.inr ⟨_, _, rfl, by decide⟩, fun y u e => by cases e; decide +kernel, by unfold fitWord; dsimp only; rw [if_pos q]; decide⟩
  · rename_i q
    obtain ⟨t, rfl⟩ := h
    exact ⟨.inl ⟨_, _, rfl⟩, (fun y u e => by cases e), by unfold fitWord; dsimp only; rw [if_neg q]; decide⟩
/-- lists that ascend and hold the same are the same -/
theorem asc_eq : ∀ {l l' : List Nat}, l.Pairwise (· < ·) → l'.Pairwise (· < ·) → (∀ a, a ∈ l ↔ a ∈ l') → l = l'
  | [], [], _, _, _ => rfl
  | [], b :: _, _, _, h => absurd ((h b).mpr (.head _)) (by simp)
  | a :: _, [], _, _, h => absurd ((h a).mp (.head _)) (by simp)
  | a :: r, b :: t, h1, h2, h => by
    rw [List.pairwise_cons] at h1 h2
    have e : a = b := by
      rcases List.mem_cons.mp ((h a).mp (.head _)) with q | q
      · exact q
      · rcases List.mem_cons.mp ((h b).mpr (.head _)) with q2 | q2
        · exact q2.symm
        · exact absurd (Nat.lt_trans (h2.1 a q) (h1.1 b q2)) (Nat.lt_irrefl _)
    subst e
    rw [asc_eq h1.2 h2.2 fun c => ?_]
    constructor
    · intro hc
      have := h1.1 c hc
      rcases List.mem_cons.mp ((h c).mp (.tail _ hc)) with q | q
      · subst q; exact absurd this (Nat.lt_irrefl _)
      · exact q
    · intro hc
      have := h2.1 c hc
      rcases List.mem_cons.mp ((h c).mpr (.tail _ hc)) with q | q
      · subst q; exact absurd this (Nat.lt_irrefl _)
      · exact q
section
variable {x : Str} {r : AR}
/-- the numbers of the places that were written -/
def AR.spots (r : AR) : List Int := (sortedWr r.wr).map fun e => placeOf r.bs e.1
/-- what was written, in that order -/
def AR.vals (r : AR) : List Value := (sortedWr r.wr).map (·.2.2)
theorem AR.Fits.spots_asc (X : r.Fits x) (hn : (r.wr.map (·.1)).Nodup) : r.spots.Pairwise (· < ·) := by
  unfold AR.spots
  rw [List.pairwise_map]
  have h := sortedWr_asc hn
  rw [List.pairwise_iff_forall_sublist] at h ⊢
  intro a b hab
  have ha : a ∈ sortedWr r.wr := hab.subset (by simp)
  have hb : b ∈ sortedWr r.wr := hab.subset (by simp)
  exact place_mono (X.keys a ((sortedWr_mem hn).mp ha)).1 (X.keys b ((sortedWr_mem hn).mp hb)).1 (h hab)
theorem at_key {wr : List (List Int × Addr × Value)} (hn : (wr.map (·.1)).Nodup) {e : List Int × Addr × Value} (he : e ∈ wr) : atKey wr e.1 = some e.2 := by
  unfold atKey
  cases q : wr.find? fun y => decide (y.1 = e.1) with
  | none => rw [List.find?_eq_none] at q; exact absurd (q _ he) (by simp)
  | some p =>
    have h1 := List.mem_of_find?_eq_some q
    have h2 := List.find?_some q
    have h2 : p.1 = e.1 := by simpa using h2
    obtain ⟨k, v⟩ := p
    obtain ⟨k', v'⟩ := e
    dsimp only at h2
    subst h2
    show some v = some v'
    congr 1
    clear q
    induction wr with
    | nil => cases h1
    | cons p r ih =>
      rw [List.map_cons, List.nodup_cons] at hn
      rcases List.mem_cons.mp h1 with e1 | h1 <;> rcases List.mem_cons.mp he with e2 | he
      · rw [← e1] at e2; exact (Prod.mk.inj e2).2.symm
      · exact absurd (List.mem_map_of_mem (f := (·.1)) he) (by rw [← e1] at hn; exact hn.1)
      · exact absurd (List.mem_map_of_mem (f := (·.1)) h1) (by rw [← e2] at hn; exact hn.1)
      · exact ih hn.2 h1 he
theorem AR.Fits.item (X : r.Fits x) (hn : (r.wr.map (·.1)).Nodup) {e : List Int × Addr × Value} (he : e ∈ r.wr) : r.items[(placeOf r.bs e.1).toNat]? = some e.2.2 := by
  obtain ⟨v, nv, _, h2, h3⟩ := X.at (X.keys e he).1
  rw [at_key hn he] at h3
  rw [h2, h3]; rfl
theorem AR.Fits.item_val (X : r.Fits x) (hn : (r.wr.map (·.1)).Nodup) {v : Value} (hv : v ∈ r.items) : IsVal v ∧ IsOk v ∧ fitWord x v = "" := by
  obtain ⟨nv, hno, hi⟩ := X.items
  obtain ⟨p, hp, rfl⟩ := List.getElem_of_mem hv
  have := hi p hp
  rw [List.getElem?_eq_getElem hp] at this
  rw [Option.some.inj this]
  unfold writtenAt
  cases q : r.wr.find? fun e => decide ((placeOf r.bs e.1).toNat = p) with
  | none => exact nothing_fits hno
  | some e =>
    obtain ⟨h1, h2, h3, h4⟩ := X.keys e (List.mem_of_find?_eq_some q)
    exact ⟨h3, h4, h2⟩
/-- the items that are not nothing are those written -/
theorem AR.Fits.left (X : r.Fits x) (hn : (r.wr.map (·.1)).Nodup) : r.items.filter (fun v => !plainNo v) = r.vals.filter fun v => !plainNo v := by
  obtain ⟨nv, hno, hi⟩ := X.items
  have e1 : r.items = (List.range r.items.length).map fun p => (writtenAt r.bs r.wr p).getD nv := by
    refine List.ext_getElem (by simp) fun i h1 h2 => ?_
    have := hi i h1
    rw [List.getElem?_eq_getElem h1] at this
    rw [Option.some.inj this]; simp
  have e2 : ∀ l : List Nat, (l.map fun p => (writtenAt r.bs r.wr p).getD nv).filter (fun v => !plainNo v) = ((l.filter fun p => (writtenAt r.bs r.wr p).isSome).map fun p => (writtenAt r.bs r.wr p).getD nv).filter fun v => !plainNo v := fun l => by
    induction l with
    | nil => rfl
    | cons p l ih =>
      rw [List.map_cons, List.filter_cons, List.filter_cons]
      cases q : writtenAt r.bs r.wr p with
      | none =>
        have : plainNo ((none : Option Value).getD nv) = true := nothing_no hno
        rw [this]
        simpa using ih
      | some v =>
        rw [if_pos (by rfl : (some v).isSome = true), List.map_cons, List.filter_cons, q, ih]
  have e3 : (List.range r.items.length).filter (fun p => (writtenAt r.bs r.wr p).isSome) = (sortedWr r.wr).map fun e => (placeOf r.bs e.1).toNat := by
    refine asc_eq ((List.pairwise_lt_range).filter _) ?_ fun p => ?_
    · have h := X.spots_asc hn
      unfold AR.spots at h
      rw [List.pairwise_map] at h ⊢
      rw [List.pairwise_iff_forall_sublist] at h ⊢
      intro a b hab
      have := h hab
      have h0 := (place_lt (X.keys a ((sortedWr_mem hn).mp (hab.subset (by simp)))).1).1
      exact (Int.toNat_lt_toNat (Int.lt_of_le_of_lt h0 this)).mpr this
    · rw [List.mem_filter, List.mem_map, List.mem_range]
      constructor
      · rintro ⟨_, h⟩
        unfold writtenAt at h
        rw [Option.isSome_map] at h
        obtain ⟨e, he⟩ := Option.isSome_iff_exists.mp h
        refine ⟨e, (sortedWr_mem hn).mpr (List.mem_of_find?_eq_some he), ?_⟩
        simpa using List.find?_some he
      · rintro ⟨e, he, rfl⟩
        have hm := (sortedWr_mem hn).mp he
        refine ⟨(X.inside (X.keys e hm).1).2, ?_⟩
        rw [written_at (fun e he => (X.keys e he).1) (X.keys e hm).1, at_key hn hm]; rfl
  rw [e1, e2, e3, List.map_map]
  unfold AR.vals
  congr 1
  refine List.map_congr_left fun e he => ?_
  have hm := (sortedWr_mem hn).mp he
  show (writtenAt r.bs r.wr (placeOf r.bs e.1).toNat).getD nv = e.2.2
  rw [written_at (fun e he => (X.keys e he).1) (X.keys e hm).1, at_key hn hm]; rfl
end

section
variable {w : World} {A : Around} {env : Env}
/-- a loop whose name lies in a cell -/
theorem forLoop_cell {R : Result → Shared → Prop} {x : Str} {px : Pos} {body : List Stmt} {I c : Addr} {fp wr : List Addr} {n : Nat} {P : Nat → Value → Prop} {St : Nat → Heap → Prop} (W : Walks prg w A I fp wr n P St) (hx : env.kindOf x = some .cell) (hk : env.scope.kind = .function) (hc : env.cells.lookup x = some c)
    (J : Nat → Shared → Prop) (hJ : ∀ i s, J i s → St i s.heap ∧ ∃ v₀, s.heap.IsCell c v₀) (hcw : c ∉ wr)
    (turn : ∀ i v s h₁ tk₁ h₂, i < n → J i s → P i v → St (i + 1) h₁ → (∀ b o, b ∉ wr → s.heap.get? b = some o → h₁.get? b = some o) → h₂.IsCell c (some v) → Heap.SameBut c h₁ h₂ →
      wpAny (model prg w) A (execs body env) (fun f s₃ => match f with | .next | .cont => J (i + 1) s₃ | .brk => R (.ok .next) s₃ | .ret v => R (.ok (.ret v)) s₃) (notedBy (model prg w) A env fun e s' => R (.error e) s') { s with heap := h₂, toks := tk₁ })
    (done : ∀ s h₁ tk₁, J n s → (∀ b o, b ∉ wr → s.heap.get? b = some o → h₁.get? b = some o) → R (.ok .next) { s with heap := h₁, toks := tk₁ }) {s : Shared} (h0 : J 0 s) :
    codeAny (model prg w) A (.forLoop (.Name x px) (.ref I) body [] env) R s := by
  refine codeAny_forLoop (fun k s' => ∃ i, J i s' ∧ i ≤ n ∧ k = n - i) ?_ n ⟨0, h0, Nat.zero_le _, rfl⟩
  rintro k s' ⟨i, hJi, hi, rfl⟩
  obtain ⟨hst, v₀, hcell⟩ := hJ i s' hJi
  by_cases hlt : i < n
  · refine W.item i _ _ _ hlt hst fun v h₁ tk₁ hP hst₁ hk₁ => ?_
    have hcell₁ : h₁.IsCell c v₀ := let ⟨o, ho, hd⟩ := hcell; ⟨o, hk₁ c o hcw ho, hd⟩
    refine wpAny_assign_Name (wpAny_storeName_cell hk hx hc hcell₁ fun h₂ hv₂ hs₂ => ?_)
    refine wpAny_mono (turn i v s' h₁ tk₁ h₂ hlt hJi hP hst₁ hk₁ hv₂ hs₂) (fun f s₃ h₃ => ?_) fun _ _ e => e
    cases f with
    | next => exact ⟨n - (i + 1), Nat.sub_lt_sub_left hlt (Nat.lt_succ_self i), i + 1, h₃, hlt, rfl⟩
    | cont => exact ⟨n - (i + 1), Nat.sub_lt_sub_left hlt (Nat.lt_succ_self i), i + 1, h₃, hlt, rfl⟩
    | brk => exact h₃
    | ret v => exact h₃
  · obtain rfl : i = n := Nat.le_antisymm hi (Nat.le_of_not_lt hlt)
    exact W.done _ _ _ hst fun h₁ tk₁ hk₁ => wpAny_execs_nil (done s' h₁ tk₁ hJi hk₁)
abbrev noRaise : Value → Shared → Prop := fun _ _ => False
/-- what a loop over a name in a cell finds -/
def LoopC (w : World) (A : Around) (env : Env) (x : Str) (body : List Stmt) (Q : Flow → Shared → Prop) (it : Value) (s₂ : Shared) : Prop :=
  ∃ (I c : Addr) (fp wr : List Addr) (n : Nat) (P : Nat → Value → Prop) (St : Nat → Heap → Prop) (J : Nat → Shared → Prop), it = .ref I ∧ Walks prg w A I fp wr n P St ∧ env.cells.lookup x = some c ∧ c ∉ wr ∧ (∀ i s, J i s → St i s.heap ∧ ∃ v₀, s.heap.IsCell c v₀) ∧ J 0 s₂ ∧
    (∀ i v s h₁ tk₁ h₂, i < n → J i s → P i v → St (i + 1) h₁ → (∀ b o, b ∉ wr → s.heap.get? b = some o → h₁.get? b = some o) → h₂.IsCell c (some v) → Heap.SameBut c h₁ h₂ →
      wpAny (model prg w) A (execs body env) (fun f s₃ => f = .next ∧ J (i + 1) s₃) noRaise { s with heap := h₂, toks := tk₁ }) ∧
    ∀ s h₁ tk₁, J n s → (∀ b o, b ∉ wr → s.heap.get? b = some o → h₁.get? b = some o) → Q .next { s with heap := h₁, toks := tk₁ }
theorem For_cell {E : Value → Shared → Prop} {Q : Flow → Shared → Prop} {s : Shared} {x : Str} {px pos : Pos} {iter : PySem.Expr} {body : List Stmt} (hx : env.kindOf x = some .cell) (hk : env.scope.kind = .function)
    (h : wpAny (model prg w) A (eval iter env) (fun xv s₁ => wpAny (model prg w) A (pyIter xv) (fun it s₂ => LoopC w A env x body Q it s₂) noRaise s₁) noRaise s)
    (hs : ∀ x, foldedSetIterable iter env x = pure x := by intro _; rfl) : wpAny (model prg w) A (exec (.For (.Name x px) iter body [] pos) env) Q E s := by
  refine wpAny_mono (E := noRaise) (wpAny_For (wpAny_mono h (fun xv s₁ h₁ => wpAny_mono h₁ (fun it s₂ h₂ => ?_) fun _ _ e => e) fun _ _ e => e) hs) (fun _ _ q => q) fun _ _ e => e.elim
  obtain ⟨I, c, fp, wr, n, P, St, J, rfl, W, hc, hcw, hJ, h0, turn, done⟩ := h₂
  refine forLoop_cell (R := fun r s' => match r with | .ok f => Q f s' | .error e => cameBackBy (model prg w) A env noRaise e s') W hx hk hc J hJ hcw (fun i v s h₁ tk₁ h₂ a1 a2 a3 a4 a5 a6 a7 => ?_) done h0
  refine wpAny_passesOwn PassesOwn.never (wpAny_mono (turn i v s h₁ tk₁ h₂ a1 a2 a3 a4 a5 a6 a7) (fun f s₃ q => ?_) fun _ _ e => e)
  obtain ⟨rfl, q⟩ := q
  exact q
end
/-- the names of a turn upon those that stay -/
def turnM (base : Str → Option Value) (pl bn mn bo : Option Value) : Str → Option Value := fun y => if y = "places" then pl else if y = "bound" then bn else if y = "many" then mn else if y = "bounds" then bo else base y
theorem turnM_of {base m' : Str → Option Value} (hm : ∀ y : Str, y ≠ "places" → y ≠ "bound" → y ≠ "many" → y ≠ "bounds" → m' y = base y) : m' = turnM base (m' "places") (m' "bound") (m' "many") (m' "bounds") := by
  funext y
  unfold turnM
  by_cases h1 : y = "places"
  · rw [if_pos h1, h1]
  · rw [if_neg h1]
    by_cases h2 : y = "bound"
    · rw [if_pos h2, h2]
    · rw [if_neg h2]
      by_cases h3 : y = "many"
      · rw [if_pos h3, h3]
      · rw [if_neg h3]
        by_cases h4 : y = "bounds"
        · rw [if_pos h4, h4]
        · rw [if_neg h4]; exact hm y h1 h2 h3 h4
/-- where a turn begins and ends -/
def RightJ (g : Heap) (L : Addr) (base : Str → Option Value) (o3 : Obj) (bd I : Addr) (n ep : Nat) (s : Shared) (i : Nat) (s' : Shared) : Prop :=
  ∃ h' tk dr oN oW oI pl bn mn bo vN vW, s' = { s with heap := h', toks := tk, drawn := dr } ∧ Fr g L h' (turnM base pl bn mn bo) ∧ News g L h' [(L + 1 + 1 + 1, oW), (L + 1 + 1, oN), (L + 1, o3), (I, oI)] ∧ oN.data = .cell vN ∧ oW.data = .cell vW ∧
    oI.cls = .type "dict_keyiterator" ∧ oI.data = .fields #[.ref bd, .int i 0, .int n 0, .int ep 0]
theorem RightJ.intro {g h' : Heap} {L bd I : Addr} {base m' : Str → Option Value} {o3 oN oW oI : Obj} {n ep i tk : Nat} {s : Shared} {dr : Drawn} {vN vW : Option Value} {news : List (Addr × Obj)} (F : Fr g L h' m') (hm : ∀ y : Str, y ≠ "places" → y ≠ "bound" → y ≠ "many" → y ≠ "bounds" → m' y = base y)
    (N : News g L h' news) (sub : ∀ p ∈ [(L + 1 + 1 + 1, oW), (L + 1 + 1, oN), (L + 1, o3), (I, oI)], p ∈ news) (hN : oN.data = .cell vN) (hW : oW.data = .cell vW) (hc : oI.cls = .type "dict_keyiterator") (hd : oI.data = .fields #[.ref bd, .int i 0, .int n 0, .int ep 0]) :
    RightJ g L base o3 bd I n ep s i { s with heap := h', toks := tk, drawn := dr } :=
  ⟨h', tk, dr, oN, oW, oI, _, _, _, _, vN, vW, rfl, turnM_of hm ▸ F, fun p hp => N p (sub p hp), hN, hW, hc, hd⟩
/-- a turn has ended -/
def TurnEnd (g : Heap) (L : Addr) (base : Str → Option Value) (o3 : Obj) (bd I : Addr) (n ep : Nat) (s : Shared) (i : Nat) (f : Flow) (s' : Shared) : Prop := f = .next ∧ RightJ g L base o3 bd I n ep s i s'
theorem turn_start {g h' g1 g2 : Heap} {L I bd : Addr} {m : Str → Option Value} {oW oN o3 oI : Obj} {i n ep : Nat} {v : Value} (F : Fr g L h' m) (N : News g L h' [(L + 1 + 1 + 1, oW), (L + 1 + 1, oN), (L + 1, o3), (I, oI)]) (hI : @LT.lt Nat _ (L + 1 + 1 + 1) I) (hk : ∀ b o, b ∉ [I] → h'.get? b = some o → g1.get? b = some o)
    (hit : g1.IsKeyIter I bd i n ep) (hcl : g2.IsCell (L + 1 + 1) (some v)) (hsb : Heap.SameBut (L + 1 + 1) g1 g2) :
    ∃ oN' oI', Fr g L g2 m ∧ News g L g2 [(L + 1 + 1 + 1, oW), (L + 1 + 1, oN'), (L + 1, o3), (I, oI')] ∧ oN'.data = .cell (some v) ∧ oI'.cls = .type "dict_keyiterator" ∧ oI'.data = .fields #[.ref bd, .int i 0, .int n 0, .int ep 0] := by
  obtain ⟨oI', f1, f2, f3⟩ := hit
  obtain ⟨oN', f4, f5⟩ := hcl
  have nI := (N (I, oI) (by simp)).2
  have nC := (N (L + 1 + 1, oN) (by simp)).2
  have hs : ∀ b o, b ≠ L + 1 + 1 → g1.get? b = some o → g2.get? b = some o := fun b o hb e => hsb.extBut b o hb e
  have up : ∀ b o, @Ne Nat b I → @Ne Nat b (L + 1 + 1) → h'.get? b = some o → g2.get? b = some o := fun b o h1 h2 e => hs b o h2 (hk b o (fun z => h1 (List.mem_singleton.mp z)) e)
  have inG : ∀ b o, g.get? b = some o → @Ne Nat b I ∧ @Ne Nat b (L + 1 + 1) := fun b o e => ⟨(fun z => by have z : b = I := z; rw [z, nI.2] at e; cases e), (fun z => by have z : b = L + 1 + 1 := z; rw [z, nC.2] at e; cases e)⟩
  have up' : ∀ b o, @Ne Nat b I → @Ne Nat b (L + 1 + 1) → h'.get? b = some o → g2.get? b = some o := up
  refine ⟨oN', oI', ⟨F.ns.at' fun o e => up _ o (fun z => nI.1 z.symm) (fun z => nC.1 z.symm) e, fun b o e => up b o (inG b o e).1 (inG b o e).2 (F.keep b o e), F.above⟩, fun p hp => ?_, f5, f2, f3⟩
  simp only [List.mem_cons, List.not_mem_nil, or_false] at hp
  rcases hp with rfl | rfl | rfl | rfl
  · have := N (L + 1 + 1 + 1, oW) (by simp)
    exact ⟨up _ _ (Nat.ne_of_lt hI) (Nat.ne_of_gt (Nat.lt_succ_self _)) this.1, this.2⟩
  · exact ⟨f4, nC⟩
  · have := N (L + 1, o3) (by simp)
    exact ⟨up _ _ (Nat.ne_of_lt (Nat.lt_of_succ_lt (Nat.lt_of_succ_lt hI))) (Nat.ne_of_lt (Nat.lt_succ_self _)) this.1, this.2⟩
  · exact ⟨hs _ _ (Nat.ne_of_gt (Nat.lt_of_succ_lt hI)) f1, nI⟩
theorem ST.Ok.found {w : World} {h : Heap} {S : ST} (O : S.Ok w h) {x : Str} {r : AR} (hr : (x, r) ∈ S.as) : S.find x = some r := by
  cases q : S.find x with
  | none => exact absurd rfl (ST.find_none q _ hr)
  | some r' => rw [name_one O.nodup (ST.mem_find q) hr]
theorem ints_same {w : World} {A : Around} {E : Value → Shared → Prop} {s : Shared} {a b : Addr} {xs ys : List Value} {ns : List Int} {c c' : Nat} {Q : Value → Shared → Prop} (hu : A.units + 64 < cLine) (ha : s.heap.get? a = some (listOf xs.toArray c)) (hb : s.heap.get? b = some (listOf ys.toArray c')) (hi : IntsAre xs ns) (hj : IntsAre ys ns) (h : Q (.bool false) s) :
    wpAny (model prg w) A (compareOp .NotEq (.ref a) (.ref b)) Q E s :=
  ke_ne_ints (isList_get ha) (isList_get hb) hi hj hu (by simpa using h)
/-- an element of a comprehension has been made -/
def EltEnd (h₀ : Heap) (L : Addr) (m : Str → Option Value) (s₁ : Shared) (I : Addr) (oI : Obj) (C : Addr) (oC : Obj) (D : Addr) (oD : Obj) (S : List (Addr × Obj) → Prop) (news : List (Addr × Obj)) (Fy : Value → Prop) (y : Value) (s₂ : Shared) : Prop :=
  LCg.CompEnd h₀ L m s₁ I oI C oC D oD S (fun y news' => news' = news ∧ Fy y) y s₂
section
variable {h₀ h' : Heap} {L I C D : Addr} {m : Str → Option Value} {s₁ : Shared} {oI oC oD : Obj} {S : List (Addr × Obj) → Prop} {news all : List (Addr × Obj)} {Fy : Value → Prop} {y : Value} {tk : Nat}
theorem EltEnd.intro (F : Fr h₀ L h' m) (N : News h₀ L h' all) (sub : ∀ p ∈ (I, oI) :: (C, oC) :: (D, oD) :: news, p ∈ all) (off : LCg.Off3 I C D news) (hS : S news) (hy : Fy y) :
    EltEnd h₀ L m s₁ I oI C oC D oD S news Fy y { s₁ with heap := h', toks := tk } := LCg.CompEnd.intro F N news sub off hS ⟨rfl, hy⟩
end
section
variable {w : World} {A : Around} {h₀ : Heap} {L : Addr} {m : Str → Option Value} {env : Env} {ct elt : PySem.Expr} {x : Str} {scope : Scope} {cl : List (Str × Addr)} {s : Shared} {S : List (Addr × Obj) → Prop} {P : Nat → Value → Prop} {Fin : List Value → List (Addr × Obj) → Prop} {news : List (Addr × Obj)}
theorem snoc_at {α : Type} {ys : List α} {y u : α} {k i : Nat} {P : Nat → α → Prop} (hl : ys.length = i) (hy : ∀ k u, ys[k]? = some u → P k u) (h : P i y) (hk : (ys ++ [y])[k]? = some u) : P k u := by
  by_cases q : k < ys.length
  · rw [List.getElem?_append_left q] at hk; exact hy k u hk
  · rw [List.getElem?_append_right (Nat.le_of_not_lt q), hl] at hk
    rw [hl] at q
    cases c : k - i with
    | zero =>
      have e : k = i := Nat.le_antisymm (Nat.le_of_sub_eq_zero c) (Nat.le_of_not_lt q)
      rw [c] at hk; cases hk
      rw [e]; exact h
    | succ d => rw [c, List.getElem?_cons_succ, List.getElem?_nil] at hk; cases hk
theorem comp_rest {n : Nat} (Fy : Nat → Value → Prop) (turn : ∀ i v I oI C oC D m₂ ys h tk (E' : Value → Shared → Prop), i < n → P i v → LCg.NsObj oC m₂ → m₂ x = some v → Fr h₀ L h m → News h₀ L h ((I, oI) :: (C, oC) :: (D, LCg.lst ys) :: news) → LCg.Off3 I C D news → ((@Ne Nat I C) ∧ (@Ne Nat I D) ∧ (@Ne Nat C D)) →
      wpAny (model prg w) A (eval elt (compEnvC scope cl C env)) (EltEnd h₀ L m { s with heap := h, toks := tk } I oI C oC D (LCg.lst ys) S news (Fy i)) E' { s with heap := h, toks := tk })
    (fin : ∀ ys, ys.length = n → (∀ i y, ys[i]? = some y → Fy i y) → Fin ys news) : LCg.CompRest prg w A h₀ L m env elt x scope cl s S P Fin n 0 [] news := by
  have key : ∀ (j i : Nat) (ys : List Value), i + j = n → ys.length = i → (∀ i y, ys[i]? = some y → Fy i y) → LCg.CompRest prg w A h₀ L m env elt x scope cl s S P Fin j i ys news := by
    intro j
    induction j with
    | zero =>
      intro i ys hi hl hy
      exact LCg.CompRest.zero (fin ys (hl.trans hi) hy)
    | succ j ih =>
      intro i ys hi hl hy
      refine LCg.CompRest.succ ?_
      intro v I oI C oC D m₂ h tk E' hv hC hx F N off ne
      refine wpAny_mono (turn i v I oI C oC D m₂ ys h tk E' (lt_of_step (Nat.le_of_eq hi)) hv hC hx F N off ne) (fun y s₂ hq => ?_) fun _ _ e => e
      obtain ⟨h', tk', nw, e, F', N', off', hS, hn, hF⟩ := hq
      rw [hn] at N' off' hS
      refine ⟨h', tk', news, e, F', N', off', hS, ih (i + 1) _ ((Nat.add_right_comm i 1 j).trans hi) (by rw [List.length_append, hl]; rfl) fun k u hk => snoc_at hl hy hF hk⟩
  exact key n 0 [] (Nat.zero_add n) rfl fun _ _ h => by simp at h
/-- a test of a comprehension has been made -/
def TestEnd (w : World) (A : Around) (h₀ : Heap) (L : Addr) (m : Str → Option Value) (elt : PySem.Expr) (env' : Env) (s₁ : Shared) (I : Addr) (oI : Obj) (C : Addr) (oC : Obj) (D : Addr) (oD : Obj) (S : List (Addr × Obj) → Prop) (news : List (Addr × Obj)) (q : Bool) (u : Value) (E' : Value → Shared → Prop) (ok : Bool) (s' : Shared) : Prop :=
  ok = q ∧ if q = true then wpAny (model prg w) A (eval elt env') (EltEnd h₀ L m s₁ I oI C oC D oD S news (fun y => y = u)) E' s' else EltEnd h₀ L m s₁ I oI C oC D oD S news (fun _ => True) Value.none s'
theorem comp_restT {us : List Value} {n : Nat} (hn : us.length = n) (q : Value → Bool) (turn : ∀ i u v I oI C oC D m₂ ys h tk (E' : Value → Shared → Prop), us[i]? = some u → P i v → LCg.NsObj oC m₂ → m₂ x = some v → Fr h₀ L h m → News h₀ L h ((I, oI) :: (C, oC) :: (D, LCg.lst ys) :: news) → LCg.Off3 I C D news → ((@Ne Nat I C) ∧ (@Ne Nat I D) ∧ (@Ne Nat C D)) →
      wpAny (model prg w) A (isTrue ct (compEnvC scope cl C env) (eval ct (compEnvC scope cl C env))) (TestEnd w A h₀ L m elt (compEnvC scope cl C env) { s with heap := h, toks := tk } I oI C oC D (LCg.lst ys) S news (q u) u E') E' { s with heap := h, toks := tk })
    (fin : Fin (us.filter q) news) : LCt.CompRestT prg w A h₀ L m env ct elt x scope cl s S P Fin n 0 [] news := by
  have key : ∀ (j i : Nat), i + j = n → LCt.CompRestT prg w A h₀ L m env ct elt x scope cl s S P Fin j i ((us.take i).filter q) news := by
    intro j
    induction j with
    | zero =>
      intro i hi
      rw [List.take_of_length_le (show us.length ≤ i from Nat.le_of_eq (hn.trans hi.symm))]
      exact LCt.CompRestT.zero fin
    | succ j ih =>
      intro i hi
      refine LCt.CompRestT.succ ?_
      intro v I oI C oC D m₂ h tk E' hv hC hx F N off ne
      have hlt : i < us.length := Nat.lt_of_lt_of_le (lt_of_step (Nat.le_of_eq hi)) (Nat.le_of_eq hn.symm)
      have hu : us[i]? = some us[i] := List.getElem?_eq_getElem hlt
      have ih' := ih (i + 1) ((Nat.add_right_comm i 1 j).trans hi)
      rw [List.take_add_one, hu, List.filter_append] at ih'
      refine wpAny_mono (turn i _ v I oI C oC D m₂ _ h tk E' hu hv hC hx F N off ne) (fun ok s₂ hq => ?_) fun _ _ e => e
      obtain ⟨rfl, hq⟩ := hq
      by_cases c : q us[i] = true
      · rw [if_pos c] at hq ⊢
        refine wpAny_mono hq (fun y s₃ hq => ?_) fun _ _ e => e
        obtain ⟨h', tk', nw, e, F', N', off', hS, hn, rfl⟩ := hq
        rw [hn] at N' off' hS
        refine ⟨h', tk', news, e, F', N', off', hS, ?_⟩
        simpa [c] using ih'
      · rw [if_neg c] at hq ⊢
        obtain ⟨h', tk', nw, e, F', N', off', hS, hn, _⟩ := hq
        rw [hn] at N' off' hS
        refine ⟨h', tk', news, e, F', N', off', hS, ?_⟩
        simpa [c] using ih'
  exact key n 0 (Nat.zero_add n)
end
theorem ints_all : ∀ {ys : List Value} {ns : List Int}, ys.length = ns.length → (∀ (i : Nat) (y : Value), ys[i]? = some y → ∃ n t, ns[i]? = some n ∧ y = .int n t) → IntsAre ys ns
  | [], [], _, _ => .nil
  | [], _ :: _, h, _ => by simp at h
  | _ :: _, [], h, _ => by simp at h
  | y :: ys, n :: ns, h, hy => by
    obtain ⟨n', t, e, rfl⟩ := hy 0 y rfl
    simp at e; subst e
    exact .cons _ t (ints_all (by simpa using h) fun i u hu => hy (i + 1) u (by simpa using hu))
theorem vals_all {ys us : List Value} (h : ys.length = us.length) (hy : ∀ (i : Nat) (y : Value), ys[i]? = some y → us[i]? = some y) : ys = us := by
  refine List.ext_getElem h fun i h1 h2 => ?_
  have := hy i ys[i] (List.getElem?_eq_getElem h1)
  rw [List.getElem?_eq_getElem h2] at this
  exact (Option.some.inj this).symm
theorem key_tup {w : World} {h : Heap} {a : Addr} {k : List Int} (x : (tkn w).is h k a) : ∃ items, IsTup h a items ∧ IntsAre items.toList k := by
  obtain ⟨o, it, n, t1, t2, t3, t4⟩ := x
  refine ⟨it, ⟨o, t1, t2, n, t3⟩, ?_⟩
  generalize it.toList = l at t4
  clear t1 t2 t3
  induction t4 with
  | nil => exact .nil
  | cons hk _ ih =>
    obtain ⟨u, rfl⟩ := Value.isInt_shape hk
    exact .cons _ _ ih
theorem AR.Fits.nonempty {x : Str} {r : AR} (X : r.Fits x) (hn : (r.wr.map (·.1)).Nodup) (h2 : 2 ≤ r.wr.length) : ∀ e ∈ r.wr, e.1 ≠ [] := fun e he z => by
  have hb : r.bs.length = 0 := by rw [(place_ok (X.keys e he).1).1, z]; rfl
  have all : ∀ y ∈ r.wr, y.1 = [] := fun y hy => List.length_eq_zero_iff.mp (by rw [← (place_ok (X.keys y hy).1).1, hb])
  match q : r.wr, h2 with
  | a :: b :: l, _ =>
    rw [q] at hn all
    have h1 := all a (by simp)
    have h2 := all b (by simp)
    simp [h1, h2] at hn
theorem key_kp {w : World} {g h : Heap} {L a : Addr} {m : Str → Option Value} {k : List Int} (x : (tkn w).is g k a) (F : Fr g L h m) : (tkn w).is h k a := by
  obtain ⟨o, it, n, t1, t2⟩ := x
  exact ⟨o, it, n, F.keep _ _ t1, t2⟩
theorem turn_last {g h' g1 : Heap} {L I : Addr} {m : Str → Option Value} {oW oN o3 oI : Obj} {c1 c2 c3 : Addr} (F : Fr g L h' m) (N : News g L h' [(c1, oW), (c2, oN), (c3, o3), (I, oI)]) (hk : ∀ b o, b ∉ [I] → h'.get? b = some o → g1.get? b = some o) : Fr g L g1 m := by
  have nI := (N (I, oI) (by simp)).2
  exact ⟨F.ns.at' fun o e => hk _ o (fun z => nI.1 (List.mem_singleton.mp z).symm) e, fun b o e => hk b o (fun z => by have z : b = I := List.mem_singleton.mp z; rw [z, nI.2] at e; cases e) (F.keep b o e), F.above⟩

section
variable {w : World} {A : Around} {E : Value → Shared → Prop} {s : Shared} {env : Env}
/-- an expression whose value is had without a trace -/
def Ev (w : World) (A : Around) (env : Env) (s : Shared) (x : PySem.Expr) (v : Value) : Prop := ∀ (E : Value → Shared → Prop) (Q : Value → Shared → Prop), Q v s → wpAny (model prg w) A (eval x env) Q E s
/-- the same for several -/
inductive Evs (w : World) (A : Around) (env : Env) (s : Shared) : List PySem.Expr → List Value → Prop
  | nil : Evs w A env s [] []
  | cons {x : PySem.Expr} {xs : List PySem.Expr} {v : Value} {vs : List Value} (h : Ev w A env s x v) (he : starEach (x :: xs) env = (false, eval x env) :: starEach xs env) (r : Evs w A env s xs vs) : Evs w A env s (x :: xs) (v :: vs)
theorem spliced_evs {xs : List PySem.Expr} {vs : List Value} {pos : Pos} (h : Evs w A env s xs vs) : ∀ {Q : List Value → Shared → Prop}, Q vs s → wpAny (model prg w) A (spliced (backTo pos (starEach xs env))) Q E s := by
  induction h with
  | nil => exact fun k => spliced_none k
  | cons h he _ ih => exact fun k => spliced_more (h _ _ (ih k)) he
end
section
variable {w : World} {A : Around} {s : Shared} {g : Heap} {L a : Addr} {m : Str → Option Value} {news : List (Addr × Obj)} {cn : Str} {cs : Scope} {cd : Value} {cl : List (Str × Addr)} {x : Str} {v : Value} {p : Pos} {c : Addr} {o : Obj}
theorem ev_L (F : Fr g L s.heap m) (hv : m x = some v) (hk : cs.kind = .function) (hx : (envX cn cs L a cd cl).kindOf x = some .local) (hd : (x == ("__debug__" : Str)) = false) : Ev w A (envX cn cs L a cd cl) s (.Name x p) v := fun _ _ h => nameX_L F hv h hk hx hd
theorem ev_C (N : News g L s.heap news) (hc : cl.lookup x = some c) (hm : (c, o) ∈ news) (hd : o.data = .cell (some v)) (hk : cs.kind = .function) (hx : (envX cn cs L a cd cl).kindOf x = some .cell) (hb : (x == ("__debug__" : Str)) = false) : Ev w A (envX cn cs L a cd cl) s (.Name x p) v := fun _ _ h => nameX_C N hc hm hd h hk hx hb
end
section
variable {w : World} {A : Around} {E : Value → Shared → Prop} {s : Shared} {env : Env} {x : PySem.Expr} {body : List Stmt} {n k : Int} {tn : Tok} {i : Nat} {p1 p2 p3 : Pos} {Q : Flow → Shared → Prop}
theorem If_no (hx : Ev w A env s x (.int n tn)) (hn : (n == k) = false) (h : Q .next { s with toks := s.toks + 1 }) : wpAny (model prg w) A (exec (.If (.Compare x [.Eq] [.Constant (.int k) i p1] p2) body [] p3) env) Q E s := by
  refine wpAny_If (wpAny_isTrue_Compare1 (hx _ _ (wpAny_Constant_int (PyProof.Rows.eq_int ?_))))
  rw [hn]
  exact wpAny_truthy_bool (wpAny_execs_nil h)
theorem If_yes (hx : Ev w A env s x (.int n tn)) (hn : (n == k) = true) (h : wpAny (model prg w) A (execs body env) Q E { s with toks := s.toks + 1 }) : wpAny (model prg w) A (exec (.If (.Compare x [.Eq] [.Constant (.int k) i p1] p2) body [] p3) env) Q E s := by
  refine wpAny_If (wpAny_isTrue_Compare1 (hx _ _ (wpAny_Constant_int (PyProof.Rows.eq_int ?_))))
  rw [hn]
  exact wpAny_truthy_bool h
end

theorem allNe_all {d : Nat} {p : Addr × Obj} : ∀ {news : List (Addr × Obj)}, AllNe d news → p ∈ news → p.1 ≠ d
  | [], _, h => nomatch h
  | _ :: _, h, hm => by
    rcases List.mem_cons.mp hm with rfl | hm
    · exact h.1
    · exact allNe_all h.2 hm
theorem allLt_all {d : Nat} {p : Addr × Obj} : ∀ {news : List (Addr × Obj)}, AllLt d news → p ∈ news → p.1 ≠ d
  | [], _, h => nomatch h
  | _ :: _, h, hm => by
    rcases List.mem_cons.mp hm with rfl | hm
    · exact Nat.ne_of_lt h.1
    · exact allLt_all h.2 hm

theorem words_final_m_0b : True := by
  k_with "m_ev" => (with_reducible show Ev _ _ _ _ (Expr.Name _ _) _); first | (refine' ev_L ?zzF ?zzm ?zzk ?zzx ?zzd; (case zzk => exact rfl); (case zzx => exact rfl); (case zzd => decide); (case zzF => assumption); (case zzm => exact rfl)) | (refine' ev_C ?zzN ?zzc ?zzm ?zzd ?zzk ?zzx ?zzb; (case zzk => exact rfl); (case zzx => exact rfl); (case zzb => decide); (case zzN => assumption); (case zzc => exact rfl); (case zzm => k_mem); (case zzd => assumption))
  k_with "m_evs" => first | exact Evs.nil | (refine' Evs.cons ?zzEa ?zzEb ?zzEc; (case zzEb => exact rfl); (case zzEa => walk_at "m_ev"); (case zzEc => walk_at "m_evs"))
  k_with "spliced" => (k_here; (with_reducible show wpAny _ _ (spliced (backTo _ (starEach (Expr.Name _ _ :: _) _))) _ _ _); k_dflt (refine' spliced_evs (Q := _) ?zzEv ?_; (case zzEv => walk_at "m_evs")); (try dsimp only [List.cons_append, List.nil_append]))
  k_with "exec If" => (k_here; (with_reducible show wpAny _ _ (exec (Stmt.If (Expr.Compare (Expr.Name _ _) _ [Expr.Constant (Const.int _) _ _] _) _ [] _) _) _ _ _); k_dflt (first | (refine' If_no ?zzEx ?zzEn ?_; (case zzEx => walk_at "m_ev"); (case zzEn => decide)) | (refine' If_yes ?zzEx ?zzEn ?_; (case zzEx => walk_at "m_ev"); (case zzEn => decide))))
  trivial

local macro_rules | `(tactic| k_mem) => `(tactic| assumption)
theorem words_final_m_10 : True := by
  k_with "m_all" => first | assumption | (intro p9 hp9; exact allNe_all (by assumption) (by k_mem)) | (intro p9 hp9; exact allLt_all (by assumption) (by k_mem))
  k_with "binaryOp Mod int int" => (k_here; k_dflt (refine' mod_known ?zzh ?zzb ?_; (case zzh => assumption); (case zzb => decide)))
  k_with "eval IfExp" => (k_here; (fail_if_success (with_reducible rename Go => hgo9)); k_dflt (refine stopM ?_))
  k_with "exec If" => (k_here; (with_reducible show wpAny _ _ (exec (Stmt.If (Expr.Compare (Expr.Name _ _) _ [Expr.Constant (Const.str _) _ _] _) _ [] _) _) _ _ _); (fail_if_success (with_reducible rename Go => hgo9)); k_dflt (refine stopM ?_))
  k_with "compareOp Eq ref ref" => (k_here; k_dflt (refine stopM ?_))
  k_with "getMethod ref" => (k_here; (with_reducible show wpAny _ _ (getMethod (Value.ref _) (Str.ofString "get") _) _ _ _); k_dflt (refine' get_method_wd ?zzg ?zzD ?_; (case zzD => assumption); (case zzg => walk_at "m_get")))
  k_with "m_keys" => first | assumption | exact KeysAt.kp (by assumption) (fun x _ o e => Fr.keep (by assumption) _ _ e)
  k_with "call builtin:dict.get" => (k_here; (with_reducible show wpAny _ _ (call (Value.builtin "dict.get") [Value.ref _, Value.ref _, _]) _ _ _); k_dflt (refine' get_wd ?zzu ?zzd ?zzg ?zzD ?zzK ?zzk ?_; (case zzu => exact Rm.clear64 (by assumption)); (case zzd => assumption); (case zzD => assumption); (case zzg => walk_at "m_get"); (case zzK => walk_at "m_keys"); (case zzk => exact key_at (by walk_at "m_get") (by assumption))); intro tk'; (revert tk'; intros))
  k_with "call type:tuple" => (k_here; (with_reducible show wpAny _ _ (call (Value.type _) [Value.ref _]) _ _ _); k_dflt (refine' kde_tupleOf ?zzF ?zzN ?zzl ?zzz ?zze ?_; (case zzF => assumption); (case zzN => assumption); (case zzl => exact isList_get (by walk_at "m_get")); (case zzz => (rw [List.size_toArray]; first | exact Nat.le_trans (by assumption) (by decide) | (rw [IntsAre.length (by assumption)]; exact Nat.le_trans (by assumption) (by decide)) | omega)); (case zze => exact rfl)); intro D' h' F' N' l1; (try (have lA' := allLt_of l1)); (try k_lt l1); (first | (revert D' h' F' N' l1 lA'; intros) | (revert D' h' F' N' l1; intros)); (try k_sweep))
  k_with "setItem ref ref" => (k_here; k_dflt (refine' set_wd ?zzu ?zzF ?zzN ?zzU ?zzD ?zzK ?zzk ?zzz ?_; (case zzu => exact Rm.clear64 (by assumption)); (case zzF => assumption); (case zzN => assumption); (case zzU => k_updF); (case zzD => assumption); (case zzK => walk_at "m_keys"); (case zzk => exact key_at (by walk_at "m_get") (by assumption)); (case zzz => walk_at "m_sm")); intro h' o' tk' F' N' D'; (try dsimp only at N'); (revert h' o' tk' F' N' D'; intros); (try k_sweep))
  k_with "callWith ref" => (k_here; (with_reducible show wpAny _ _ (callWith _ (Value.ref _) _ _ _) _ _ _); k_dflt (refine' callWith_K ?zzk1 ?zzk2 ?_; (case zzk1 => k_asm); (case zzk2 => k_is); k_whole))
  trivial

theorem with_five {cm : Str → Option Value} {n₁ n₂ n₃ n₄ n₅ : Str} {c₁ c₂ c₃ c₄ c₅ : Addr} {Pr : List (Addr × Obj) → Prop} {cells : List (Addr × Obj)} (x : CellsAre cm [(n₁, c₁), (n₂, c₂), (n₃, c₃), (n₄, c₄), (n₅, c₅)] cells)
    (k : ∀ o₁ o₂ o₃ o₄ o₅ : Obj, o₁.data = .cell (cm n₁) → o₂.data = .cell (cm n₂) → o₃.data = .cell (cm n₃) → o₄.data = .cell (cm n₄) → o₅.data = .cell (cm n₅) → Pr [(c₁, o₁), (c₂, o₂), (c₃, o₃), (c₄, o₄), (c₅, o₅)]) : Pr cells := by
  refine foldG fun G9 hG9 => ?_
  obtain ⟨o₁, o₂, o₃, o₄, o₅, rfl, h₁, h₂, h₃, h₄, h₅⟩ := kc_five x
  refine hG9 ?_
  clear hG9 G9
  exact k o₁ o₂ o₃ o₄ o₅ h₁ h₂ h₃ h₄ h₅
/-- the names kept behind a deed of the first form -/
def putIf (kvs : List (Str × Value)) (x : Str) (v : Value) : List (Str × Value) := if fitWord x v = "" then stored kvs x v else kvs
section
variable {w : World} {A : Around} {E : Value → Shared → Prop} {s : Shared} {Q : Flow → Shared → Prop} {T : Sem Flow} {g : Heap} {L a : Addr} {o0 : Obj} {m : Str → Option Value} {r : List (Addr × Obj)}
/-- a statement that may turn one object -/
def ObjPost (g : Heap) (L : Addr) (m : Str → Option Value) (a : Addr) (r : List (Addr × Obj)) (P : Obj → Prop) (s : Shared) (f : Flow) (s' : Shared) : Prop :=
  ∃ h' tk o, f = .next ∧ s' = { s with heap := h', toks := tk } ∧ Fr g L h' m ∧ News g L h' ((a, o) :: r) ∧ P o
theorem join_obj (P : Obj → Prop) (_F : Fr g L s.heap m) (_N : News g L s.heap ((a, o0) :: r)) (h : wpAny (model prg w) A T (ObjPost g L m a r P s) E s)
    (k : ∀ h' tk o, Fr g L h' m → News g L h' ((a, o) :: r) → P o → Q .next { s with heap := h', toks := tk }) : wpAny (model prg w) A T Q E s :=
  wpAny_mono h (fun _ _ h => let ⟨h', tk, o, e1, e2, F, N, p⟩ := h; by subst e1 e2; exact k h' tk o F N p) fun _ _ e => e
end
section
variable {w : World} {loose : List Str} {mean : ExcName → Option Value} {mg mb : Str → Option Value} {b0 : Heap} {A : Around} {outer : List Env} {s : Shared} {R : Result → Shared → Prop} {t : Tok}

theorem led_same {fs : List Addr} {h0 h' : Heap} {S : ST} (O : S.Ok w h0) (hfs : ∀ a ∈ S.muts ++ S.imms, a ∉ fs) (kp : Kept fs [211] h0 h') {ps : Array Value} (ht : h'.get? 211 = some (tabObj ps)) (hk : TabOk h' ps) : Led w fs h0 h' S { S with ps := ps } :=
  ⟨O.same kp hfs ht hk, kp.wide (fun a ha => by cases ha with | head => simp [ST.muts] | tail _ z => cases z), fun a ha => .inl ha, fun a ha => .inl ha, load_same, ⟨rfl, rfl, rfl, rfl, rfl, rfl, rfl, rfl⟩⟩

theorem led_if {fs : List Addr} {h0 h' : Heap} {S : ST} {x : Str} {v : Value} (O : S.Ok w h0) (hfs : ∀ a ∈ S.muts ++ S.imms, a ∉ fs) (kp : Kept fs [S.kd, S.vd, 211] h0 h') (hx : x ∈ names4) (hiv : IsVal v) (hok : IsOk v)
    {ov ok : Obj} (hv : h'.get? S.vd = some ov) (hk : h'.get? S.kd = some ok) (Dv : DictObj w S.vd ov (putIf S.kvs x v)) (Dk : DictObj w S.kd ok (putIf S.kvs x v)) {ps : Array Value} (ht : h'.get? 211 = some (tabObj ps)) (htk : TabOk h' ps) : Led w fs h0 h' S { S with kvs := putIf S.kvs x v, ps := ps } :=
  ⟨O.put kp hfs hv hk Dv Dk (fun p hp => by
    unfold putIf at hp
    split at hp
    · rename fitWord x v = "" => hw
      exact (mem_stored hp).elim (O.vals p) fun e => e ▸ ⟨hx, hw, hiv, hok⟩
    · exact O.vals p hp) ht htk, kp.wide (fun a ha => by
    simp only [List.mem_cons, List.not_mem_nil, or_false] at ha
    rcases ha with rfl | rfl | rfl <;> simp [ST.muts]), fun a ha => .inl ha, fun a ha => .inl ha, load_same, ⟨rfl, rfl, rfl, rfl, rfl, rfl, rfl, rfl⟩⟩
theorem six (n : Int) : n.fmod 6 = 0 ∨ n.fmod 6 = 1 ∨ n.fmod 6 = 2 ∨ n.fmod 6 = 3 ∨ n.fmod 6 = 4 ∨ n.fmod 6 = 5 := by
  obtain ⟨m, hm⟩ := Int.eq_ofNat_of_zero_le (Int.fmod_nonneg_of_pos n (by decide : (0 : Int) < 6))
  have h2 : n.fmod 6 < 6 := Int.fmod_lt_of_pos _ (by decide)
  rw [hm] at h2 ⊢
  exact (by decide : ∀ m : Nat, m < 6 → (m : Int) = 0 ∨ (m : Int) = 1 ∨ (m : Int) = 2 ∨ (m : Int) = 3 ∨ (m : Int) = 4 ∨ (m : Int) = 5) m (Int.ofNat_lt.mp h2)
theorem ne_up (a k : Nat) : @Ne Nat a (a + k + 1) := Nat.ne_of_lt (Nat.lt_succ_of_le (Nat.le_add_right a k))
theorem ne_up0 {L c : Nat} (h : c < L) (k : Nat) : @Ne Nat c (L + k) := Nat.ne_of_lt (Nat.lt_of_lt_of_le h (Nat.le_add_right L k))
theorem law_deed_spec (G : Gnd w loose mean mg mb b0) (H : At 20 b0 A outer s) {n : Int} {S : ST} (O : S.Ok w s.heap) (hb0 : ∀ a ∈ S.muts, b0.get? a = none) (hfs : ∀ a ∈ S.muts ++ S.imms, a ∉ frs outer) (hld : ∀ p ∈ S.as, p.2.wr.length ≤ 60)
    (k : ∀ h' tk S', Led w (frs outer) s.heap h' S S' → R (.ok (.ret (.bool true))) { s with heap := h', toks := tk }) :
    codeAny (model prg w) A (.call (.ref 216) ⟨[.ref S.st, .ref S.kd, .ref S.bd, .int n t], []⟩) R s := by
  have hC : CodeHd b0 215 211 := codeHd_of_K G.X (by kernel_rfl)
  refine foldG fun G9 hG9 => ?_
  obtain ⟨t1, t2, t3, t4, t5, hsd0⟩ := O.sd
  obtain ⟨ov, hov0, hDv⟩ := O.vd
  obtain ⟨ok, hok0, hDk⟩ := O.kd
  obtain ⟨oa, hoa0, hDa⟩ := O.ad
  obtain ⟨ob, hob0, hDb⟩ := O.bd
  obtain ⟨hT1, hT2⟩ := O.tab
  have hN : ∀ p ∈ [(211, tabObj S.ps)], s.heap.get? p.1 = some p.2 ∧ b0.get? p.1 = none ∧ p.1 ∉ frs outer := List.forall_mem_singleton.mpr ⟨hT1, hb0 211 (by walk_at "m_mut"), hfs 211 (by walk_at "m_mut")⟩
  obtain ⟨ps, hps⟩ : ∃ ps, ps = S.ps := ⟨_, rfl⟩
  refine hG9 ?_
  clear hG9 G9
  rw [← hps] at hT1 hT2 hN
  (refine' enterC (news := [(211, tabObj ps)]) G H ?kN ?k6 ?k7 ?k9 ?kB ?kD ?_ ?c2 ?c3 ?c4; (case kN => first | exact List.forall_mem_nil _ | assumption); (case k6 => k_is); (case k7 => k_is); (case k9 => exact BindsTo.of_eq rfl); (case kB => exact kindsX rfl); (case kD => decide); (case c2 => exact rfl); (case c3 => exact rfl); (case c4 => exact rfl); (try dsimp only))
  intro g L h1 tk0 cells hg hL F N Y B X T hrm hlt
  revert N
  refine with_five (Pr := fun cells => News g L h1 (cells ++ [(211, tabObj ps)]) → wpAny _ _ _ _ _ _) Y ?_
  refine fun o1 o2 o3 o4 o5 (d1 : o1.data = .cell none) (d2 : o2.data = .cell none) (d3 : o3.data = .cell none) (d4 : o4.data = .cell none) (d5 : o5.data = .cell (some (.ref S.st))) N => ?_
  dsimp only [List.cons_append, List.nil_append] at N
  clear Y
  replace F : Fr g L h1 (fun y => if y = "number" then some (.int n t) else if y = "book" then some (.ref S.bd) else if y = "kept_now" then some (.ref S.kd) else none) := F
  replace hg : g = hideAll s.heap [211] := hg
  have C : CodeHd g 215 211 := hC.keeps B.stays
  have K : TabOk g ps := by
    rw [hg]
    refine hT2.hide fun b hb => ?_
    rcases List.mem_cons.mp hb with rfl | hb
    · exact ⟨_, hT1, .inr rfl⟩
    · cases hb
  k_lt hlt
  have h211 : @LT.lt Nat _ 211 L := hL ▸ Heap.lt_size hT1
  have e5 : AllNe (L + 1 + 1 + 1 + 1 + 1) [(L + 1 + 1 + 1 + 1, o2), (L + 1 + 1 + 1, o3), (L + 1 + 1, o4), (L + 1, o5), (211, tabObj ps)] := ⟨ne_up _ 0, ne_up _ 1, ne_up _ 2, ne_up _ 3, ne_up0 h211 5, trivial⟩
  have e4 : AllNe (L + 1 + 1 + 1 + 1) [(L + 1 + 1 + 1, o3), (L + 1 + 1, o4), (L + 1, o5), (211, tabObj ps)] := ⟨ne_up _ 0, ne_up _ 1, ne_up _ 2, ne_up0 h211 4, trivial⟩
  have e3 : AllNe (L + 1 + 1 + 1) [(L + 1 + 1, o4), (L + 1, o5), (211, tabObj ps)] := ⟨ne_up _ 0, ne_up _ 1, ne_up0 h211 3, trivial⟩
  have e2 : AllNe (L + 1 + 1) [(L + 1, o5), (211, tabObj ps)] := ⟨ne_up _ 0, ne_up0 h211 2, trivial⟩
  have e1 : AllNe (L + 1) [(211, tabObj ps)] := ⟨ne_up0 h211 1, trivial⟩
  walk_at "m_steps"
  rename_i x tx hx hA tkA v hkA hv hok hB tkB sp svs is hkB hnB hlB hi hb hc hso lB lB2 D hC9 lC lC2 hD hE oN dN hF oV dV hG oS FF NN dS
  show wpAny _ _ _ _ _ _
  refine join_nothing hx ?_ fun nv tkn hno => ?_
  · have hgo : Go := trivial
    walk_at "m_steps"
    all_goals (rename isText x = _ => hT; unfold IsNothing; rw [hT]; exact ⟨_, rfl⟩)
  have gOf : ∀ b o, s.heap.get? b = some o → b ≠ 211 → g.get? b = some o := fun b o e z => by rw [hg]; exact hideAll_get _ e (nm_one z)
  have m211 : 211 ∈ S.muts := by simp [ST.muts]
  have n5 := O.five
  have hst := gOf _ _ O.st fun z => O.frozen _ (by walk_at "m_mut") (z ▸ m211)
  have hsd := gOf _ _ hsd0 fun z => O.frozen _ (by walk_at "m_mut") (z ▸ m211)
  have hov := gOf _ _ hov0 n5.1
  have hok2 := gOf _ _ hok0 n5.2.1
  have hoa := gOf _ _ hoa0 n5.2.2.1
  have hob := gOf _ _ hob0 n5.2.2.2
  obtain ⟨rest, hrest⟩ : ∃ rest : List (Addr × Obj), rest = [(sp, listOf svs.toArray 0), (L + 1 + 1 + 1 + 1 + 1, oV), (L + 1 + 1 + 1 + 1, oS), (L + 1 + 1 + 1, oN), (L + 1, o5)] := ⟨_, rfl⟩
  have q1 : (sp, listOf svs.toArray 0) ∈ rest := by rw [hrest]; k_mem
  have q2 : (L + 1 + 1 + 1 + 1 + 1, oV) ∈ rest := by rw [hrest]; k_mem
  have q3 : (L + 1 + 1 + 1 + 1, oS) ∈ rest := by rw [hrest]; k_mem
  have q4 : (L + 1 + 1 + 1, oN) ∈ rest := by rw [hrest]; k_mem
  have q5 : (L + 1, o5) ∈ rest := by rw [hrest]; k_mem
  replace NN : News g L hG ((L + 1 + 1, o4) :: (211, tabObj ps) :: rest) := by rw [hrest]; exact News.one NN (by k_mem) (News.one NN (by k_mem) (News.one NN (by k_mem) (News.one NN (by k_mem) (News.one NN (by k_mem) (News.one NN (by k_mem) (News.one NN (by k_mem) (News.nil')))))))
  have r1 : AllNe 211 rest := by rw [hrest]; exact ⟨Ne.symm lB2.2.2.2.2.2.2.2, Ne.symm (ne_up0 h211 5), Ne.symm (ne_up0 h211 4), Ne.symm (ne_up0 h211 3), Ne.symm (ne_up0 h211 1), trivial⟩
  have r2 : AllNe (L + 1 + 1) rest := by rw [hrest]; exact ⟨Ne.symm lB2.2.2.2.2.2.1, Ne.symm (ne_up _ 2), Ne.symm (ne_up _ 1), Ne.symm (ne_up _ 0), ne_up _ 0, trivial⟩
  clear hrest lB lB2 lC lC2
  rcases six n with en | en | en | en | en | en <;> rw [en] at FF
  · -- put under a name
    have hm : ∀ p ∈ [(S.kd, ok), (S.vd, ov)], g.get? p.1 = some p.2 ∧ b0.get? p.1 = none ∧ p.1 ∉ frs outer := List.forall_mem_cons.mpr ⟨⟨hok2, hb0 _ (by walk_at "m_mut"), hfs _ (by walk_at "m_mut")⟩, List.forall_mem_singleton.mpr ⟨hov, hb0 _ (by walk_at "m_mut"), hfs _ (by walk_at "m_mut")⟩⟩
    refine foldG fun G9 hG9 => ?_
    obtain ⟨g2, hg2, F', N', B', X', T'⟩ := rebase G B FF NN hm
    refine hG9 ?_
    clear hG9 G9
    have ne1 := rebase_ne NN hok2
    have ne2 := rebase_ne NN hov
    have ne3 : @Ne Nat S.vd S.kd := O.vdkd
    have C' : CodeHd g2 215 211 := hC.keeps B'.stays
    have K' : TabOk g2 ps := by
      rw [hg2]
      exact K.hide (List.forall_mem_cons.mpr ⟨⟨_, hok2, .inl hDk.nf⟩, List.forall_mem_singleton.mpr ⟨_, hov, .inl hDv.nf⟩⟩)
    have hfew := O.few
    simp only [List.cons_append, List.nil_append] at N'
    clear FF NN B X T C K
    have hg0 : ∀ b o, s.heap.get? b = some o → b ∉ [S.kd, S.vd, 211] → g2.get? b = some o := fun b o e hb => by
      rw [hg2]; exact hideAll_get _ (gOf b o e (nm_3 hb).2.2) (nm_cons (nm_3 hb).1 (nm_one (nm_3 hb).2.1))
    have hmm : ∀ a ∈ [S.kd, S.vd, 211], a ∈ S.muts := List.forall_mem_cons.mpr ⟨by walk_at "m_mut", List.forall_mem_cons.mpr ⟨by walk_at "m_mut", List.forall_mem_singleton.mpr m211⟩⟩
    have nst : S.st ∉ [S.kd, S.vd, 211] := fun z => O.frozen S.st (by walk_at "m_mut") (hmm _ z)
    have nsd : S.sd ∉ [S.kd, S.vd, 211] := fun z => O.frozen S.sd (by walk_at "m_mut") (hmm _ z)
    have nst2 : @Ne Nat S.st S.vd := ne_mem nst (.tail _ (.head _))
    have nsd2 : @Ne Nat S.sd S.vd := ne_mem nsd (.tail _ (.head _))
    have hvL : S.vd < L := hL ▸ Heap.lt_size hov0
    have hst2 := hg0 _ _ O.st nst
    have hsd2 := hg0 _ _ hsd0 nsd
    walk_at "m_steps"
    rename Fr g2 L _ _ => F0
    rename News g2 L _ _ => N0
    show wpAny _ _ _ _ _ _
    refine join_obj (fun o => DictObj w S.kd o (putIf S.kvs x v)) F0 N0 ?_ fun hJ tkJ okJ FJ NJ DJ => ?_
    · have hgo : Go := trivial
      walk_at "m_steps"
      · rename (fitWord x v == "") = true => hw
        exact ⟨_, _, _, rfl, rfl, by assumption, by assumption, by rw [putIf, if_pos (by simpa using hw)]; assumption⟩
      · rename (fitWord x v == "") = false => hw
        exact ⟨_, _, _, rfl, rfl, by assumption, by assumption, by rw [putIf, if_neg (by simpa using hw)]; assumption⟩
    clear F0 N0
    have hgo : Go := trivial
    (try dsimp only)
    walk_at "m_steps"
    rename_i f xc ox c' ctv ps' h2 tk2 F1 N1 hTab lA9 l1 lB9 l2
    have up0 : ∀ h5 : Heap, (∀ b o, h2.get? b = some o → h5.get? b = some o) → h5.CodeRec (.ref c') lamQual := fun h5 up => (hTab h5 (fun b o e => ⟨o.slots, up b o (F1.keep b o e)⟩) ⟨_, up _ _ (N1.get (.tail _ (.head _)))⟩).2
    have hvd : h2.get? S.vd = some ov := N1.get (by k_mem)
    have hW : ∀ b ∈ [S.vd], g2.get? b = none ∧ b ≠ L := List.forall_mem_singleton.mpr ⟨(N1 (S.vd, ov) (by k_mem)).2.2, (N1 (S.vd, ov) (by k_mem)).2.1⟩
    refine wpAny_call (heard_one (ws := [(S.vd, ov)]) G (at_in B' F1 (Rm.le hrm)) (N1.get (.head _)) rfl (List.forall_mem_singleton.mpr ⟨hvd, hb0 _ (by walk_at "m_mut"), nf_cons (hW _ (.head _)).2 (hfs _ (by walk_at "m_mut"))⟩) (nm_one (Ne.symm (allLt_ne lB9 (by k_mem : (S.vd, ov) ∈ _)))) (fun u _ h1 => u = .none ∧ fitWord x v = "" ∧ ∃ ov', h1.get? S.vd = some ov' ∧ DictObj w S.vd ov' (putIf S.kvs x v)) (fun kd _ h1 => kd = fitWord x v ∧ fitWord x v ≠ "" ∧ ∃ ov', h1.get? S.vd = some ov' ∧ DictObj w S.vd ov' (putIf S.kvs x v)) ?_ ?_)
    · intro A' outer' s' R' H' up hfr kv ke
      have hvd' : s'.heap.get? S.vd = some ov := up _ _ hvd
      refine enter_lam (news := [(S.vd, ov)]) (binds := []) G H' (List.forall_mem_singleton.mpr ⟨hvd', hb0 _ (by walk_at "m_mut"), hfr _ (.head _)⟩) (up _ _ (N1.get (.head _))) (up0 _ up) rfl (fun _ z => nomatch z) ?_ rfl rfl rfl (by decide)
      intro g9 L9 h9 hg9 hL9 F9 N9 B9 X9 T9 hrm9
      replace hg9 : g9 = hideAll s'.heap [S.vd] := hg9
      have g9of : ∀ b o, h2.get? b = some o → b ≠ S.vd → g9.get? b = some o := fun b o e z => by rw [hg9]; exact hideAll_get _ (up b o e) (nm_one z)
      have hcN : g9.get? (L + 1 + 1 + 1) = some oN := g9of _ _ (N1.get (by k_mem)) (Nat.ne_of_gt (Nat.lt_add_right 3 hvL))
      have hcV : g9.get? (L + 1 + 1 + 1 + 1 + 1) = some oV := g9of _ _ (N1.get (by k_mem)) (Nat.ne_of_gt (Nat.lt_add_right 5 hvL))
      have hcS : g9.get? (L + 1) = some o5 := g9of _ _ (N1.get (by k_mem)) (Nat.ne_of_gt (Nat.lt_add_right 1 hvL))
      have hst9 : g9.get? S.st = some (instObj 107 S.sd) := g9of _ _ (F1.keep _ _ hst2) nst2
      have hsd9 : g9.get? S.sd = some (storeDict w S.vd S.ad S.rd S.sp t1 t2 t3 t4 t5) := g9of _ _ (F1.keep _ _ hsd2) nsd2
      have hWo := out_of hg9
      have hWL9 := outL_of hg9 hL9 (List.forall_mem_singleton.mpr ⟨_, hvd'⟩)
      clear F1 N1 X' T' B'
      walk_at "m_steps"
      rename Fr g9 L9 _ _ => F8
      rename News g9 L9 _ _ => N8
      refine wpAny_call (put_plain G (at_in B9 F8 (Rm.le hrm9)) hx hv (F8.keep _ _ hst9) (F8.keep _ _ hsd9) (N8.get (by k_mem : (S.vd, ov) ∈ _)) hDv (Nat.le_trans hfew (by decide)) (hb0 _ (by walk_at "m_mut")) (nf_cons (hWL9 _ (.head _)).2 (hfr _ (.head _))) ⟨nsd2.symm, nst2.symm, ?_⟩ (N8.get (.head _)) ?_ ?_)
      · rename S.vd < _ => q; exact Nat.ne_of_lt q
      · intro hw h6 tk6 ov' hk6 hv6 hd6
        exact kv _ _ _ (KeepW.trans (keepW hg9 F8) hk6) ⟨rfl, hw, ov', hv6, by rw [putIf, if_pos hw]; exact hd6⟩
      · intro hw h6 tk6 ea hR6 hv6
        (try dsimp only)
        walk_at "m_steps"
        rename ∀ (b : Addr) (o : Obj), _ → (∀ vs, o.data ≠ .fields vs) → _ → _ => hO
        exact ke _ _ _ _ (Rsd.wide (by assumption) hg9) ⟨rfl, hw, ov, hO S.vd _ hv6 hDv.nf (nf_cons (hWL9 _ (.head _)).2 (hfr _ (.head _))), by rw [putIf, if_neg hw]; exact hDv⟩
    · intro h5 tk5 tup xw vw tv kp htup hfr hres
      refine heard_backK G B' F1 N1 kp hW fun kp2 F2 B2 X2 T2 nk nn => ?_
      have hz : ∃ ov', h5.get? S.vd = some ov' ∧ DictObj w S.vd ov' (putIf S.kvs x v) ∧ (fitWord x v = "" → xw = "value" ∧ vw = .none) ∧ (fitWord x v ≠ "" → xw = "refused" ∧ ∃ tk3, vw = .str (fitWord x v) tk3) := by
        rcases hres with ⟨e1, hs, h1, ⟨e2, e3, ov', hv1, Dv⟩, cy⟩ | ⟨e1, kind, tk3, hs, h1, e2, ⟨e3, e4, ov', hv1, Dv⟩, cy⟩
        · exact ⟨ov', cy.on _ _ hv1 Dv.nf (.inl (.head _)), Dv, fun _ => ⟨e1, e2⟩, fun z => absurd e3 z⟩
        · exact ⟨ov', cy.on _ _ hv1 Dv.nf (.inl (.head _)), Dv, fun z => absurd z e4, fun _ => ⟨e1, tk3, e3 ▸ e2⟩⟩
      refine foldG fun G9 hG9 => ?_
      obtain ⟨ov', hv5, Dv, res1, res2⟩ := hz
      refine hG9 ?_
      clear hG9 G9
      have N2 := heard_news (r := [(xc, ox), (211, tabObj ps')]) F1 nk nn hfr htup hW (fun p hp => by
        rcases List.mem_cons.mp hp with rfl | hp
        · exact ⟨by k_mem, nm_one (Ne.symm (allLt_ne lA9 (by k_mem : (S.vd, ov) ∈ _)))⟩
        · rcases List.mem_cons.mp hp with rfl | hp
          · exact ⟨by k_mem, nm_one n5.1.symm⟩
          · cases hp)
      have N3 := news_cons hv5 (nn (S.vd, ov) (by k_mem)).1 (nn (S.vd, ov) (by k_mem)).2 N2
      have N4 := news_cons (nk (S.kd, okJ) (by k_mem) (nm_one ne3.symm)) (nn (S.kd, okJ) (by k_mem)).1 (nn (S.kd, okJ) (by k_mem)).2 N3
      clear F1 N1 X' T' B' nk nn N2 N3
      (try dsimp only)
      walk_at "m_steps"
      all_goals (
        rename Fr _ L _ _ => F7
        rename News _ L _ _ => N7)
      · rename (fitWord x v != "") = true => hw
        obtain ⟨rfl, tk3, rfl⟩ := res2 (by simpa using hw)
        show wpAny _ _ _ _ _ _
        refine eq_pair (N7.get (.tail _ (.tail _ (.tail _ (.head _))))) (N7.get (.head _)) (PyProof.V.Flat.str _ _) (PyProof.V.Flat.str _ _) (shaped_str (ok_word x v)) rfl (by decide +kernel) hrm.clear64 ?_
        exact k _ _ _ (led_if O hfs (deed_kept2 hg0 kp2 F7) hx hv hok (N7.get (by k_mem)) (N7.get (by k_mem)) Dv DJ (N7.get (by k_mem)) (hTab _ (deed_ups kp2 F7) ⟨_, N7.get (by k_mem)⟩).1)
      · rename (fitWord x v != "") = false => hw
        obtain ⟨rfl, rfl⟩ := res1 (by simpa using hw)
        show wpAny _ _ _ _ _ _
        refine eq_pair (N7.get (.tail _ (.tail _ (.tail _ (.head _))))) (N7.get (.head _)) PyProof.V.Flat.none PyProof.V.Flat.none (by decide +kernel) rfl (by decide +kernel) hrm.clear64 ?_
        exact k _ _ _ (led_if O hfs (deed_kept2 hg0 kp2 F7) hx hv hok (N7.get (by k_mem)) (N7.get (by k_mem)) Dv DJ (N7.get (by k_mem)) (hTab _ (deed_ups kp2 F7) ⟨_, N7.get (by k_mem)⟩).1)
  · -- read
    walk_at "m_steps"
    rename_i f xc ox c' ctv ps' h2 tk2 F1 N1 hTab lA9 l1 lB9 l2
    have up0 : ∀ h5 : Heap, (∀ b o, h2.get? b = some o → h5.get? b = some o) → h5.CodeRec (.ref c') lamQual := fun h5 up => (hTab h5 (fun b o e => ⟨o.slots, up b o (F1.keep b o e)⟩) ⟨_, up _ _ (N1.get (.tail _ (.head _)))⟩).2
    refine wpAny_call (heard_one (ws := []) G (at_in B F1 (Rm.le hrm)) (N1.get (.head _)) rfl (List.forall_mem_nil _) (nm_nil _) (fun u _ _ => valueAt S.kvs x = some u ∨ valueAt S.kvs x = none ∧ IsNothing x u) (fun _ _ _ => False) ?_ ?_)
    · intro A' outer' s' R' H' up hfr kv ke
      refine enter_lam (news := []) (binds := []) G H' (List.forall_mem_nil _) (up _ _ (N1.get (.head _))) (up0 _ up) rfl (fun _ z => nomatch z) ?_ rfl rfl rfl (by decide)
      intro g9 L9 h9 hg9 hL9 F9 N9 B9 X9 T9 hrm9
      replace hg9 : g9 = hideAll s'.heap [] := hg9
      have hcN : g9.get? (L + 1 + 1 + 1) = some oN := by rw [hg9]; exact up _ _ (N1.get (by k_mem))
      have hcS : g9.get? (L + 1) = some o5 := by rw [hg9]; exact up _ _ (N1.get (by k_mem))
      have hst9 : g9.get? S.st = some (instObj 107 S.sd) := by rw [hg9]; exact up _ _ (F1.keep _ _ hst)
      have hsd9 : g9.get? S.sd = some (storeDict w S.vd S.ad S.rd S.sp t1 t2 t3 t4 t5) := by rw [hg9]; exact up _ _ (F1.keep _ _ hsd)
      have hov9 : g9.get? S.vd = some ov := by rw [hg9]; exact up _ _ (F1.keep _ _ hov)
      clear F1 N1 X T B
      walk_at "m_steps"
      refine wpAny_call (read_spec G (at_in B9 F9 (Rm.le hrm9)) hx (F9.keep _ _ hst9) (F9.keep _ _ hsd9) (F9.keep _ _ hov9) hDv ?_)
      intro h6 tk6 u hu hk6
      exact kv u _ _ (fun b o e hb => hk6 b o (keepW hg9 F9 b o e hb)) (hu.imp id id)
    · intro h5 tk5 tup xw vw tv kp htup hfr hres
      refine heard_backK G B F1 N1 kp (fun _ z => nomatch z) fun kp2 F2 B2 X2 T2 nk nn => ?_
      have N2 := heard_news F1 nk nn hfr htup (fun _ z => nomatch z) (fun p hp => ⟨hp, nm_nil _⟩)
      have hok5 : (over g h5).get? S.kd = some ok := over_keep kp2 hok2 (hfs _ (by walk_at "m_mut"))
      clear F1 N1 X T B
      (try dsimp only)
      walk_at "m_steps"
      rename Fr _ L _ _ => F3
      rename News _ L _ _ => N3
      rcases hres with ⟨rfl, hs, h1, hu, _⟩ | ⟨_, kind, tk3, hs, h1, _, e, _⟩
      rotate_left
      · exact e.elim
      show wpAny _ _ _ _ _ _
      refine foldG fun G9 hG9 => ?_
      obtain ⟨d, f1, f2, f3, f4⟩ := same_read O hx hu hno
      refine hG9 ?_
      clear hG9 G9
      refine eq_pair (N3.get (.tail _ (.head _))) (N3.get (.head _)) f1 f2 f3 f4 (by decide +kernel) hrm.clear64 ?_
      exact k _ _ _ (led_same O hfs (deed_kept hg kp2 F3) (N3.get (by k_mem)) (hTab _ (deed_ups kp2 F3) ⟨_, N3.get (by k_mem)⟩).1)
  · -- dim
    have hm : ∀ p ∈ [(S.bd, ob), (S.ad, oa)], g.get? p.1 = some p.2 ∧ b0.get? p.1 = none ∧ p.1 ∉ frs outer := List.forall_mem_cons.mpr ⟨⟨hob, hb0 _ (by walk_at "m_mut"), hfs _ (by walk_at "m_mut")⟩, List.forall_mem_singleton.mpr ⟨hoa, hb0 _ (by walk_at "m_mut"), hfs _ (by walk_at "m_mut")⟩⟩
    refine foldG fun G9 hG9 => ?_
    obtain ⟨g2, hg2, F', N', B', X', T'⟩ := rebase G B FF NN hm
    refine hG9 ?_
    clear hG9 G9
    have ne1 := rebase_ne NN hob
    have ne2 := rebase_ne NN hoa
    have ne3 : @Ne Nat S.ad S.bd := O.adbd
    have C' : CodeHd g2 215 211 := hC.keeps B'.stays
    have K' : TabOk g2 ps := by
      rw [hg2]
      exact K.hide (List.forall_mem_cons.mpr ⟨⟨_, hob, .inl hDb.nf⟩, List.forall_mem_singleton.mpr ⟨_, hoa, .inl hDa.nf⟩⟩)
    have hfewA : S.kvA.length ≤ 900 := by rw [ST.kvA_len]; exact Nat.le_trans O.fewA (by decide)
    have hfewB : S.kvB.length ≤ 900 := by rw [ST.kvB_len]; exact Nat.le_trans O.fewA (by decide)
    simp only [List.cons_append, List.nil_append] at N'
    have hg0 : ∀ b o, s.heap.get? b = some o → b ∉ [S.bd, S.ad, 211] → g2.get? b = some o := fun b o e hb => by
      rw [hg2]; exact hideAll_get _ (gOf b o e (nm_3 hb).2.2) (nm_cons (nm_3 hb).1 (nm_one (nm_3 hb).2.1))
    have hmm : ∀ a ∈ [S.bd, S.ad, 211], a ∈ S.muts := List.forall_mem_cons.mpr ⟨by walk_at "m_mut", List.forall_mem_cons.mpr ⟨by walk_at "m_mut", List.forall_mem_singleton.mpr m211⟩⟩
    have nst : S.st ∉ [S.bd, S.ad, 211] := fun z => O.frozen S.st (by walk_at "m_mut") (hmm _ z)
    have nsd : S.sd ∉ [S.bd, S.ad, 211] := fun z => O.frozen S.sd (by walk_at "m_mut") (hmm _ z)
    have nst2 : @Ne Nat S.st S.ad := ne_mem nst (.tail _ (.head _))
    have nsd2 : @Ne Nat S.sd S.ad := ne_mem nsd (.tail _ (.head _))
    have haL : S.ad < L := hL ▸ Heap.lt_size hoa0
    have hst2 := hg0 _ _ O.st nst
    have hsd2 := hg0 _ _ hsd0 nsd
    clear FF NN B X T C K
    walk_at "m_steps"
    rename_i lb bvs ns hkb hnb hlb hbi hbl hbs lAb l1b hb9 oB F3 N3 dB
    show wpAny _ _ _ _ _ _
    by_cases hdw : dimWord S.kvA x ns = ""
    · obtain ⟨hvA, hmw⟩ := dim_none hdw
      have hfd := ST.noneA hvA
      have hin : (valueAt S.kvB x).isSome = false := by rw [ST.isB, hvA]; rfl
      have hgo : Go := trivial
      walk_at "m_steps"
      rename Fr g2 L _ _ => F1
      rename News g2 L _ _ => N1
      have hbW := (N1 (S.bd, ob) (by k_mem)).2
      refine wpAny_call (law_made_spec (ns := ns) G (at_in B' F1 (Rm.le hrm)) hx (N1.get (by k_mem : (S.bd, ob) ∈ _)) hDb hfewB (hb0 _ (by walk_at "m_mut")) (nf_cons hbW.1 (hfs _ (by walk_at "m_mut"))) l1b.1 (N1.get (by k_mem : (lb, listOf bvs.toArray 0) ∈ _)) hbi hbl hbs ?_)
      intro h2 tk2 tv hk2 _
      obtain ⟨hk2, hbook⟩ := hk2 hmw
      rw [hmw]
      have W3 : ∀ b ∈ [S.bd, S.ad, 211], ∃ o, Heap.get? _ b = some o := List.forall_mem_cons.mpr ⟨⟨_, N1.get (by k_mem : (S.bd, ob) ∈ _)⟩, List.forall_mem_cons.mpr ⟨⟨_, N1.get (by k_mem : (S.ad, oa) ∈ _)⟩, List.forall_mem_singleton.mpr ⟨_, N1.get (by k_mem : (211, tabObj ps) ∈ _)⟩⟩⟩
      refine foldG fun G9 hG9 => ?_
      obtain ⟨tupB, wd, ob', ow, hDb', hDw, F2, N2, m1, m2, ⟨m8, m9⟩, m4, m5⟩ := book_led hbook hk2 F1 (news_drop N1) (List.forall_mem_singleton.mpr (N1 (S.bd, ob) (by k_mem))) ⟨l1b.1.symm, ne3, ne1⟩
      refine hG9 ?_
      clear hG9 G9
      replace m1 := fresh_s hg0 F1 W3 m1
      replace m2 := fresh_s hg0 F1 W3 m2
      have m3 := fresh_led hg0 (N1 (lb, listOf bvs.toArray 0) (by k_mem)).2.2 (nm_cons (l1b.1.symm) (nm_cons (l1b.2.1.symm) (nm_one (fun z => l1b.2.2.2.1 z.symm))))
      clear F1 N1 W3 hbook
      have hWD := wd_empty hDw
      have hlow := hDw.1
      (try dsimp only)
      walk_at "m_steps"
      rename_i f xc ox c' ctv ps' h2' tk2' F1 N1 hTab lA9 l1 lB9 l2
      have up0 : ∀ h5 : Heap, (∀ b o, h2'.get? b = some o → h5.get? b = some o) → h5.CodeRec (.ref c') lamQual := fun h5 up => (hTab h5 (fun b o e => ⟨o.slots, up b o (F1.keep b o e)⟩) ⟨_, up _ _ (N1.get (.tail _ (.head _)))⟩).2
      have had : h2'.get? S.ad = some oa := N1.get (by k_mem)
      have haW2 := (N1 (S.ad, oa) (by k_mem)).2
      have hW : ∀ b ∈ [S.ad], g2.get? b = none ∧ b ≠ L := List.forall_mem_singleton.mpr ⟨haW2.2, haW2.1⟩
      have W3 : ∀ b ∈ [S.bd, S.ad, 211], ∃ o, h2'.get? b = some o := List.forall_mem_cons.mpr ⟨⟨_, N1.get (by k_mem : (S.bd, ob') ∈ _)⟩, List.forall_mem_cons.mpr ⟨⟨_, had⟩, List.forall_mem_singleton.mpr ⟨_, N1.get (by k_mem : (211, tabObj ps') ∈ _)⟩⟩⟩
      have hfad : f ≠ S.ad := Ne.symm (allLt_ne lB9 (by k_mem : (S.ad, oa) ∈ _))
      refine wpAny_call (heard_one (ws := [(S.ad, oa)]) G (at_in B' F1 (Rm.le hrm)) (N1.get (.head _)) rfl (List.forall_mem_singleton.mpr ⟨had, hb0 _ (by walk_at "m_mut"), nf_cons (hW _ (.head _)).2 (hfs _ (by walk_at "m_mut"))⟩) (nm_one hfad) (fun u hs h1 => u = .none ∧ dimWord S.kvA x ns = "" ∧ DimArr w hs h1 S.ad S.kvA x lb ns) (fun kd hs h1 => dimWord S.kvA x ns ≠ "" ∧ kd = dimWord S.kvA x ns ∧ h1.get? S.ad = some oa) ?_ ?_)
      · intro A' outer' s' R' H' up hfr kv ke
        have had' : s'.heap.get? S.ad = some oa := up _ _ had
        refine enter_lam (news := [(S.ad, oa)]) (binds := []) G H' (List.forall_mem_singleton.mpr ⟨had', hb0 _ (by walk_at "m_mut"), hfr _ (.head _)⟩) (up _ _ (N1.get (.head _))) (up0 _ up) rfl (fun _ z => nomatch z) ?_ rfl rfl rfl (by decide)
        intro g9 L9 h9 hg9 hL9 F9 N9 B9 X9 T9 hrm9
        replace hg9 : g9 = hideAll s'.heap [S.ad] := hg9
        have g9of : ∀ b o, h2'.get? b = some o → b ≠ S.ad → g9.get? b = some o := fun b o e z => by rw [hg9]; exact hideAll_get _ (up b o e) (nm_one z)
        have hcN : g9.get? (L + 1 + 1 + 1) = some oN := g9of _ _ (N1.get (by k_mem)) (Nat.ne_of_gt (Nat.lt_add_right 3 haL))
        have hcB : g9.get? (L + 1 + 1) = some oB := g9of _ _ (N1.get (by k_mem)) (Nat.ne_of_gt (Nat.lt_add_right 2 haL))
        have hcS : g9.get? (L + 1) = some o5 := g9of _ _ (N1.get (by k_mem)) (Nat.ne_of_gt (Nat.lt_add_right 1 haL))
        have hlb9 : g9.get? lb = some (listOf bvs.toArray 0) := g9of _ _ (N1.get (by k_mem)) l1b.2.1.symm
        have hst9 : g9.get? S.st = some (instObj 107 S.sd) := g9of _ _ (F1.keep _ _ hst2) nst2
        have hsd9 : g9.get? S.sd = some (storeDict w S.vd S.ad S.rd S.sp t1 t2 t3 t4 t5) := g9of _ _ (F1.keep _ _ hsd2) nsd2
        have hWo := out_of hg9
        have hWL9 := outL_of hg9 hL9 (List.forall_mem_singleton.mpr ⟨_, had'⟩)
        clear F1 N1 X' T' B'
        walk_at "m_steps"
        refine wpAny_call (dim_array_spec G (at_in B9 F9 (Rm.le hrm9)) hx (F9.keep _ _ hst9) (F9.keep _ _ hsd9) (N9.get (.head _)) hDa hfewA (hb0 _ (by walk_at "m_mut")) (nf_cons (hWL9 _ (.head _)).2 (hfr _ (.head _))) ⟨nsd2.symm, nst2.symm, l1b.2.1⟩ (F9.keep _ _ hlb9) hbi hbl hbs ?_ ?_)
        · intro hw h6 tk6 tup its nv0 oa9 hk6 q1 q2 q3 q4 q5 q6 q7
          have W9 : ∀ b ∈ [S.ad], ∃ o, Heap.get? _ b = some o := List.forall_mem_singleton.mpr ⟨_, N9.get (.head _)⟩
          exact kv _ _ _ (KeepW.trans (keepW hg9 F9) hk6) ⟨rfl, hw, tup, its, nv0, oa9, q3, q1, q2, q4, q5, fresh_back q6 (keepW hg9 F9) W9, fresh_back q7 (keepW hg9 F9) W9⟩
        · intro hw h6 tk6 ea hR6 q1
          (try dsimp only)
          walk_at "m_steps"
          rename ∀ (b : Addr) (o : Obj), _ → (∀ vs, o.data ≠ .fields vs) → _ → _ => hO
          exact ke _ _ _ _ (Rsd.wide (by assumption) hg9) ⟨hw, rfl, hO S.ad _ q1 hDa.nf (nf_cons (hWL9 _ (.head _)).2 (hfr _ (.head _)))⟩
      · intro h5 tk5 tup xw vw tv5 kp htup hfr hres
        refine heard_backK G B' F1 N1 kp hW fun kp2 F2' B2 X2 T2 nk nn => ?_
        have hz : xw = "value" ∧ vw = .none ∧ ∃ hs, DimArr w hs h5 S.ad S.kvA x lb ns ∧ ∀ b o, h2'.get? b = some o → hs.get? b = some o := by
          rcases hres with ⟨rfl, hs, h1', ⟨rfl, _, q⟩, cy⟩ | ⟨_, kind, tk3, hs, h1', _, ⟨q1, _⟩, _⟩
          · exact ⟨rfl, rfl, hs, q.fwd fun b o q1 q2 q3 => cy.on b o q1 q2 (Or.elim q3 (fun z => .inl (by rw [z]; exact .head _)) .inr), cy.up⟩
          · exact absurd hdw q1
        refine foldG fun G9 hG9 => ?_
        obtain ⟨rfl, rfl, hs, harr, hup⟩ := hz
        have N2' := heard_news (r := [(xc, ox), (tupB, tupObj [.ref lb, .ref wd]), (wd, ow), (S.bd, ob'), (lb, listOf bvs.toArray 0), (211, tabObj ps')]) F1 nk nn hfr htup hW (List.forall_mem_cons.mpr ⟨⟨by k_mem, nm_one (Ne.symm (allLt_ne lA9 (by k_mem : (S.ad, oa) ∈ _)))⟩, List.forall_mem_cons.mpr ⟨⟨by k_mem, nm_one (Ne.symm m8.2.1)⟩, List.forall_mem_cons.mpr ⟨⟨by k_mem, nm_one (Ne.symm m9.2.1)⟩, List.forall_mem_cons.mpr ⟨⟨by k_mem, nm_one ne3.symm⟩, List.forall_mem_cons.mpr ⟨⟨by k_mem, nm_one (Ne.symm l1b.2.1)⟩, List.forall_mem_singleton.mpr ⟨by k_mem, nm_one n5.2.2.1.symm⟩⟩⟩⟩⟩⟩)
        obtain ⟨ta9, its9, nv9, oa9, hno9, hDa9, N3', p3, p4⟩ := dim_led harr hup F1 haW2.2 haW2.1 N2'
        refine hG9 ?_
        clear hG9 G9
        have p5 : its9 ≠ lb := fun z => by
          have := N1.get (by k_mem : (lb, listOf bvs.toArray 0) ∈ _)
          rw [← z, p4] at this; cases this
        replace p3 := fresh_s hg0 F1 W3 p3
        replace p4 := fresh_s hg0 F1 W3 p4
        clear F1 N1 X' T' B' nk nn N2' hres harr
        (try dsimp only)
        walk_at "m_steps"
        rename Fr _ L _ _ => F5
        rename News _ L _ _ => N5
        show wpAny _ _ _ _ _ _
        refine eq_pair (N5.get (by k_mem : (tup, _) ∈ _)) (N5.get (.head _)) PyProof.V.Flat.none PyProof.V.Flat.none (by decide +kernel) rfl (by decide +kernel) hrm.clear64 ?_
        exact k _ _ _ (led_new O hfs (deed_kept2 hg0 kp2 F5) hx hfd (N5.get (by k_mem)) (N5.get (by k_mem)) hDa9 hDb' (N5.get (by k_mem)) (N5.get (by k_mem)) hbi (N5.get (by k_mem)) (N5.get (by k_mem)) (N5.get (by k_mem)) hbi (N5.get (by k_mem)) hWD (fun _ z => nomatch z) hlow
          (fits_new hmw hbs hno9) p3 m1 m3 m3 p4 m2 (fun _ z => nomatch z) p5 p5 (Nat.zero_le _) (N5.get (by k_mem)) (hTab _ (deed_ups kp2 F5) ⟨_, N5.get (by k_mem)⟩).1)
    · refine join_word (dimWord S.kvA x ns) F3 N3 ?_ ?_
      · have hgo : Go := trivial
        walk_at "m_steps"
        · rename (valueAt S.kvB x).isSome = true => hin
          have e : dimWord S.kvA x ns = "DD" := if_pos (by rw [← ST.isB]; exact hin)
          exact ⟨_, _, _, by rw [e], rfl, F3, N3⟩
        · rename (valueAt S.kvB x).isSome = false => hin
          have e : dimWord S.kvA x ns = madeWord ns := if_neg (by rw [← ST.isB, hin]; decide)
          have hbW := (N3 (S.bd, ob) (by k_mem)).2
          refine wpAny_call (law_made_spec (ns := ns) G (at_in B' F3 (Rm.le hrm)) hx (N3.get (by k_mem : (S.bd, ob) ∈ _)) hDb hfewB (hb0 _ (by walk_at "m_mut")) (nf_cons hbW.1 (hfs _ (by walk_at "m_mut"))) l1b.1 (N3.get (by k_mem : (lb, listOf bvs.toArray 0) ∈ _)) hbi hbl hbs ?_)
          intro h2 tk2 tv _ hk2
          replace hk2 := hk2 fun z => hdw (e.trans z)
          exact ⟨h2, tk2, tv, by rw [e], rfl, Fr.kp F3 hk2, News.kp N3 hk2⟩
      · intro h3 tk3 tb F4 N4
        clear F3 N3
        obtain ⟨word, hword⟩ : ∃ word, word = dimWord S.kvA x ns := ⟨_, rfl⟩
        rw [← hword]
        have hgo : Go := trivial
        (try dsimp only)
        walk_at "m_steps"
        rename_i f xc ox c' ctv ps' h2' tk2' F1 N1 hTab lA9 l1 lB9 l2
        have up0 : ∀ h5 : Heap, (∀ b o, h2'.get? b = some o → h5.get? b = some o) → h5.CodeRec (.ref c') lamQual := fun h5 up => (hTab h5 (fun b o e => ⟨o.slots, up b o (F1.keep b o e)⟩) ⟨_, up _ _ (N1.get (.tail _ (.head _)))⟩).2
        have had : h2'.get? S.ad = some oa := N1.get (by k_mem)
        have haW2 := (N1 (S.ad, oa) (by k_mem)).2
        have hW : ∀ b ∈ [S.ad], g2.get? b = none ∧ b ≠ L := List.forall_mem_singleton.mpr ⟨haW2.2, haW2.1⟩
        have W3 : ∀ b ∈ [S.bd, S.ad, 211], ∃ o, h2'.get? b = some o := List.forall_mem_cons.mpr ⟨⟨_, N1.get (by k_mem : (S.bd, ob) ∈ _)⟩, List.forall_mem_cons.mpr ⟨⟨_, had⟩, List.forall_mem_singleton.mpr ⟨_, N1.get (by k_mem : (211, tabObj ps') ∈ _)⟩⟩⟩
        have hfad : f ≠ S.ad := Ne.symm (allLt_ne lB9 (by k_mem : (S.ad, oa) ∈ _))
        refine wpAny_call (heard_one (ws := [(S.ad, oa)]) G (at_in B' F1 (Rm.le hrm)) (N1.get (.head _)) rfl (List.forall_mem_singleton.mpr ⟨had, hb0 _ (by walk_at "m_mut"), nf_cons (hW _ (.head _)).2 (hfs _ (by walk_at "m_mut"))⟩) (nm_one hfad) (fun u hs h1 => u = .none ∧ dimWord S.kvA x ns = "" ∧ DimArr w hs h1 S.ad S.kvA x lb ns) (fun kd hs h1 => dimWord S.kvA x ns ≠ "" ∧ kd = dimWord S.kvA x ns ∧ h1.get? S.ad = some oa) ?_ ?_)
        · intro A' outer' s' R' H' up hfr kv ke
          have had' : s'.heap.get? S.ad = some oa := up _ _ had
          refine enter_lam (news := [(S.ad, oa)]) (binds := []) G H' (List.forall_mem_singleton.mpr ⟨had', hb0 _ (by walk_at "m_mut"), hfr _ (.head _)⟩) (up _ _ (N1.get (.head _))) (up0 _ up) rfl (fun _ z => nomatch z) ?_ rfl rfl rfl (by decide)
          intro g9 L9 h9 hg9 hL9 F9 N9 B9 X9 T9 hrm9
          replace hg9 : g9 = hideAll s'.heap [S.ad] := hg9
          have g9of : ∀ b o, h2'.get? b = some o → b ≠ S.ad → g9.get? b = some o := fun b o e z => by rw [hg9]; exact hideAll_get _ (up b o e) (nm_one z)
          have hcN : g9.get? (L + 1 + 1 + 1) = some oN := g9of _ _ (N1.get (by k_mem)) (Nat.ne_of_gt (Nat.lt_add_right 3 haL))
          have hcB : g9.get? (L + 1 + 1) = some oB := g9of _ _ (N1.get (by k_mem)) (Nat.ne_of_gt (Nat.lt_add_right 2 haL))
          have hcS : g9.get? (L + 1) = some o5 := g9of _ _ (N1.get (by k_mem)) (Nat.ne_of_gt (Nat.lt_add_right 1 haL))
          have hlb9 : g9.get? lb = some (listOf bvs.toArray 0) := g9of _ _ (N1.get (by k_mem)) l1b.2.1.symm
          have hst9 : g9.get? S.st = some (instObj 107 S.sd) := g9of _ _ (F1.keep _ _ hst2) nst2
          have hsd9 : g9.get? S.sd = some (storeDict w S.vd S.ad S.rd S.sp t1 t2 t3 t4 t5) := g9of _ _ (F1.keep _ _ hsd2) nsd2
          have hWo := out_of hg9
          have hWL9 := outL_of hg9 hL9 (List.forall_mem_singleton.mpr ⟨_, had'⟩)
          clear F1 N1 X' T' B'
          walk_at "m_steps"
          refine wpAny_call (dim_array_spec G (at_in B9 F9 (Rm.le hrm9)) hx (F9.keep _ _ hst9) (F9.keep _ _ hsd9) (N9.get (.head _)) hDa hfewA (hb0 _ (by walk_at "m_mut")) (nf_cons (hWL9 _ (.head _)).2 (hfr _ (.head _))) ⟨nsd2.symm, nst2.symm, l1b.2.1⟩ (F9.keep _ _ hlb9) hbi hbl hbs ?_ ?_)
          · intro hw h6 tk6 tup its nv0 oa9 hk6 q1 q2 q3 q4 q5 q6 q7
            have W9 : ∀ b ∈ [S.ad], ∃ o, Heap.get? _ b = some o := List.forall_mem_singleton.mpr ⟨_, N9.get (.head _)⟩
            exact kv _ _ _ (KeepW.trans (keepW hg9 F9) hk6) ⟨rfl, hw, tup, its, nv0, oa9, q3, q1, q2, q4, q5, fresh_back q6 (keepW hg9 F9) W9, fresh_back q7 (keepW hg9 F9) W9⟩
          · intro hw h6 tk6 ea hR6 q1
            (try dsimp only)
            walk_at "m_steps"
            rename ∀ (b : Addr) (o : Obj), _ → (∀ vs, o.data ≠ .fields vs) → _ → _ => hO
            exact ke _ _ _ _ (Rsd.wide (by assumption) hg9) ⟨hw, rfl, hO S.ad _ q1 hDa.nf (nf_cons (hWL9 _ (.head _)).2 (hfr _ (.head _)))⟩
        · intro h5 tk5 tup xw vw tv5 kp htup hfr hres
          refine heard_backK G B' F1 N1 kp hW fun kp2 F2' B2 X2 T2 nk nn => ?_
          have hz : word ≠ "" ∧ xw = "refused" ∧ (∃ tk3, vw = .str word tk3) ∧ h5.get? S.ad = some oa := by
            rcases hres with ⟨_, hs, h1', ⟨_, q1, _⟩, _⟩ | ⟨rfl, kind, tk3, hs, h1', rfl, ⟨q1, rfl, q3⟩, cy⟩
            · exact absurd q1 hdw
            · exact ⟨fun z => hdw (hword.symm.trans z), rfl, ⟨tk3, by rw [hword]⟩, cy.on _ _ q3 hDa.nf (.inl (.head _))⟩
          refine foldG fun G9 hG9 => ?_
          obtain ⟨hw, rfl, ⟨tk3, rfl⟩, had5⟩ := hz
          refine hG9 ?_
          clear hG9 G9
          have N2' := heard_news (r := [(xc, ox), (S.bd, ob), (211, tabObj ps')]) F1 nk nn hfr htup hW (List.forall_mem_cons.mpr ⟨⟨by k_mem, nm_one (Ne.symm (allLt_ne lA9 (by k_mem : (S.ad, oa) ∈ _)))⟩, List.forall_mem_cons.mpr ⟨⟨by k_mem, nm_one ne3.symm⟩, List.forall_mem_singleton.mpr ⟨by k_mem, nm_one n5.2.2.1.symm⟩⟩⟩)
          have N3' := news_cons had5 haW2.1 (over_none haW2.2) N2'
          clear F1 N1 X' T' B' nk nn N2' hres
          (try dsimp only)
          walk_at "m_steps"
          · rename Fr _ L _ _ => F5
            rename News _ L _ _ => N5
            have kl := kept_less (kept_less (deed_kept2 hg0 kp2 F5) hob0 (N5.get (by k_mem))) hoa0 (N5.get (by k_mem))
            show wpAny _ _ _ _ _ _
            refine eq_pair (N5.get (by k_mem : (tup, _) ∈ _)) (N5.get (.head _)) (PyProof.V.Flat.str _ _) (PyProof.V.Flat.str _ _) (shaped_str (hword ▸ ok_dim _ _ _)) rfl (by decide +kernel) hrm.clear64 ?_
            exact k _ _ _ (led_same O hfs kl (N5.get (by k_mem)) (hTab _ (deed_ups kp2 F5) ⟨_, N5.get (by k_mem)⟩).1)
          · rename (word != "") = false => hz
            simp [hw] at hz
  · -- put at a place
    by_cases hfw : fitWord x v = ""
    rotate_left
    · have hf1 : (fitWord x v != "") = true := by simpa using hfw
      have hf2 : (fitWord x v == "") = false := by simpa using hfw
      have hgo : Go := trivial
      walk_at "m_steps"
      rename_i f xc ox c' ctv ps' h2 tk2 F1 N1 hTab lA9 l1 lB9 l2
      have up0 : ∀ h5 : Heap, (∀ b o, h2.get? b = some o → h5.get? b = some o) → h5.CodeRec (.ref c') lamQual := fun h5 up => (hTab h5 (fun b o e => ⟨o.slots, up b o (F1.keep b o e)⟩) ⟨_, up _ _ (N1.get (.tail _ (.head _)))⟩).2
      refine wpAny_call (heard_one (ws := []) G (at_in B F1 (Rm.le hrm)) (N1.get (.head _)) rfl (List.forall_mem_nil _) (nm_nil _) (fun _ _ _ => False) (fun kd _ _ => kd = fitWord x v) ?_ ?_)
      · intro A' outer' s' R' H' up hfr kv ke
        refine enter_lam (news := []) (binds := []) G H' (List.forall_mem_nil _) (up _ _ (N1.get (.head _))) (up0 _ up) rfl (fun _ z => nomatch z) ?_ rfl rfl rfl (by decide)
        intro g9 L9 h9 hg9 hL9 F9 N9 B9 X9 T9 hrm9
        replace hg9 : g9 = hideAll s'.heap [] := hg9
        have g9of : ∀ b o, h2.get? b = some o → g9.get? b = some o := fun b o e => by rw [hg9]; exact up b o e
        have hcN : g9.get? (L + 1 + 1 + 1) = some oN := g9of _ _ (N1.get (by k_mem))
        have hcV : g9.get? (L + 1 + 1 + 1 + 1 + 1) = some oV := g9of _ _ (N1.get (by k_mem))
        have hcP : g9.get? (L + 1 + 1 + 1 + 1) = some oS := g9of _ _ (N1.get (by k_mem))
        have hcS : g9.get? (L + 1) = some o5 := g9of _ _ (N1.get (by k_mem))
        clear F1 N1 X T B
        walk_at "m_steps"
        rename Fr g9 L9 _ _ => F8
        rename News g9 L9 _ _ => N8
        refine wpAny_call (put_bad G (at_in B9 F8 (Rm.le hrm9)) hx hv hfw (N8.get (.head _)) ?_)
        intro h6 tk6 ea hR6
        (try dsimp only)
        walk_at "m_steps"
        exact ke _ _ _ _ (Rsd.wide (by assumption) hg9) rfl
      · intro h5 tk5 tup xw vw tv5 kp htup hfr hres
        refine heard_backK G B F1 N1 kp (fun _ z => nomatch z) fun kp2 F2 B2 X2 T2 nk nn => ?_
        have N2 := heard_news F1 nk nn hfr htup (fun _ z => nomatch z) (fun p hp => ⟨hp, nm_nil _⟩)
        rcases hres with ⟨_, hs, h1, e, _⟩ | ⟨rfl, kind, tk3, hs, h1, rfl, rfl, _⟩
        · exact e.elim
        clear F1 N1 X T B
        (try dsimp only)
        walk_at "m_steps"
        rename Fr _ L _ _ => F3
        rename News _ L _ _ => N3
        show wpAny _ _ _ _ _ _
        refine eq_pair (N3.get (by k_mem : (tup, _) ∈ _)) (N3.get (.head _)) (PyProof.V.Flat.str _ _) (PyProof.V.Flat.str _ _) (shaped_str (ok_word x v)) rfl (by decide +kernel) hrm.clear64 ?_
        exact k _ _ _ (led_same O hfs (deed_kept hg kp2 F3) (N3.get (by k_mem)) (hTab _ (deed_ups kp2 F3) ⟨_, N3.get (by k_mem)⟩).1)
    · have hf1 : (fitWord x v != "") = false := by simp [hfw]
      have hgo : Go := trivial
      cases hfd : S.find x with
      | some r =>
        have hr := ST.mem_find hfd
        have X0 := (O.lies (x, r) hr).kpf fun b hb o e => gOf b o e (O.foot211 hr b hb)
        have Fi := O.fits (x, r) hr
        have hvA : valueAt S.kvA x = some (.ref r.ta) := by rw [ST.valA, hfd]; rfl
        have hvB : valueAt S.kvB x = some (.ref r.tb) := by rw [ST.valB, hfd]; rfl
        have iw := (O.lies (x, r) hr).its_wd
        refine foldG fun G9 hG9 => ?_
        obtain ⟨hta, ⟨bvs, c1, hbl, hbi⟩, ⟨c2, hits⟩, htb, ⟨bvs', c3, hbl', hbi'⟩, hwd', hlow⟩ := X0
        obtain ⟨ow, hwd, hWD, hK⟩ := wd_split hwd'
        dsimp only at hta hbl hbi hits htb hbl' hbi' hwd' hlow hwd hWD hK Fi iw
        have hm : ∀ p ∈ [(r.its, listOf r.items.toArray c2), (r.wd, ow)], g.get? p.1 = some p.2 ∧ b0.get? p.1 = none ∧ p.1 ∉ frs outer := List.forall_mem_cons.mpr ⟨⟨hits, hb0 _ (ST.its_mut hr).1, hfs _ (List.mem_append_left _ (ST.its_mut hr).1)⟩, List.forall_mem_singleton.mpr ⟨hwd, hb0 _ (ST.its_mut hr).2, hfs _ (List.mem_append_left _ (ST.its_mut hr).2)⟩⟩
        obtain ⟨g2, hg2, F', N', B', X', T'⟩ := rebase G B FF NN hm
        refine hG9 ?_
        clear hG9 G9
        have ne1 := rebase_ne NN hits
        have ne2 := rebase_ne NN hwd
        have C' : CodeHd g2 215 211 := hC.keeps B'.stays
        have K' : TabOk g2 ps := by
          rw [hg2]
          exact K.hide (List.forall_mem_cons.mpr ⟨⟨_, hits, .inl fun _ z => by cases z⟩, List.forall_mem_singleton.mpr ⟨_, hwd, .inl hWD.nf⟩⟩)
        simp only [List.cons_append, List.nil_append] at N'
        have up2 : ∀ b o, g.get? b = some o → b ≠ r.its ∧ b ≠ r.wd → g2.get? b = some o := fun b o e hb => by
          rw [hg2]
          exact hideAll_get _ e (nm_cons hb.1 (nm_one hb.2))
        have hg0 : ∀ b o, s.heap.get? b = some o → b ∉ [r.its, r.wd, 211] → g2.get? b = some o := fun b o e hb => up2 b o (gOf b o e (nm_3 hb).2.2) ⟨(nm_3 hb).1, (nm_3 hb).2.1⟩
        have im : ∀ b ∈ [r.ta, r.tb, r.bl, r.bl'] ++ r.wr.map (·.2.1), b ≠ r.its ∧ b ≠ r.wd := fun b hb => O.imm_apart hr (ST.arr_imm hr hb)
        have hta2 := up2 _ _ hta (im _ (.head _))
        have hbl2 := up2 _ _ hbl (im _ (.tail _ (.tail _ (.head _))))
        have htb2 := up2 _ _ htb (im _ (.tail _ (.head _)))
        have hbl2' := up2 _ _ hbl' (im _ (.tail _ (.tail _ (.tail _ (.head _)))))
        have nad := O.arr_apart hr (b := S.ad) (.tail _ (.tail _ (.head _)))
        have hoa2 := up2 _ _ hoa nad
        have hob2 := up2 _ _ hob (O.arr_apart hr (.tail _ (.tail _ (.tail _ (.head _)))))
        have nst := O.imm_apart hr (b := S.st) (by walk_at "m_mut")
        have nsd := O.imm_apart hr (b := S.sd) (by walk_at "m_mut")
        have hst2 := up2 _ _ hst nst
        have hsd2 := up2 _ _ hsd nsd
        have n211 := O.arr_apart hr (b := 211) (.tail _ (.tail _ (.tail _ (.tail _ (.head _)))))
        have hK2 : KeysAt w g2 r.wr := hK.kp fun y hy o e => up2 _ o e (im _ (List.mem_append_right _ (List.mem_map_of_mem hy)))
        have hiL : r.its < L := hL ▸ Heap.lt_size ((O.lies (x, r) hr).its.choose_spec)
        have hisp : r.its ≠ sp := fun z => by
          have := (NN (sp, _) (.tail _ (.tail _ q1))).2.2
          rw [← z, hits] at this; cases this
        have nta := (im r.ta (.head _)).1.symm
        have nbl := (im r.bl (.tail _ (.tail _ (.head _)))).1.symm
        have htT := isTup_get htb2
        have hvl := hi.length
        have few4 := Nat.le_trans Fi.few (by decide : 3 ≤ 4)
        have few16 : r.wr.length ≤ 60 := hld _ hr
        clear FF NN B X T C K
        walk_at "m_steps"
        rename Fr g2 L _ _ => F1
        rename News g2 L _ _ => N1
        refine wpAny_call (law_asked_old G (at_in B' F1 (Rm.le hrm)) (F1.keep _ _ hob2) hDb hvB (F1.keep _ _ htb2) (F1.keep _ _ hbl2') hbi' (N1.get (by k_mem : (sp, listOf svs.toArray 0) ∈ _)) hi few4 (by first | exact Nat.le_succ_of_le hb | exact hb | omega) ?_)
        intro h2 tk2 tv hk2
        have F2 := Fr.kp F1 hk2
        have N2 := News.kp N1 hk2
        clear F1 N1
        by_cases hw : placeWord r.bs is = ""
        · rw [hw]
          (try dsimp only)
          walk_at "m_steps"
          rename_i kt h9 lK lK2 h10 ow' tk9 hWD' f xc ox c' ctv ps' h2' tk2' F1 N1 hTab lA9 l1 lB9 l2
          have up0 : ∀ h5 : Heap, (∀ b o, h2'.get? b = some o → h5.get? b = some o) → h5.CodeRec (.ref c') lamQual := fun h5 up => (hTab h5 (fun b o e => ⟨o.slots, up b o (F1.keep b o e)⟩) ⟨_, up _ _ (N1.get (.tail _ (.head _)))⟩).2
          have hits1 : h2'.get? r.its = some (listOf r.items.toArray c2) := N1.get (by k_mem)
          have hiW := (N1 (r.its, listOf r.items.toArray c2) (by k_mem)).2
          have hW : ∀ b ∈ [r.its], g2.get? b = none ∧ b ≠ L := List.forall_mem_singleton.mpr ⟨hiW.2, hiW.1⟩
          have hfi : f ≠ r.its := Ne.symm (allLt_ne lB9 (by k_mem : (r.its, listOf r.items.toArray c2) ∈ _))
          have b0i := hb0 _ (ST.its_mut hr).1
          have fsi := hfs _ (List.mem_append_left _ (ST.its_mut hr).1)
          refine wpAny_call (heard_one (ws := [(r.its, listOf r.items.toArray c2)]) G (at_in B' F1 (Rm.le hrm)) (N1.get (.head _)) rfl (List.forall_mem_singleton.mpr ⟨hits1, b0i, nf_cons (hW _ (.head _)).2 fsi⟩) (nm_one hfi)
            (fun u _ h1 => u = .none ∧ placeWord r.bs is = "" ∧ h1.get? r.its = some (listOf (r.items.set (placeOf r.bs is).toNat v).toArray c2)) (fun kd _ h1 => placeWord r.bs is ≠ "" ∧ kd = placeWord r.bs is ∧ h1.get? r.its = some (listOf r.items.toArray c2)) ?_ ?_)
          · intro A' outer' s' R' H' up hfr kv ke
            have hits' : s'.heap.get? r.its = some (listOf r.items.toArray c2) := up _ _ hits1
            refine enter_lam (news := [(r.its, listOf r.items.toArray c2)]) (binds := []) G H' (List.forall_mem_singleton.mpr ⟨hits', b0i, hfr _ (.head _)⟩) (up _ _ (N1.get (.head _))) (up0 _ up) rfl (fun _ z => nomatch z) ?_ rfl rfl rfl (by decide)
            intro g9 L9 h9 hg9 hL9 F9 N9 B9 X9 T9 hrm9
            replace hg9 : g9 = hideAll s'.heap [r.its] := hg9
            have g9of : ∀ b o, h2'.get? b = some o → b ≠ r.its → g9.get? b = some o := fun b o e z => by rw [hg9]; exact hideAll_get _ (up b o e) (nm_one z)
            have e9 : ∀ b o, g2.get? b = some o → b ≠ r.its → g9.get? b = some o := fun b o e z => g9of b o (F1.keep b o e) z
            have hcN : g9.get? (L + 1 + 1 + 1) = some oN := g9of _ _ (N1.get (by k_mem)) (Nat.ne_of_gt (Nat.lt_add_right 3 hiL))
            have hcV : g9.get? (L + 1 + 1 + 1 + 1 + 1) = some oV := g9of _ _ (N1.get (by k_mem)) (Nat.ne_of_gt (Nat.lt_add_right 5 hiL))
            have hcP : g9.get? (L + 1 + 1 + 1 + 1) = some oS := g9of _ _ (N1.get (by k_mem)) (Nat.ne_of_gt (Nat.lt_add_right 4 hiL))
            have hcS : g9.get? (L + 1) = some o5 := g9of _ _ (N1.get (by k_mem)) (Nat.ne_of_gt (Nat.lt_add_right 1 hiL))
            have hsp9 : g9.get? sp = some (listOf svs.toArray 0) := g9of _ _ (N1.get (by k_mem)) hisp.symm
            have hst9 : g9.get? S.st = some (instObj 107 S.sd) := e9 _ _ hst2 nst.1
            have hsd9 : g9.get? S.sd = some (storeDict w S.vd S.ad S.rd S.sp t1 t2 t3 t4 t5) := e9 _ _ hsd2 nsd.1
            have hWo := out_of hg9
            have hWL9 := outL_of hg9 hL9 (List.forall_mem_singleton.mpr ⟨_, hits'⟩)
            clear F1 N1 X' T' B'
            walk_at "m_steps"
            rename Fr g9 L9 _ _ => F8
            rename News g9 L9 _ _ => N8
            refine wpAny_call (put_old G (at_in B9 F8 (Rm.le hrm9)) hx hv (F8.keep _ _ hst9) (F8.keep _ _ hsd9) (F8.keep _ _ (e9 _ _ hoa2 nad.1)) hDa hvA (F8.keep _ _ (e9 _ _ hta2 nta.symm)) (F8.keep _ _ (e9 _ _ hbl2 nbl.symm)) hbi (F8.keep _ _ hsp9) hi few4 (by first | exact Nat.le_succ_of_le hb | exact hb | omega) Fi.bounds
              (N8.get (by k_mem : (r.its, listOf r.items.toArray c2) ∈ _)) Fi.size (fun q => Fi.inside q) b0i (nf_cons (hWL9 _ (.head _)).2 (hfr _ (.head _))) ⟨nsd.1.symm, nst.1.symm, ?_, nad.1.symm, nta, nbl, hisp⟩ (N8.get (.head _)) ?_ ?_ ?_)
            · rename r.its < _ => q; exact Nat.ne_of_lt q
            · intro _ hw' h6 tk6 hk6 q
              exact kv _ _ _ (KeepW.trans (keepW hg9 F8) hk6) ⟨rfl, hw', q⟩
            · exact fun z => absurd hfw z
            · intro _ hw' h6 tk6 ea hR6 q
              (try dsimp only)
              walk_at "m_steps"
              rename ∀ (b : Addr) (o : Obj), _ → (∀ vs, o.data ≠ .fields vs) → _ → _ => hO
              exact ke _ _ _ _ (Rsd.wide (by assumption) hg9) ⟨hw', rfl, hO r.its _ q (fun _ z => by cases z) (nf_cons (hWL9 _ (.head _)).2 (hfr _ (.head _)))⟩
          · intro h5 tk5 tup xw vw tv5 kp htup hfr hres
            refine heard_backK G B' F1 N1 kp hW fun kp2 F2' B2 X2 T2 nk nn => ?_
            have hz : xw = "value" ∧ vw = .none ∧ h5.get? r.its = some (listOf (r.items.set (placeOf r.bs is).toNat v).toArray c2) := by
              rcases hres with ⟨rfl, hs, h1', ⟨rfl, _, q⟩, cy⟩ | ⟨_, kind, tk3, hs, h1', _, ⟨q1, _⟩, _⟩
              · exact ⟨rfl, rfl, cy.on _ _ q (fun _ z => by cases z) (.inl (.head _))⟩
              · exact absurd hw q1
            obtain ⟨rfl, rfl, hits5⟩ := hz
            have m1 := fresh_led hg0 (N1 (kt, tupObj svs) (by k_mem)).2.2 (nm_cons (Nat.ne_of_gt lK2.1) (nm_cons (Nat.ne_of_gt lK2.2.1) (nm_one (Nat.ne_of_gt lK2.2.2.2.1))))
            have N2' := heard_news (r := [(xc, ox), (kt, tupObj svs), (r.wd, ow'), (211, tabObj ps')]) F1 nk nn hfr htup hW (List.forall_mem_cons.mpr ⟨⟨by k_mem, nm_one (Ne.symm (allLt_ne lA9 (by k_mem : (r.its, listOf r.items.toArray c2) ∈ _)))⟩, List.forall_mem_cons.mpr ⟨⟨by k_mem, nm_one (Nat.ne_of_gt lK2.1)⟩, List.forall_mem_cons.mpr ⟨⟨by k_mem, nm_one iw.symm⟩, List.forall_mem_singleton.mpr ⟨by k_mem, nm_one n211.1⟩⟩⟩⟩)
            have N3' := news_cons hits5 hiW.1 (over_none hiW.2) N2'
            clear F1 N1 X' T' B' nk nn N2' hres
            (try dsimp only)
            walk_at "m_steps"
            rename Fr _ L _ _ => F5
            rename News _ L _ _ => N5
            show wpAny _ _ _ _ _ _
            refine eq_pair (N5.get (by k_mem : (tup, _) ∈ _)) (N5.get (.head _)) PyProof.V.Flat.none PyProof.V.Flat.none (by decide +kernel) rfl (by decide +kernel) hrm.clear64 ?_
            exact k _ _ _ (led_turn O hfs hfd (deed_kept2 hg0 kp2 F5) (N5.get (by k_mem)) (N5.get (by k_mem)) hWD' (N5.get (by k_mem : (kt, tupObj svs) ∈ _)) hi m1 hw hfw hv hok (N5.get (by k_mem)) (hTab _ (deed_ups kp2 F5) ⟨_, N5.get (by k_mem)⟩).1)
        · obtain ⟨word, hword⟩ : ∃ word, word = placeWord r.bs is := ⟨_, rfl⟩
          rw [← hword] at hw ⊢
          have hw1 : (word != "") = true := by simpa using hw
          have hw2 : (word == "") = false := by simpa using hw
          (try dsimp only)
          walk_at "m_steps"
          rename_i f xc ox c' ctv ps' h2' tk2' F1 N1 hTab lA9 l1 lB9 l2
          have up0 : ∀ h5 : Heap, (∀ b o, h2'.get? b = some o → h5.get? b = some o) → h5.CodeRec (.ref c') lamQual := fun h5 up => (hTab h5 (fun b o e => ⟨o.slots, up b o (F1.keep b o e)⟩) ⟨_, up _ _ (N1.get (.tail _ (.head _)))⟩).2
          have hits1 : h2'.get? r.its = some (listOf r.items.toArray c2) := N1.get (by k_mem)
          have hiW := (N1 (r.its, listOf r.items.toArray c2) (by k_mem)).2
          have hW : ∀ b ∈ [r.its], g2.get? b = none ∧ b ≠ L := List.forall_mem_singleton.mpr ⟨hiW.2, hiW.1⟩
          have hfi : f ≠ r.its := Ne.symm (allLt_ne lB9 (by k_mem : (r.its, listOf r.items.toArray c2) ∈ _))
          have b0i := hb0 _ (ST.its_mut hr).1
          have fsi := hfs _ (List.mem_append_left _ (ST.its_mut hr).1)
          refine wpAny_call (heard_one (ws := [(r.its, listOf r.items.toArray c2)]) G (at_in B' F1 (Rm.le hrm)) (N1.get (.head _)) rfl (List.forall_mem_singleton.mpr ⟨hits1, b0i, nf_cons (hW _ (.head _)).2 fsi⟩) (nm_one hfi)
            (fun u _ h1 => u = .none ∧ placeWord r.bs is = "" ∧ h1.get? r.its = some (listOf (r.items.set (placeOf r.bs is).toNat v).toArray c2)) (fun kd _ h1 => placeWord r.bs is ≠ "" ∧ kd = placeWord r.bs is ∧ h1.get? r.its = some (listOf r.items.toArray c2)) ?_ ?_)
          · intro A' outer' s' R' H' up hfr kv ke
            have hits' : s'.heap.get? r.its = some (listOf r.items.toArray c2) := up _ _ hits1
            refine enter_lam (news := [(r.its, listOf r.items.toArray c2)]) (binds := []) G H' (List.forall_mem_singleton.mpr ⟨hits', b0i, hfr _ (.head _)⟩) (up _ _ (N1.get (.head _))) (up0 _ up) rfl (fun _ z => nomatch z) ?_ rfl rfl rfl (by decide)
            intro g9 L9 h9 hg9 hL9 F9 N9 B9 X9 T9 hrm9
            replace hg9 : g9 = hideAll s'.heap [r.its] := hg9
            have g9of : ∀ b o, h2'.get? b = some o → b ≠ r.its → g9.get? b = some o := fun b o e z => by rw [hg9]; exact hideAll_get _ (up b o e) (nm_one z)
            have e9 : ∀ b o, g2.get? b = some o → b ≠ r.its → g9.get? b = some o := fun b o e z => g9of b o (F1.keep b o e) z
            have hcN : g9.get? (L + 1 + 1 + 1) = some oN := g9of _ _ (N1.get (by k_mem)) (Nat.ne_of_gt (Nat.lt_add_right 3 hiL))
            have hcV : g9.get? (L + 1 + 1 + 1 + 1 + 1) = some oV := g9of _ _ (N1.get (by k_mem)) (Nat.ne_of_gt (Nat.lt_add_right 5 hiL))
            have hcP : g9.get? (L + 1 + 1 + 1 + 1) = some oS := g9of _ _ (N1.get (by k_mem)) (Nat.ne_of_gt (Nat.lt_add_right 4 hiL))
            have hcS : g9.get? (L + 1) = some o5 := g9of _ _ (N1.get (by k_mem)) (Nat.ne_of_gt (Nat.lt_add_right 1 hiL))
            have hsp9 : g9.get? sp = some (listOf svs.toArray 0) := g9of _ _ (N1.get (by k_mem)) hisp.symm
            have hst9 : g9.get? S.st = some (instObj 107 S.sd) := e9 _ _ hst2 nst.1
            have hsd9 : g9.get? S.sd = some (storeDict w S.vd S.ad S.rd S.sp t1 t2 t3 t4 t5) := e9 _ _ hsd2 nsd.1
            have hWo := out_of hg9
            have hWL9 := outL_of hg9 hL9 (List.forall_mem_singleton.mpr ⟨_, hits'⟩)
            clear F1 N1 X' T' B'
            walk_at "m_steps"
            rename Fr g9 L9 _ _ => F8
            rename News g9 L9 _ _ => N8
            refine wpAny_call (put_old G (at_in B9 F8 (Rm.le hrm9)) hx hv (F8.keep _ _ hst9) (F8.keep _ _ hsd9) (F8.keep _ _ (e9 _ _ hoa2 nad.1)) hDa hvA (F8.keep _ _ (e9 _ _ hta2 nta.symm)) (F8.keep _ _ (e9 _ _ hbl2 nbl.symm)) hbi (F8.keep _ _ hsp9) hi few4 (by first | exact Nat.le_succ_of_le hb | exact hb | omega) Fi.bounds
              (N8.get (by k_mem : (r.its, listOf r.items.toArray c2) ∈ _)) Fi.size (fun q => Fi.inside q) b0i (nf_cons (hWL9 _ (.head _)).2 (hfr _ (.head _))) ⟨nsd.1.symm, nst.1.symm, ?_, nad.1.symm, nta, nbl, hisp⟩ (N8.get (.head _)) ?_ ?_ ?_)
            · rename r.its < _ => q; exact Nat.ne_of_lt q
            · intro _ hw' h6 tk6 hk6 q
              exact kv _ _ _ (KeepW.trans (keepW hg9 F8) hk6) ⟨rfl, hw', q⟩
            · exact fun z => absurd hfw z
            · intro _ hw' h6 tk6 ea hR6 q
              (try dsimp only)
              walk_at "m_steps"
              rename ∀ (b : Addr) (o : Obj), _ → (∀ vs, o.data ≠ .fields vs) → _ → _ => hO
              exact ke _ _ _ _ (Rsd.wide (by assumption) hg9) ⟨hw', rfl, hO r.its _ q (fun _ z => by cases z) (nf_cons (hWL9 _ (.head _)).2 (hfr _ (.head _)))⟩
          · intro h5 tk5 tup xw vw tv5 kp htup hfr hres
            refine heard_backK G B' F1 N1 kp hW fun kp2 F2' B2 X2 T2 nk nn => ?_
            have hz : xw = "refused" ∧ (∃ tk3, vw = .str word tk3) ∧ h5.get? r.its = some (listOf r.items.toArray c2) := by
              rcases hres with ⟨_, hs, h1', ⟨_, q1, _⟩, _⟩ | ⟨rfl, kind, tk3, hs, h1', rfl, ⟨_, rfl, q⟩, cy⟩
              · exact absurd (hword.trans q1) hw
              · exact ⟨rfl, ⟨tk3, by rw [hword]⟩, cy.on _ _ q (fun _ z => by cases z) (.inl (.head _))⟩
            obtain ⟨rfl, ⟨tk3, rfl⟩, hits5⟩ := hz
            have N2' := heard_news (r := [(xc, ox), (r.wd, ow), (211, tabObj ps')]) F1 nk nn hfr htup hW (List.forall_mem_cons.mpr ⟨⟨by k_mem, nm_one (Ne.symm (allLt_ne lA9 (by k_mem : (r.its, listOf r.items.toArray c2) ∈ _)))⟩, List.forall_mem_cons.mpr ⟨⟨by k_mem, nm_one iw.symm⟩, List.forall_mem_singleton.mpr ⟨by k_mem, nm_one n211.1⟩⟩⟩)
            have N3' := news_cons hits5 hiW.1 (over_none hiW.2) N2'
            clear F1 N1 X' T' B' nk nn N2' hres
            (try dsimp only)
            walk_at "m_steps"
            rename Fr _ L _ _ => F5
            rename News _ L _ _ => N5
            have s1 : s.heap.get? r.its = some (listOf r.items.toArray c2) := of_hideAll _ (hg ▸ hits)
            have s2 : s.heap.get? r.wd = some ow := of_hideAll _ (hg ▸ hwd)
            have kl := kept_less (kept_less (deed_kept2 hg0 kp2 F5) s1 (N5.get (by k_mem))) s2 (N5.get (by k_mem))
            show wpAny _ _ _ _ _ _
            refine eq_pair (N5.get (by k_mem : (tup, _) ∈ _)) (N5.get (.head _)) (PyProof.V.Flat.str _ _) (PyProof.V.Flat.str _ _) (shaped_str (hword ▸ ok_place _ _)) rfl (by decide +kernel) hrm.clear64 ?_
            exact k _ _ _ (led_same O hfs kl (N5.get (by k_mem)) (hTab _ (deed_ups kp2 F5) ⟨_, N5.get (by k_mem)⟩).1)
      | none =>
        have hvA : valueAt S.kvA x = none := by rw [ST.valA, hfd]; rfl
        have hvB : valueAt S.kvB x = none := by rw [ST.valB, hfd]; rfl
        have hm : ∀ p ∈ [(S.bd, ob), (S.ad, oa)], g.get? p.1 = some p.2 ∧ b0.get? p.1 = none ∧ p.1 ∉ frs outer := List.forall_mem_cons.mpr ⟨⟨hob, hb0 _ (by walk_at "m_mut"), hfs _ (by walk_at "m_mut")⟩, List.forall_mem_singleton.mpr ⟨hoa, hb0 _ (by walk_at "m_mut"), hfs _ (by walk_at "m_mut")⟩⟩
        refine foldG fun G9 hG9 => ?_
        obtain ⟨g2, hg2, F', N', B', X', T'⟩ := rebase G B FF NN hm
        refine hG9 ?_
        clear hG9 G9
        have ne1 := rebase_ne NN hob
        have ne2 := rebase_ne NN hoa
        have ne3 : @Ne Nat S.ad S.bd := O.adbd
        have C' : CodeHd g2 215 211 := hC.keeps B'.stays
        have K' : TabOk g2 ps := by
          rw [hg2]
          exact K.hide (List.forall_mem_cons.mpr ⟨⟨_, hob, .inl hDb.nf⟩, List.forall_mem_singleton.mpr ⟨_, hoa, .inl hDa.nf⟩⟩)
        have hfewA : S.kvA.length ≤ 900 := by rw [ST.kvA_len]; exact Nat.le_trans O.fewA (by decide)
        have hfewB : S.kvB.length ≤ 900 := by rw [ST.kvB_len]; exact Nat.le_trans O.fewA (by decide)
        simp only [List.cons_append, List.nil_append] at N'
        have hg0 : ∀ b o, s.heap.get? b = some o → b ∉ [S.bd, S.ad, 211] → g2.get? b = some o := fun b o e hb => by
          rw [hg2]; exact hideAll_get _ (gOf b o e (nm_3 hb).2.2) (nm_cons (nm_3 hb).1 (nm_one (nm_3 hb).2.1))
        have hmm : ∀ a ∈ [S.bd, S.ad, 211], a ∈ S.muts := List.forall_mem_cons.mpr ⟨by walk_at "m_mut", List.forall_mem_cons.mpr ⟨by walk_at "m_mut", List.forall_mem_singleton.mpr m211⟩⟩
        have nst : S.st ∉ [S.bd, S.ad, 211] := fun z => O.frozen S.st (by walk_at "m_mut") (hmm _ z)
        have nsd : S.sd ∉ [S.bd, S.ad, 211] := fun z => O.frozen S.sd (by walk_at "m_mut") (hmm _ z)
        have nst2 : @Ne Nat S.st S.ad := ne_mem nst (.tail _ (.head _))
        have nsd2 : @Ne Nat S.sd S.ad := ne_mem nsd (.tail _ (.head _))
        have haL : S.ad < L := hL ▸ Heap.lt_size hoa0
        have hst2 := hg0 _ _ O.st nst
        have hsd2 := hg0 _ _ hsd0 nsd
        have hbsp : S.bd ≠ sp := fun z => by
          have := (NN (sp, _) (.tail _ (.tail _ q1))).2.2
          rw [← z, hob] at this; cases this
        have hasp : S.ad ≠ sp := fun z => by
          have := (NN (sp, _) (.tail _ (.tail _ q1))).2.2
          rw [← z, hoa] at this; cases this
        have hvl := hi.length
        have hK : KeysAt w g2 [] := fun _ z => nomatch z
        have few16 : ([] : List (List Int × Addr × Value)).length ≤ 1000 := Nat.zero_le _
        clear FF NN B X T C K
        walk_at "m_steps"
        rename Fr g2 L _ _ => F1
        rename News g2 L _ _ => N1
        have hbW := (N1 (S.bd, ob) (.head _)).2
        refine wpAny_call (law_asked_new G (at_in B' F1 (Rm.le hrm)) hx (N1.get (.head _)) hDb hfewB hvB (hb0 _ (by walk_at "m_mut")) (nf_cons hbW.1 (hfs _ (by walk_at "m_mut"))) hbsp (N1.get (by k_mem : (sp, listOf svs.toArray 0) ∈ _)) hi hb ?_)
        intro h2 tk2 tv hk2 hbook
        have W3 : ∀ b ∈ [S.bd, S.ad, 211], ∃ o, Heap.get? _ b = some o := List.forall_mem_cons.mpr ⟨⟨_, N1.get (.head _)⟩, List.forall_mem_cons.mpr ⟨⟨_, N1.get (.tail _ (.head _))⟩, List.forall_mem_singleton.mpr ⟨_, N1.get (by k_mem : (211, tabObj ps) ∈ _)⟩⟩⟩
        refine foldG fun G9 hG9 => ?_
        obtain ⟨tupB, lB', wd, tb, ob', ow, hDb', hDw, F2, N2, m1, m2, m3, ⟨m8, m9⟩, m4, m5, m6, m7⟩ := ask_led hbook hk2 F1 N1 ⟨ne3, ne1⟩
        refine hG9 ?_
        clear hG9 G9
        replace m1 := fresh_s hg0 F1 W3 m1
        replace m2 := fresh_s hg0 F1 W3 m2
        replace m3 := fresh_s hg0 F1 W3 m3
        clear F1 N1 W3 hbook
        have hWD := wd_empty hDw
        have hlow := hDw.1
        have hvx : valueAt (stored S.kvB x (.ref tupB)) x = some (.ref tupB) := valueAt_stored
        have m6' := m6.symm
        have m7' := m7.symm
        have m5' := m5.symm
        by_cases hw : placeWord (List.replicate is.length 10) is = ""
        · rw [hw]
          (try dsimp only)
          walk_at "m_steps"
          rename_i kt h9 lK lK2 h10 ow2 tk9 hWD2 f xc ox c' ctv ps' h2' tk2' F1 N1 hTab lA9 l1 lB9 l2
          have up0 : ∀ h5 : Heap, (∀ b o, h2'.get? b = some o → h5.get? b = some o) → h5.CodeRec (.ref c') lamQual := fun h5 up => (hTab h5 (fun b o e => ⟨o.slots, up b o (F1.keep b o e)⟩) ⟨_, up _ _ (N1.get (.tail _ (.head _)))⟩).2
          have had : h2'.get? S.ad = some oa := N1.get (by k_mem)
          have haW2 := (N1 (S.ad, oa) (by k_mem)).2
          have hW : ∀ b ∈ [S.ad], g2.get? b = none ∧ b ≠ L := List.forall_mem_singleton.mpr ⟨haW2.2, haW2.1⟩
          have W3 : ∀ b ∈ [S.bd, S.ad, 211], ∃ o, h2'.get? b = some o := List.forall_mem_cons.mpr ⟨⟨_, N1.get (by k_mem : (S.bd, ob') ∈ _)⟩, List.forall_mem_cons.mpr ⟨⟨_, had⟩, List.forall_mem_singleton.mpr ⟨_, N1.get (by k_mem : (211, tabObj ps') ∈ _)⟩⟩⟩
          have hfad : f ≠ S.ad := Ne.symm (allLt_ne lB9 (by k_mem : (S.ad, oa) ∈ _))
          refine wpAny_call (heard_one (ws := [(S.ad, oa)]) G (at_in B' F1 (Rm.le hrm)) (N1.get (.head _)) rfl (List.forall_mem_singleton.mpr ⟨had, hb0 _ (by walk_at "m_mut"), nf_cons (hW _ (.head _)).2 (hfs _ (by walk_at "m_mut"))⟩) (nm_one hfad)
            (fun u hs h1 => u = .none ∧ placeWord (List.replicate is.length 10) is = "" ∧ ∃ nv, IsNothing x nv ∧ ArrIs w hs h1 S.ad S.kvA x is.length ((List.replicate (manyOf (List.replicate is.length 10)).toNat nv).set (placeOf (List.replicate is.length 10) is).toNat v))
            (fun kd hs h1 => placeWord (List.replicate is.length 10) is ≠ "" ∧ kd = placeWord (List.replicate is.length 10) is ∧ NewArr w hs h1 S.ad S.kvA x is.length) ?_ ?_)
          · intro A' outer' s' R' H' up hfr kv ke
            have had' : s'.heap.get? S.ad = some oa := up _ _ had
            refine enter_lam (news := [(S.ad, oa)]) (binds := []) G H' (List.forall_mem_singleton.mpr ⟨had', hb0 _ (by walk_at "m_mut"), hfr _ (.head _)⟩) (up _ _ (N1.get (.head _))) (up0 _ up) rfl (fun _ z => nomatch z) ?_ rfl rfl rfl (by decide)
            intro g9 L9 h9 hg9 hL9 F9 N9 B9 X9 T9 hrm9
            replace hg9 : g9 = hideAll s'.heap [S.ad] := hg9
            have g9of : ∀ b o, h2'.get? b = some o → b ≠ S.ad → g9.get? b = some o := fun b o e z => by rw [hg9]; exact hideAll_get _ (up b o e) (nm_one z)
            have hcN : g9.get? (L + 1 + 1 + 1) = some oN := g9of _ _ (N1.get (by k_mem)) (Nat.ne_of_gt (Nat.lt_add_right 3 haL))
            have hcV : g9.get? (L + 1 + 1 + 1 + 1 + 1) = some oV := g9of _ _ (N1.get (by k_mem)) (Nat.ne_of_gt (Nat.lt_add_right 5 haL))
            have hcP : g9.get? (L + 1 + 1 + 1 + 1) = some oS := g9of _ _ (N1.get (by k_mem)) (Nat.ne_of_gt (Nat.lt_add_right 4 haL))
            have hcS : g9.get? (L + 1) = some o5 := g9of _ _ (N1.get (by k_mem)) (Nat.ne_of_gt (Nat.lt_add_right 1 haL))
            have hsp9 : g9.get? sp = some (listOf svs.toArray 0) := g9of _ _ (N1.get (by k_mem)) hasp.symm
            have hst9 : g9.get? S.st = some (instObj 107 S.sd) := g9of _ _ (F1.keep _ _ hst2) nst2
            have hsd9 : g9.get? S.sd = some (storeDict w S.vd S.ad S.rd S.sp t1 t2 t3 t4 t5) := g9of _ _ (F1.keep _ _ hsd2) nsd2
            have hWo := out_of hg9
            have hWL9 := outL_of hg9 hL9 (List.forall_mem_singleton.mpr ⟨_, had'⟩)
            clear F1 N1 X' T' B'
            walk_at "m_steps"
            rename Fr g9 L9 _ _ => F8
            rename News g9 L9 _ _ => N8
            refine wpAny_call (put_new G (at_in B9 F8 (Rm.le hrm9)) hx hv (F8.keep _ _ hst9) (F8.keep _ _ hsd9) (N8.get (by k_mem : (S.ad, oa) ∈ _)) hDa hfewA hvA (hb0 _ (by walk_at "m_mut")) (nf_cons (hWL9 _ (.head _)).2 (hfr _ (.head _))) ⟨nsd2.symm, nst2.symm, hasp, ?_⟩ (F8.keep _ _ hsp9) hi hb (N8.get (.head _)) ?_ ?_ ?_)
            · rename S.ad < _ => q; exact Nat.ne_of_lt q
            · intro _ hw' h6 tk6 nv1 hu hk6 harr
              exact kv _ _ _ (KeepW.trans (keepW hg9 F8) hk6) ⟨rfl, hw', nv1, hu, harr.back (keepW hg9 F8) (N8.get (by k_mem : (S.ad, oa) ∈ _))⟩
            · exact fun z => absurd hfw z
            · intro _ hw' h6 tk6 ea hR6 hnew
              (try dsimp only)
              walk_at "m_steps"
              rename ∀ (b : Addr) (o : Obj), _ → (∀ vs, o.data ≠ .fields vs) → _ → _ => hO
              exact ke _ _ _ _ (Rsd.wide (by assumption) hg9) ⟨hw', rfl, (hnew.fwd fun b o q1 q2 q3 => hO b o q1 q2 (q3.elim (fun z => z ▸ nf_cons (hWL9 _ (.head _)).2 (hfr _ (.head _))) fun z => out_frs B9 F8 z)).back (keepW hg9 F8) (N8.get (by k_mem : (S.ad, oa) ∈ _))⟩
          · intro h5 tk5 tup xw vw tv5 kp htup hfr hres
            refine heard_backK G B' F1 N1 kp hW fun kp2 F2' B2 X2 T2 nk nn => ?_
            have hz : xw = "value" ∧ vw = .none ∧ ∃ hs nv1, IsNothing x nv1 ∧ ArrIs w hs h5 S.ad S.kvA x is.length ((List.replicate (manyOf (List.replicate is.length 10)).toNat nv1).set (placeOf (List.replicate is.length 10) is).toNat v) ∧ ∀ b o, h2'.get? b = some o → hs.get? b = some o := by
              rcases hres with ⟨rfl, hs, h1', ⟨rfl, _, nv1, hu, q⟩, cy⟩ | ⟨_, kind, tk3, hs, h1', _, ⟨q1, _⟩, _⟩
              · exact ⟨rfl, rfl, hs, nv1, hu, q.fwd fun b o q1 q2 q3 => cy.on b o q1 q2 (Or.elim q3 (fun z => .inl (by rw [z]; exact .head _)) .inr), cy.up⟩
              · exact absurd hw q1
            refine foldG fun G9 hG9 => ?_
            obtain ⟨rfl, rfl, hs, nv1, hu, harr, hup⟩ := hz
            have mk1 := fresh_led hg0 (N1 (kt, tupObj svs) (by k_mem)).2.2 (nm_cons (Ne.symm (allLt_ne lK (by k_mem : (S.bd, ob') ∈ _))) (nm_cons (Ne.symm (allLt_ne lK (by k_mem : (S.ad, oa) ∈ _))) (nm_one (Ne.symm (allLt_ne lK (by k_mem : (211, tabObj ps) ∈ _))))))
            have N2' := heard_news (r := [(xc, ox), (kt, tupObj svs), (tupB, tupObj [.ref lB', .ref wd]), (wd, ow2), (lB', listOf (List.replicate is.length (.int 10 tb)).toArray 0), (S.bd, ob'), (211, tabObj ps')]) F1 nk nn hfr htup hW (List.forall_mem_cons.mpr ⟨⟨by k_mem, nm_one (Ne.symm (allLt_ne lA9 (by k_mem : (S.ad, oa) ∈ _)))⟩, List.forall_mem_cons.mpr ⟨⟨by k_mem, nm_one (Ne.symm (allLt_ne lK (by k_mem : (S.ad, oa) ∈ _)))⟩, List.forall_mem_cons.mpr ⟨⟨by k_mem, nm_one (Ne.symm m8.1)⟩, List.forall_mem_cons.mpr ⟨⟨by k_mem, nm_one (Ne.symm m4.1)⟩, List.forall_mem_cons.mpr ⟨⟨by k_mem, nm_one (Ne.symm m9.1)⟩, List.forall_mem_cons.mpr ⟨⟨by k_mem, nm_one ne3.symm⟩, List.forall_mem_singleton.mpr ⟨by k_mem, nm_one n5.2.2.1.symm⟩⟩⟩⟩⟩⟩⟩)
            obtain ⟨ta9, its9, bl9, tb9, oa9, hDa9, N3', p1, p2, p3, p4⟩ := arr_led harr hup F1 haW2.2 haW2.1 N2'
            refine hG9 ?_
            clear hG9 G9
            have p5 : its9 ≠ lB' := fun z => by
              have := N1.get (by k_mem : (lB', listOf (List.replicate is.length (.int 10 tb)).toArray 0) ∈ _)
              rw [← z, p3] at this; cases this
            replace p2 := fresh_s hg0 F1 W3 p2
            replace p3 := fresh_s hg0 F1 W3 p3
            replace p4 := fresh_s hg0 F1 W3 p4
            clear F1 N1 X' T' B' nk nn N2' hres harr
            (try dsimp only)
            walk_at "m_steps"
            rename Fr _ L _ _ => F5
            rename News _ L _ _ => N5
            show wpAny _ _ _ _ _ _
            refine eq_pair (N5.get (by k_mem : (tup, _) ∈ _)) (N5.get (.head _)) PyProof.V.Flat.none PyProof.V.Flat.none (by decide +kernel) rfl (by decide +kernel) hrm.clear64 ?_
            have fi := (fits_new (ta := ta9) (tb := tupB) (bl := bl9) (bl' := lB') (its := its9) (wd := wd) (usual_made hb) (fun n hn => by rw [List.eq_of_mem_replicate hn]; decide) hu).put (a := kt) hw hfw hv hok
            exact k _ _ _ (led_new O hfs (deed_kept2 hg0 kp2 F5) hx hfd (N5.get (by k_mem)) (N5.get (by k_mem)) hDa9 hDb' (N5.get (by k_mem)) (N5.get (by k_mem)) (ints_rep _ _ _) (N5.get (by k_mem)) (N5.get (by k_mem)) (N5.get (by k_mem)) (ints_rep _ _ _) (N5.get (by k_mem)) hWD2 (fun y hy => by cases List.mem_singleton.mp hy; exact key_at (N5.get (by k_mem : (kt, tupObj svs) ∈ _)) hi) hlow
              fi p2 m1 p4 m3 p3 m2 (fun y hy => by cases List.mem_singleton.mp hy; exact mk1) p1 p5 (Nat.le_refl _) (N5.get (by k_mem)) (hTab _ (deed_ups kp2 F5) ⟨_, N5.get (by k_mem)⟩).1)
        · obtain ⟨word, hword⟩ : ∃ word, word = placeWord (List.replicate is.length 10) is := ⟨_, rfl⟩
          rw [← hword] at hw ⊢
          have hw1 : (word != "") = true := by simpa using hw
          have hw2 : (word == "") = false := by simpa using hw
          (try dsimp only)
          walk_at "m_steps"
          rename_i f xc ox c' ctv ps' h2' tk2' F1 N1 hTab lA9 l1 lB9 l2
          have up0 : ∀ h5 : Heap, (∀ b o, h2'.get? b = some o → h5.get? b = some o) → h5.CodeRec (.ref c') lamQual := fun h5 up => (hTab h5 (fun b o e => ⟨o.slots, up b o (F1.keep b o e)⟩) ⟨_, up _ _ (N1.get (.tail _ (.head _)))⟩).2
          have had : h2'.get? S.ad = some oa := N1.get (by k_mem)
          have haW2 := (N1 (S.ad, oa) (by k_mem)).2
          have hW : ∀ b ∈ [S.ad], g2.get? b = none ∧ b ≠ L := List.forall_mem_singleton.mpr ⟨haW2.2, haW2.1⟩
          have W3 : ∀ b ∈ [S.bd, S.ad, 211], ∃ o, h2'.get? b = some o := List.forall_mem_cons.mpr ⟨⟨_, N1.get (by k_mem : (S.bd, ob') ∈ _)⟩, List.forall_mem_cons.mpr ⟨⟨_, had⟩, List.forall_mem_singleton.mpr ⟨_, N1.get (by k_mem : (211, tabObj ps') ∈ _)⟩⟩⟩
          have hfad : f ≠ S.ad := Ne.symm (allLt_ne lB9 (by k_mem : (S.ad, oa) ∈ _))
          refine wpAny_call (heard_one (ws := [(S.ad, oa)]) G (at_in B' F1 (Rm.le hrm)) (N1.get (.head _)) rfl (List.forall_mem_singleton.mpr ⟨had, hb0 _ (by walk_at "m_mut"), nf_cons (hW _ (.head _)).2 (hfs _ (by walk_at "m_mut"))⟩) (nm_one hfad)
            (fun u hs h1 => u = .none ∧ placeWord (List.replicate is.length 10) is = "" ∧ ∃ nv, IsNothing x nv ∧ ArrIs w hs h1 S.ad S.kvA x is.length ((List.replicate (manyOf (List.replicate is.length 10)).toNat nv).set (placeOf (List.replicate is.length 10) is).toNat v))
            (fun kd hs h1 => placeWord (List.replicate is.length 10) is ≠ "" ∧ kd = placeWord (List.replicate is.length 10) is ∧ NewArr w hs h1 S.ad S.kvA x is.length) ?_ ?_)
          · intro A' outer' s' R' H' up hfr kv ke
            have had' : s'.heap.get? S.ad = some oa := up _ _ had
            refine enter_lam (news := [(S.ad, oa)]) (binds := []) G H' (List.forall_mem_singleton.mpr ⟨had', hb0 _ (by walk_at "m_mut"), hfr _ (.head _)⟩) (up _ _ (N1.get (.head _))) (up0 _ up) rfl (fun _ z => nomatch z) ?_ rfl rfl rfl (by decide)
            intro g9 L9 h9 hg9 hL9 F9 N9 B9 X9 T9 hrm9
            replace hg9 : g9 = hideAll s'.heap [S.ad] := hg9
            have g9of : ∀ b o, h2'.get? b = some o → b ≠ S.ad → g9.get? b = some o := fun b o e z => by rw [hg9]; exact hideAll_get _ (up b o e) (nm_one z)
            have hcN : g9.get? (L + 1 + 1 + 1) = some oN := g9of _ _ (N1.get (by k_mem)) (Nat.ne_of_gt (Nat.lt_add_right 3 haL))
            have hcV : g9.get? (L + 1 + 1 + 1 + 1 + 1) = some oV := g9of _ _ (N1.get (by k_mem)) (Nat.ne_of_gt (Nat.lt_add_right 5 haL))
            have hcP : g9.get? (L + 1 + 1 + 1 + 1) = some oS := g9of _ _ (N1.get (by k_mem)) (Nat.ne_of_gt (Nat.lt_add_right 4 haL))
            have hcS : g9.get? (L + 1) = some o5 := g9of _ _ (N1.get (by k_mem)) (Nat.ne_of_gt (Nat.lt_add_right 1 haL))
            have hsp9 : g9.get? sp = some (listOf svs.toArray 0) := g9of _ _ (N1.get (by k_mem)) hasp.symm
            have hst9 : g9.get? S.st = some (instObj 107 S.sd) := g9of _ _ (F1.keep _ _ hst2) nst2
            have hsd9 : g9.get? S.sd = some (storeDict w S.vd S.ad S.rd S.sp t1 t2 t3 t4 t5) := g9of _ _ (F1.keep _ _ hsd2) nsd2
            have hWo := out_of hg9
            have hWL9 := outL_of hg9 hL9 (List.forall_mem_singleton.mpr ⟨_, had'⟩)
            clear F1 N1 X' T' B'
            walk_at "m_steps"
            rename Fr g9 L9 _ _ => F8
            rename News g9 L9 _ _ => N8
            refine wpAny_call (put_new G (at_in B9 F8 (Rm.le hrm9)) hx hv (F8.keep _ _ hst9) (F8.keep _ _ hsd9) (N8.get (by k_mem : (S.ad, oa) ∈ _)) hDa hfewA hvA (hb0 _ (by walk_at "m_mut")) (nf_cons (hWL9 _ (.head _)).2 (hfr _ (.head _))) ⟨nsd2.symm, nst2.symm, hasp, ?_⟩ (F8.keep _ _ hsp9) hi hb (N8.get (.head _)) ?_ ?_ ?_)
            · rename S.ad < _ => q; exact Nat.ne_of_lt q
            · intro _ hw' h6 tk6 nv1 hu hk6 harr
              exact kv _ _ _ (KeepW.trans (keepW hg9 F8) hk6) ⟨rfl, hw', nv1, hu, harr.back (keepW hg9 F8) (N8.get (by k_mem : (S.ad, oa) ∈ _))⟩
            · exact fun z => absurd hfw z
            · intro _ hw' h6 tk6 ea hR6 hnew
              (try dsimp only)
              walk_at "m_steps"
              rename ∀ (b : Addr) (o : Obj), _ → (∀ vs, o.data ≠ .fields vs) → _ → _ => hO
              exact ke _ _ _ _ (Rsd.wide (by assumption) hg9) ⟨hw', rfl, (hnew.fwd fun b o q1 q2 q3 => hO b o q1 q2 (q3.elim (fun z => z ▸ nf_cons (hWL9 _ (.head _)).2 (hfr _ (.head _))) fun z => out_frs B9 F8 z)).back (keepW hg9 F8) (N8.get (by k_mem : (S.ad, oa) ∈ _))⟩
          · intro h5 tk5 tup xw vw tv5 kp htup hfr hres
            refine heard_backK G B' F1 N1 kp hW fun kp2 F2' B2 X2 T2 nk nn => ?_
            have hz : xw = "refused" ∧ (∃ tk3, vw = .str word tk3) ∧ ∃ hs, NewArr w hs h5 S.ad S.kvA x is.length ∧ ∀ b o, h2'.get? b = some o → hs.get? b = some o := by
              rcases hres with ⟨_, hs, h1', ⟨_, q1, _⟩, _⟩ | ⟨rfl, kind, tk3, hs, h1', rfl, ⟨_, rfl, q⟩, cy⟩
              · exact absurd (hword.trans q1) hw
              · exact ⟨rfl, ⟨tk3, by rw [hword]⟩, hs, q.fwd fun b o q1 q2 q3 => cy.on b o q1 q2 (Or.elim q3 (fun z => .inl (by rw [z]; exact .head _)) .inr), cy.up⟩
            refine foldG fun G9 hG9 => ?_
            obtain ⟨rfl, ⟨tk3, rfl⟩, hs, ⟨nv0, hno0, harr⟩, hup⟩ := hz
            have N2' := heard_news (r := [(xc, ox), (tupB, tupObj [.ref lB', .ref wd]), (wd, ow), (lB', listOf (List.replicate is.length (.int 10 tb)).toArray 0), (S.bd, ob'), (211, tabObj ps')]) F1 nk nn hfr htup hW (List.forall_mem_cons.mpr ⟨⟨by k_mem, nm_one (Ne.symm (allLt_ne lA9 (by k_mem : (S.ad, oa) ∈ _)))⟩, List.forall_mem_cons.mpr ⟨⟨by k_mem, nm_one (Ne.symm m8.1)⟩, List.forall_mem_cons.mpr ⟨⟨by k_mem, nm_one (Ne.symm m4.1)⟩, List.forall_mem_cons.mpr ⟨⟨by k_mem, nm_one (Ne.symm m9.1)⟩, List.forall_mem_cons.mpr ⟨⟨by k_mem, nm_one ne3.symm⟩, List.forall_mem_singleton.mpr ⟨by k_mem, nm_one n5.2.2.1.symm⟩⟩⟩⟩⟩⟩)
            obtain ⟨ta9, its9, bl9, tb9, oa9, hDa9, N3', p1, p2, p3, p4⟩ := arr_led harr hup F1 haW2.2 haW2.1 N2'
            refine hG9 ?_
            clear hG9 G9
            have p5 : its9 ≠ lB' := fun z => by
              have := N1.get (by k_mem : (lB', listOf (List.replicate is.length (.int 10 tb)).toArray 0) ∈ _)
              rw [← z, p3] at this; cases this
            replace p2 := fresh_s hg0 F1 W3 p2
            replace p3 := fresh_s hg0 F1 W3 p3
            replace p4 := fresh_s hg0 F1 W3 p4
            clear F1 N1 X' T' B' nk nn N2' hres harr
            (try dsimp only)
            walk_at "m_steps"
            rename Fr _ L _ _ => F5
            rename News _ L _ _ => N5
            show wpAny _ _ _ _ _ _
            refine eq_pair (N5.get (by k_mem : (tup, _) ∈ _)) (N5.get (.head _)) (PyProof.V.Flat.str _ _) (PyProof.V.Flat.str _ _) (shaped_str (hword ▸ ok_place _ _)) rfl (by decide +kernel) hrm.clear64 ?_
            exact k _ _ _ (led_new O hfs (deed_kept2 hg0 kp2 F5) hx hfd (N5.get (by k_mem)) (N5.get (by k_mem)) hDa9 hDb' (N5.get (by k_mem)) (N5.get (by k_mem)) (ints_rep _ _ _) (N5.get (by k_mem)) (N5.get (by k_mem)) (N5.get (by k_mem)) (ints_rep _ _ _) (N5.get (by k_mem)) hWD (fun _ z => nomatch z) hlow
              (fits_new (usual_made hb) (fun n hn => by rw [List.eq_of_mem_replicate hn]; decide) hno0) p2 m1 p4 m3 p3 m2 (fun _ z => nomatch z) p1 p5 (Nat.zero_le _) (N5.get (by k_mem)) (hTab _ (deed_ups kp2 F5) ⟨_, N5.get (by k_mem)⟩).1)
  · -- element
    cases hfd : S.find x with
    | some r =>
      have hr := ST.mem_find hfd
      have X' := (O.lies (x, r) hr).kpf fun b hb o e => gOf b o e (O.foot211 hr b hb)
      have Fi := O.fits (x, r) hr
      have hvA : valueAt S.kvA x = some (.ref r.ta) := by rw [ST.valA, hfd]; rfl
      have hvB : valueAt S.kvB x = some (.ref r.tb) := by rw [ST.valB, hfd]; rfl
      refine foldG fun G9 hG9 => ?_
      obtain ⟨hta, ⟨bvs, c1, hbl, hbi⟩, ⟨c2, hits⟩, htb, ⟨bvs', c3, hbl', hbi'⟩, hwd', hlow⟩ := X'
      obtain ⟨ow, hwd, hWD, hK⟩ := wd_split hwd'
      refine hG9 ?_
      clear hG9 G9
      have htT := isTup_get htb
      have hvl := hi.length
      walk_at "m_steps"
      rename Fr g L _ _ => F1
      rename News g L _ _ => N1
      have few4 := Nat.le_trans Fi.few (by decide : 3 ≤ 4)
      refine wpAny_call (law_asked_old G (at_in B F1 (Rm.le hrm)) (F1.keep _ _ hob) hDb hvB (F1.keep _ _ htb) (F1.keep _ _ hbl') hbi' (N1.get (by k_mem : (sp, listOf svs.toArray 0) ∈ _)) hi few4 (by first | exact Nat.le_succ_of_le hb | exact hb | omega) ?_)
      intro h2 tk2 tv hk2
      have F2 := Fr.kp F1 hk2
      have N2 := News.kp N1 hk2
      clear F1 N1
      dsimp only at *
      obtain ⟨word, hword⟩ : ∃ word, word = placeWord r.bs is := ⟨_, rfl⟩
      rw [← hword]
      obtain ⟨v0, hv0⟩ := Fi.at' is
      (try dsimp only)
      walk_at "m_steps"
      rename Fr g L _ _ => F3
      rename News g L _ _ => N3
      show wpAny _ _ _ _ _ _
      refine join_pair (fun a b => (word ≠ "" ∧ a = "refused" ∧ ∃ tb, b = .str word tb) ∨ (word = "" ∧ a = "value" ∧ b = ((atKey r.wr is).map (·.2)).getD nv)) F3 N3 ?_ ?_
      · have hgo : Go := trivial
        walk_at "m_steps"
        · rename (word != "") = true => hw
          exact ⟨_, _, _, _, _, _, rfl, rfl, by assumption, by assumption, by assumption, .inl ⟨by simpa using hw, rfl, _, rfl⟩⟩
        · rename (word != "") = false => hw
          rename AllLt _ ((_, tupObj svs) :: _) => lt9
          exact ⟨_, _, _, _, _, _, rfl, rfl, by assumption, news_drop (by assumption), lt9.2, .inr ⟨by simpa using hw, rfl, rfl⟩⟩
      · intro D2 h3 tk3 a ta b F4 N4 lD hab
        clear F3 N3
        (try dsimp only)
        walk_at "m_steps"
        rename_i f xc ox c' ctv ps' h2' tk2' F1 N1 hTab lA9 l1 lB9 l2
        have up0 : ∀ h5 : Heap, (∀ b o, h2'.get? b = some o → h5.get? b = some o) → h5.CodeRec (.ref c') lamQual := fun h5 up => (hTab h5 (fun b o e => ⟨o.slots, up b o (F1.keep b o e)⟩) ⟨_, up _ _ (N1.get (.tail _ (.head _)))⟩).2
        refine wpAny_call (heard_one (ws := []) G (at_in B F1 (Rm.le hrm)) (N1.get (.head _)) rfl (List.forall_mem_nil _) (nm_nil _) (fun u _ _ => word = "" ∧ u = v0) (fun kd _ _ => word ≠ "" ∧ kd = word) ?_ ?_)
        · intro A' outer' s' R' H' up hfr kv ke
          refine enter_lam (news := []) (binds := []) G H' (List.forall_mem_nil _) (up _ _ (N1.get (.head _))) (up0 _ up) rfl (fun _ z => nomatch z) ?_ rfl rfl rfl (by decide)
          intro g9 L9 h9 hg9 hL9 F9 N9 B9 X9 T9 hrm9
          replace hg9 : g9 = hideAll s'.heap [] := hg9
          have g9of : ∀ b o, h2'.get? b = some o → g9.get? b = some o := fun b o e => by rw [hg9]; exact up b o e
          have e9 : ∀ b o, g.get? b = some o → g9.get? b = some o := fun b o e => g9of b o (F1.keep b o e)
          have hcN : g9.get? (L + 1 + 1 + 1) = some oN := g9of _ _ (N1.get (by k_mem))
          have hcP : g9.get? (L + 1 + 1 + 1 + 1) = some oS := g9of _ _ (N1.get (by k_mem))
          have hcS : g9.get? (L + 1) = some o5 := g9of _ _ (N1.get (by k_mem))
          have hsp9 : g9.get? sp = some (listOf svs.toArray 0) := g9of _ _ (N1.get (by k_mem))
          have hst9 : g9.get? S.st = some (instObj 107 S.sd) := e9 _ _ hst
          have hsd9 : g9.get? S.sd = some (storeDict w S.vd S.ad S.rd S.sp t1 t2 t3 t4 t5) := e9 _ _ hsd
          clear F1 N1 X T B
          walk_at "m_steps"
          refine wpAny_call (element_old G (at_in B9 F9 (Rm.le hrm9)) (F9.keep _ _ hst9) (F9.keep _ _ hsd9) (F9.keep _ _ (e9 _ _ hoa)) hDa hvA (F9.keep _ _ (e9 _ _ hta)) (F9.keep _ _ (e9 _ _ hbl)) hbi (F9.keep _ _ hsp9) hi few4 (by first | exact Nat.le_succ_of_le hb | exact hb | omega) Fi.bounds (F9.keep _ _ (e9 _ _ hits)) Fi.size (fun q => ⟨(hv0 q).1, (hv0 q).2.1⟩) ?_ ?_)
          · intro hw h6 tk6 hk6
            exact kv _ _ _ (fun b o e hb => hk6 b o (keepW hg9 F9 b o e hb)) ⟨hword.trans hw, rfl⟩
          · intro hw h6 tk6 ea hR6
            (try dsimp only)
            walk_at "m_steps"
            exact ke _ _ _ _ (Rsd.wide (by assumption) hg9) ⟨fun z => hw (hword.symm.trans z), hword.symm⟩
        · intro h5 tk5 tup xw vw tv5 kp htup hfr hres
          refine heard_backK G B F1 N1 kp (fun _ z => nomatch z) fun kp2 F2' B2 X2 T2 nk nn => ?_
          have N2' := heard_news F1 nk nn hfr htup (fun _ z => nomatch z) (fun p hp => ⟨hp, nm_nil _⟩)
          clear F1 N1 X T B
          (try dsimp only)
          walk_at "m_steps"
          rename Fr _ L _ _ => F5
          rename News _ L _ _ => N5
          have fin := fun tk => k _ tk _ (led_same O hfs (deed_kept hg kp2 F5) (N5.get (by k_mem)) (hTab _ (deed_ups kp2 F5) ⟨_, N5.get (by k_mem)⟩).1)
          show wpAny _ _ _ _ _ _
          rcases hres with ⟨rfl, hs, h1, ⟨hw, rfl⟩, _⟩ | ⟨rfl, kind, tk3, hs, h1, rfl, ⟨hw, rfl⟩, _⟩
          · rcases hab with ⟨hw', _⟩ | ⟨_, rfl, rfl⟩
            · exact absurd hw hw'
            refine foldG fun G9 hG9 => ?_
            obtain ⟨_, _, n0, hn0, rfl⟩ := hv0 (hword.symm.trans hw)
            obtain ⟨d, f1, f2, f3, f4⟩ := same_elem (k := is) Fi hn0 hno
            refine hG9 ?_
            clear hG9 G9
            exact eq_pair (N5.get (.head _)) (N5.get (by k_mem)) f1 f2 f3 f4 (by decide +kernel) hrm.clear64 (fin _)
          · rcases hab with ⟨_, rfl, tb, rfl⟩ | ⟨hw', _⟩
            rotate_left
            · exact absurd hw' hw
            exact eq_pair (N5.get (.head _)) (N5.get (by k_mem)) (PyProof.V.Flat.str _ _) (PyProof.V.Flat.str _ _) (shaped_str (hword ▸ ok_place _ _)) rfl (by decide +kernel) hrm.clear64 (fin _)
    | none =>
      have hvA : valueAt S.kvA x = none := by rw [ST.valA, hfd]; rfl
      have hvB : valueAt S.kvB x = none := by rw [ST.valB, hfd]; rfl
      have hm : ∀ p ∈ [(S.bd, ob), (S.ad, oa)], g.get? p.1 = some p.2 ∧ b0.get? p.1 = none ∧ p.1 ∉ frs outer := List.forall_mem_cons.mpr ⟨⟨hob, hb0 _ (by walk_at "m_mut"), hfs _ (by walk_at "m_mut")⟩, List.forall_mem_singleton.mpr ⟨hoa, hb0 _ (by walk_at "m_mut"), hfs _ (by walk_at "m_mut")⟩⟩
      refine foldG fun G9 hG9 => ?_
      obtain ⟨g2, hg2, F', N', B', X', T'⟩ := rebase G B FF NN hm
      refine hG9 ?_
      clear hG9 G9
      have ne1 := rebase_ne NN hob
      have ne2 := rebase_ne NN hoa
      have ne3 : @Ne Nat S.ad S.bd := O.adbd
      have C' : CodeHd g2 215 211 := hC.keeps B'.stays
      have K' : TabOk g2 ps := by
        rw [hg2]
        exact K.hide (List.forall_mem_cons.mpr ⟨⟨_, hob, .inl hDb.nf⟩, List.forall_mem_singleton.mpr ⟨_, hoa, .inl hDa.nf⟩⟩)
      have hfewA : S.kvA.length ≤ 900 := by rw [ST.kvA_len]; exact Nat.le_trans O.fewA (by decide)
      have hfewB : S.kvB.length ≤ 900 := by rw [ST.kvB_len]; exact Nat.le_trans O.fewA (by decide)
      simp only [List.cons_append, List.nil_append] at N'
      have hg0 : ∀ b o, s.heap.get? b = some o → b ∉ [S.bd, S.ad, 211] → g2.get? b = some o := fun b o e hb => by
        rw [hg2]; exact hideAll_get _ (gOf b o e (nm_3 hb).2.2) (nm_cons (nm_3 hb).1 (nm_one (nm_3 hb).2.1))
      have hmm : ∀ a ∈ [S.bd, S.ad, 211], a ∈ S.muts := List.forall_mem_cons.mpr ⟨by walk_at "m_mut", List.forall_mem_cons.mpr ⟨by walk_at "m_mut", List.forall_mem_singleton.mpr m211⟩⟩
      have nst : S.st ∉ [S.bd, S.ad, 211] := fun z => O.frozen S.st (by walk_at "m_mut") (hmm _ z)
      have nsd : S.sd ∉ [S.bd, S.ad, 211] := fun z => O.frozen S.sd (by walk_at "m_mut") (hmm _ z)
      have nst2 : @Ne Nat S.st S.ad := ne_mem nst (.tail _ (.head _))
      have nsd2 : @Ne Nat S.sd S.ad := ne_mem nsd (.tail _ (.head _))
      have haL : S.ad < L := hL ▸ Heap.lt_size hoa0
      have hst2 := hg0 _ _ O.st nst
      have hsd2 := hg0 _ _ hsd0 nsd
      have hbsp : S.bd ≠ sp := fun z => by
        have := (NN (sp, _) (.tail _ (.tail _ q1))).2.2
        rw [← z, hob] at this; cases this
      have hasp : S.ad ≠ sp := fun z => by
        have := (NN (sp, _) (.tail _ (.tail _ q1))).2.2
        rw [← z, hoa] at this; cases this
      have hvl := hi.length
      have hK : KeysAt w g2 [] := fun _ z => nomatch z
      clear FF NN B X T C K
      walk_at "m_steps"
      rename Fr g2 L _ _ => F1
      rename News g2 L _ _ => N1
      have hbW := (N1 (S.bd, ob) (.head _)).2
      have haW := (N1 (S.ad, oa) (.tail _ (.head _))).2
      refine wpAny_call (law_asked_new G (at_in B' F1 (Rm.le hrm)) hx (N1.get (.head _)) hDb hfewB hvB (hb0 _ (by walk_at "m_mut")) (nf_cons hbW.1 (hfs _ (by walk_at "m_mut"))) hbsp (N1.get (by k_mem : (sp, listOf svs.toArray 0) ∈ _)) hi hb ?_)
      intro h2 tk2 tv hk2 hbook
      have W3 : ∀ b ∈ [S.bd, S.ad, 211], ∃ o, Heap.get? _ b = some o := List.forall_mem_cons.mpr ⟨⟨_, N1.get (.head _)⟩, List.forall_mem_cons.mpr ⟨⟨_, N1.get (.tail _ (.head _))⟩, List.forall_mem_singleton.mpr ⟨_, N1.get (by k_mem : (211, tabObj ps) ∈ _)⟩⟩⟩
      refine foldG fun G9 hG9 => ?_
      obtain ⟨tupB, lB', wd, tb, ob', ow, hDb', hDw, F2, N2, m1, m2, m3, ⟨m8, m9⟩, m4, m5, m6, m7⟩ := ask_led hbook hk2 F1 N1 ⟨ne3, ne1⟩
      replace m1 := fresh_s hg0 F1 W3 m1
      replace m2 := fresh_s hg0 F1 W3 m2
      replace m3 := fresh_s hg0 F1 W3 m3
      clear F1 N1 W3 hbook
      have hWD := wd_empty hDw
      have hlow := hDw.1
      have hvx : valueAt (stored S.kvB x (.ref tupB)) x = some (.ref tupB) := valueAt_stored
      obtain ⟨word, hword⟩ : ∃ word, word = placeWord (List.replicate is.length 10) is := ⟨_, rfl⟩
      refine hG9 ?_
      clear hG9 G9
      rw [← hword]
      (try dsimp only)
      walk_at "m_steps"
      rename Fr g2 L _ _ => F3
      rename News g2 L _ _ => N3
      show wpAny _ _ _ _ _ _
      refine join_pair (fun a b => (word ≠ "" ∧ a = "refused" ∧ ∃ tb, b = .str word tb) ∨ (word = "" ∧ a = "value" ∧ b = nv)) F3 N3 ?_ ?_
      · have hgo : Go := trivial
        walk_at "m_steps"
        · rename (word != "") = true => hw
          exact ⟨_, _, _, _, _, _, rfl, rfl, by assumption, by assumption, by assumption, .inl ⟨by simpa using hw, rfl, _, rfl⟩⟩
        · rename (word != "") = false => hw
          rename AllLt _ ((_, tupObj svs) :: _) => lt9
          exact ⟨_, _, _, _, _, _, rfl, rfl, by assumption, news_drop (by assumption), lt9.2, .inr ⟨by simpa using hw, rfl, rfl⟩⟩
      · intro D2 h3 tk3 a ta b F4 N4 lD hab
        clear F3 N3
        (try dsimp only)
        walk_at "m_steps"
        rename_i f xc ox c' ctv ps' h2' tk2' F1 N1 hTab lA9 l1 lB9 l2
        have up0 : ∀ h5 : Heap, (∀ b o, h2'.get? b = some o → h5.get? b = some o) → h5.CodeRec (.ref c') lamQual := fun h5 up => (hTab h5 (fun b o e => ⟨o.slots, up b o (F1.keep b o e)⟩) ⟨_, up _ _ (N1.get (.tail _ (.head _)))⟩).2
        have had : h2'.get? S.ad = some oa := N1.get (by k_mem)
        have haW2 := (N1 (S.ad, oa) (by k_mem)).2
        have hW : ∀ b ∈ [S.ad], g2.get? b = none ∧ b ≠ L := List.forall_mem_singleton.mpr ⟨haW2.2, haW2.1⟩
        have W3 : ∀ b ∈ [S.bd, S.ad, 211], ∃ o, h2'.get? b = some o := List.forall_mem_cons.mpr ⟨⟨_, N1.get (by k_mem : (S.bd, ob') ∈ _)⟩, List.forall_mem_cons.mpr ⟨⟨_, had⟩, List.forall_mem_singleton.mpr ⟨_, N1.get (by k_mem : (211, tabObj ps') ∈ _)⟩⟩⟩
        have hfad : f ≠ S.ad := Ne.symm (allLt_ne lB9 (by k_mem : (S.ad, oa) ∈ _))
        refine wpAny_call (heard_one (ws := [(S.ad, oa)]) G (at_in B' F1 (Rm.le hrm)) (N1.get (.head _)) rfl (List.forall_mem_singleton.mpr ⟨had, hb0 _ (by walk_at "m_mut"), nf_cons (hW _ (.head _)).2 (hfs _ (by walk_at "m_mut"))⟩) (nm_one hfad) (fun u hs h1 => word = "" ∧ IsNothing x u ∧ NewArr w hs h1 S.ad S.kvA x is.length) (fun kd hs h1 => word ≠ "" ∧ kd = word ∧ NewArr w hs h1 S.ad S.kvA x is.length) ?_ ?_)
        · intro A' outer' s' R' H' up hfr kv ke
          have had' : s'.heap.get? S.ad = some oa := up _ _ had
          refine enter_lam (news := [(S.ad, oa)]) (binds := []) G H' (List.forall_mem_singleton.mpr ⟨had', hb0 _ (by walk_at "m_mut"), hfr _ (.head _)⟩) (up _ _ (N1.get (.head _))) (up0 _ up) rfl (fun _ z => nomatch z) ?_ rfl rfl rfl (by decide)
          intro g9 L9 h9 hg9 hL9 F9 N9 B9 X9 T9 hrm9
          replace hg9 : g9 = hideAll s'.heap [S.ad] := hg9
          have g9of : ∀ b o, h2'.get? b = some o → b ≠ S.ad → g9.get? b = some o := fun b o e z => by rw [hg9]; exact hideAll_get _ (up b o e) (nm_one z)
          have hcN : g9.get? (L + 1 + 1 + 1) = some oN := g9of _ _ (N1.get (by k_mem)) (Nat.ne_of_gt (Nat.lt_add_right 3 haL))
          have hcP : g9.get? (L + 1 + 1 + 1 + 1) = some oS := g9of _ _ (N1.get (by k_mem)) (Nat.ne_of_gt (Nat.lt_add_right 4 haL))
          have hcS : g9.get? (L + 1) = some o5 := g9of _ _ (N1.get (by k_mem)) (Nat.ne_of_gt (Nat.lt_add_right 1 haL))
          have hsp9 : g9.get? sp = some (listOf svs.toArray 0) := g9of _ _ (N1.get (by k_mem)) hasp.symm
          have hst9 : g9.get? S.st = some (instObj 107 S.sd) := g9of _ _ (F1.keep _ _ hst2) nst2
          have hsd9 : g9.get? S.sd = some (storeDict w S.vd S.ad S.rd S.sp t1 t2 t3 t4 t5) := g9of _ _ (F1.keep _ _ hsd2) nsd2
          have hWo := out_of hg9
          have hWL9 := outL_of hg9 hL9 (List.forall_mem_singleton.mpr ⟨_, had'⟩)
          clear F1 N1 X' T' B'
          walk_at "m_steps"
          refine wpAny_call (element_new G (at_in B9 F9 (Rm.le hrm9)) hx (F9.keep _ _ hst9) (F9.keep _ _ hsd9) (N9.get (.head _)) hDa hfewA hvA (hb0 _ (by walk_at "m_mut")) (nf_cons (hWL9 _ (.head _)).2 (hfr _ (.head _))) ⟨nsd2.symm, nst2.symm, hasp⟩ (F9.keep _ _ hsp9) hi hb ?_ ?_)
          · intro hw h6 tk6 u hu hk6 hnew
            exact kv _ _ _ (KeepW.trans (keepW hg9 F9) hk6) ⟨hword.trans hw, hu, hnew.back (keepW hg9 F9) (N9.get (.head _))⟩
          · intro hw h6 tk6 ea hR6 hnew
            (try dsimp only)
            walk_at "m_steps"
            rename ∀ (b : Addr) (o : Obj), _ → (∀ vs, o.data ≠ .fields vs) → _ → _ => hO
            exact ke _ _ _ _ (Rsd.wide (by assumption) hg9) ⟨fun z => hw (hword.symm.trans z), hword.symm, (hnew.fwd fun b o q1 q2 q3 => hO b o q1 q2 (q3.elim (fun z => z ▸ nf_cons (hWL9 _ (.head _)).2 (hfr _ (.head _))) fun z => out_frs B9 F9 z)).back (keepW hg9 F9) (N9.get (.head _))⟩
        · intro h5 tk5 tup xw vw tv5 kp htup hfr hres
          refine heard_backK G B' F1 N1 kp hW fun kp2 F2' B2 X2 T2 nk nn => ?_
          refine foldG fun G9 hG9 => ?_
          obtain ⟨hs, h1', hnew, cy, hcase⟩ : ∃ hs h1', NewArr w hs h1' S.ad S.kvA x is.length ∧ Carry [S.ad] h2' hs h1' h5 ∧ ((word = "" ∧ xw = "value" ∧ IsNothing x vw) ∨ (word ≠ "" ∧ xw = "refused" ∧ ∃ tk3, vw = .str word tk3)) := by
            rcases hres with ⟨rfl, hs, h1', ⟨q1, q2, q3⟩, cy⟩ | ⟨rfl, kind, tk3, hs, h1', rfl, ⟨q1, rfl, q3⟩, cy⟩
            · exact ⟨hs, h1', q3, cy, .inl ⟨q1, rfl, q2⟩⟩
            · exact ⟨hs, h1', q3, cy, .inr ⟨q1, rfl, _, rfl⟩⟩
          obtain ⟨nv0, hno0, harr⟩ := hnew.fwd fun b o q1 q2 q3 => cy.on b o q1 q2 (Or.elim q3 (fun z => .inl (by rw [z]; exact .head _)) .inr)
          have N2' := heard_news (r := [(D2, tupObj [.str a ta, b]), (xc, ox), (tupB, tupObj [.ref lB', .ref wd]), (wd, ow), (lB', listOf (List.replicate is.length (.int 10 tb)).toArray 0), (S.bd, ob'), (211, tabObj ps')]) F1 nk nn hfr htup hW (List.forall_mem_cons.mpr ⟨⟨by k_mem, nm_one (Ne.symm (allLt_ne lD (by k_mem : (S.ad, oa) ∈ _)))⟩, List.forall_mem_cons.mpr ⟨⟨by k_mem, nm_one (Ne.symm (allLt_ne lA9 (by k_mem : (S.ad, oa) ∈ _)))⟩, List.forall_mem_cons.mpr ⟨⟨by k_mem, nm_one (Ne.symm m8.1)⟩, List.forall_mem_cons.mpr ⟨⟨by k_mem, nm_one (Ne.symm m4.1)⟩, List.forall_mem_cons.mpr ⟨⟨by k_mem, nm_one (Ne.symm m9.1)⟩, List.forall_mem_cons.mpr ⟨⟨by k_mem, nm_one ne3.symm⟩, List.forall_mem_singleton.mpr ⟨by k_mem, nm_one n5.2.2.1.symm⟩⟩⟩⟩⟩⟩⟩)
          obtain ⟨ta9, its9, bl9, tb9, oa9, hDa9, N3', p1, p2, p3, p4⟩ := arr_led harr cy.up F1 haW2.2 haW2.1 N2'
          refine hG9 ?_
          clear hG9 G9
          have p5 : its9 ≠ lB' := fun z => by
            have := N1.get (by k_mem : (lB', listOf (List.replicate is.length (.int 10 tb)).toArray 0) ∈ _)
            rw [← z, p3] at this; cases this
          replace p2 := fresh_s hg0 F1 W3 p2
          replace p3 := fresh_s hg0 F1 W3 p3
          replace p4 := fresh_s hg0 F1 W3 p4
          clear F1 N1 X' T' B' nk nn N2' hres hnew harr
          (try dsimp only)
          walk_at "m_steps"
          rename Fr _ L _ _ => F5
          rename News _ L _ _ => N5
          have fin := fun tk => k _ tk _ (led_new O hfs (deed_kept2 hg0 kp2 F5) hx hfd (N5.get (by k_mem)) (N5.get (by k_mem)) hDa9 hDb' (N5.get (by k_mem)) (N5.get (by k_mem)) (ints_rep _ _ _) (N5.get (by k_mem)) (N5.get (by k_mem)) (N5.get (by k_mem)) (ints_rep _ _ _) (N5.get (by k_mem)) hWD (fun _ z => nomatch z) hlow
            (fits_new (usual_made hb) (fun n hn => by rw [List.eq_of_mem_replicate hn]; decide) hno0) p2 m1 p4 m3 p3 m2 (fun _ z => nomatch z) p1 p5 (Nat.zero_le _) (N5.get (by k_mem)) (hTab _ (deed_ups kp2 F5) ⟨_, N5.get (by k_mem)⟩).1)
          show wpAny _ _ _ _ _ _
          rcases hcase with ⟨hw, rfl, hu⟩ | ⟨hw, rfl, tk3, rfl⟩
          · rcases hab with ⟨hw', _⟩ | ⟨_, rfl, rfl⟩
            · exact absurd hw hw'
            refine foldG fun G9 hG9 => ?_
            obtain ⟨f1, f3, f4⟩ := nothing_val hu
            obtain ⟨f2, _, _⟩ := nothing_val hno
            refine hG9 ?_
            clear hG9 G9
            exact eq_pair (N5.get (by k_mem : (tup, _) ∈ _)) (N5.get (by k_mem : (D2, _) ∈ _)) f1 f2 f3 f4 (by decide +kernel) hrm.clear64 (fin _)
          · rcases hab with ⟨_, rfl, tb, rfl⟩ | ⟨hw', _⟩
            rotate_left
            · exact absurd hw' hw
            exact eq_pair (N5.get (by k_mem : (tup, _) ∈ _)) (N5.get (by k_mem : (D2, _) ∈ _)) (PyProof.V.Flat.str _ _) (PyProof.V.Flat.str _ _) (shaped_str (hword ▸ ok_place _ _)) rfl (by decide +kernel) hrm.clear64 (fin _)
  · -- fit_value
    walk_at "m_steps"
    rename_i f xc ox c' ctv ps' h2 tk2 F1 N1 hTab lA9 l1 lB9 l2
    have up0 : ∀ h5 : Heap, (∀ b o, h2.get? b = some o → h5.get? b = some o) → h5.CodeRec (.ref c') lamQual := fun h5 up => (hTab h5 (fun b o e => ⟨o.slots, up b o (F1.keep b o e)⟩) ⟨_, up _ _ (N1.get (.tail _ (.head _)))⟩).2
    refine wpAny_call (heard_one (ws := []) G (at_in B F1 (Rm.le hrm)) (N1.get (.head _)) rfl (List.forall_mem_nil _) (nm_nil _) (fun u _ _ => u = v ∧ fitWord x v = "") (fun kd _ _ => kd = fitWord x v ∧ fitWord x v ≠ "") ?_ ?_)
    · intro A' outer' s' R' H' up hfr kv ke
      refine enter_lam (news := []) (binds := []) G H' (List.forall_mem_nil _) (up _ _ (N1.get (.head _))) (up0 _ up) rfl (fun _ z => nomatch z) ?_ rfl rfl rfl (by decide)
      intro g9 L9 h9 hg9 hL9 F9 N9 B9 X9 T9 hrm9
      replace hg9 : g9 = hideAll s'.heap [] := hg9
      have hcN : g9.get? (L + 1 + 1 + 1) = some oN := by rw [hg9]; exact up _ _ (N1.get (by k_mem))
      have hcV : g9.get? (L + 1 + 1 + 1 + 1 + 1) = some oV := by rw [hg9]; exact up _ _ (N1.get (by k_mem))
      clear F1 N1 X T B
      walk_at "m_steps"
      · rename fitWord x v = "" => hw
        exact kv _ _ _ (keepW hg9 (by assumption)) ⟨rfl, hw⟩
      · rename fitWord x v ≠ "" => hw
        exact ke _ _ _ _ (Rsd.wide (by assumption) hg9) ⟨rfl, hw⟩
    · intro h5 tk5 tup xw vw tv kp htup hfr hres
      refine heard_backK G B F1 N1 kp (fun _ z => nomatch z) fun kp2 F2 B2 X2 T2 nk nn => ?_
      have N2 := heard_news F1 nk nn hfr htup (fun _ z => nomatch z) (fun p hp => ⟨hp, nm_nil _⟩)
      clear F1 N1 X T B
      have hgo : Go := trivial
      (try dsimp only)
      walk_at "m_steps"
      · rename (fitWord x v != "") = true => hw
        have hw : fitWord x v ≠ "" := by simpa using hw
        rename Fr _ L _ _ => F3
        rename News _ L _ _ => N3
        rcases hres with ⟨_, hs, h1, ⟨_, e⟩, _⟩ | ⟨rfl, kind, tk3, hs, h1, rfl, ⟨rfl, _⟩, _⟩
        · exact absurd e hw
        show wpAny _ _ _ _ _ _
        refine eq_pair (N3.get (.tail _ (.head _))) (N3.get (.head _)) (PyProof.V.Flat.str _ _) (PyProof.V.Flat.str _ _) (shaped_str (ok_word x v)) rfl (by decide +kernel) hrm.clear64 ?_
        exact k _ _ _ (led_same O hfs (deed_kept hg kp2 F3) (N3.get (by k_mem)) (hTab _ (deed_ups kp2 F3) ⟨_, N3.get (by k_mem)⟩).1)
      · rename (fitWord x v != "") = false => hw
        have hw : fitWord x v = "" := by simpa using hw
        rename Fr _ L _ _ => F3
        rename News _ L _ _ => N3
        rcases hres with ⟨rfl, hs, h1, ⟨rfl, _⟩, _⟩ | ⟨_, kind, tk3, hs, h1, _, ⟨_, e⟩, _⟩
        rotate_left
        · exact absurd hw e
        show wpAny _ _ _ _ _ _
        refine eq_pair (N3.get (.tail _ (.head _))) (N3.get (.head _)) (val_flat hv) (val_flat hv) (valData_shaped hok) (valData_depth _) (by decide +kernel) hrm.clear64 ?_
        exact k _ _ _ (led_same O hfs (deed_kept hg kp2 F3) (N3.get (by k_mem)) (hTab _ (deed_ups kp2 F3) ⟨_, N3.get (by k_mem)⟩).1)
end

theorem words_final_m_11 : True := by
  k_with "exec For Name Name cons nil" => (k_here; (with_reducible show wpAny _ _ (exec (Stmt.For (Expr.Name (Str.ofString "name") _) _ _ _ _) _) _ _ _); k_dflt (refine stopM ?_))
  k_with "compareOp NotEq ref ref" => (k_here; k_dflt (refine stopM ?_))
  k_with "call builtin:sorted" => (k_here; (with_reducible show wpAny _ _ (call (Value.builtin "sorted") [Value.ref _]) _ _ _); k_dflt (refine stopM ?_))
  k_with "call type:set" => (k_here; k_dflt (refine stopM ?_))
  k_with "eval ListComp" => (k_here; k_dflt (refine stopM ?_))
  k_with "exec Assign cons ListComp" => (k_here; k_dflt (refine stopM ?_))
  k_with "call type:list" => (k_here; (with_reducible show wpAny _ _ (call (Value.type "list") [Value.ref _]) _ _ _); k_dflt (refine stopM ?_))
  k_with "call ref" => (k_here; (with_reducible show wpAny _ _ (call (Value.ref 139) [_, _, _]) _ _ _); k_dflt (refine stopM ?_))
  k_with "CompSrc" => (k_here; k_dflt (refine stopM ?_))
  k_with "CompSrcT" => (k_here; k_dflt (refine stopM ?_))
  k_with "subscriptTail" => (k_here; (with_reducible show wpAny _ _ (subscriptTail (Expr.Name (Str.ofString "written") _) _ (Value.ref _) (Value.ref _)) _ _ _); k_dflt (refine stopM ?_))
  trivial

section
variable {w : World} {loose : List Str} {mean : ExcName → Option Value} {mg mb : Str → Option Value} {b0 : Heap} {A : Around} {outer : List Env} {s : Shared} {R : Result → Shared → Prop} {t : Tok}
theorem law_right_spec (G : Gnd w loose mean mg mb b0) (H : At 20 b0 A outer s) {S : ST} (O : S.Ok w s.heap) (hld : ∀ p ∈ S.as, p.2.wr.length ≤ 60)
    (k : ∀ h' tk dr, (∀ b o, s.heap.get? b = some o → h'.get? b = some o) → R (.ok (.ret (.bool true))) { s with heap := h', toks := tk, drawn := dr }) :
    codeAny (model prg w) A (.call (.ref 221) ⟨[.ref S.st, .ref S.kd, .ref S.bd], []⟩) R s := by
  (refine' enterC (news := []) G H ?kN ?k6 ?k7 ?k9 ?kB ?kD ?_ ?c2 ?c3 ?c4; (case kN => first | exact List.forall_mem_nil _ | assumption); (case k6 => k_is); (case k7 => k_is); (case k9 => exact BindsTo.of_eq rfl); (case kB => exact kindsX rfl); (case kD => decide); (case c2 => exact rfl); (case c3 => exact rfl); (case c4 => exact rfl); (try dsimp only))
  intro g L h1 tk0 cells hg hL F N Y B X T hrm hlt
  k_cells Y
  rename_i o1 o2 o3 d1 d2 d3
  simp only [List.cons_append, List.nil_append] at N
  replace d1 : o1.data = .cell none := d1
  replace d2 : o2.data = .cell none := d2
  replace d3 : o3.data = .cell (some (.ref S.st)) := d3
  replace F : Fr g L h1 (fun y => if y = "book" then some (.ref S.bd) else if y = "kept_now" then some (.ref S.kd) else none) := F
  replace hg : g = s.heap := hg
  have hst : g.get? S.st = some (instObj 107 S.sd) := by rw [hg]; exact O.st
  refine foldG fun G9 hG9 => ?_
  obtain ⟨t1, t2, t3, t4, t5, hsd0⟩ := O.sd
  refine hG9 ?_
  clear hG9 G9
  have hsd : g.get? S.sd = some (storeDict w S.vd S.ad S.rd S.sp t1 t2 t3 t4 t5) := by rw [hg]; exact hsd0
  refine foldG fun G9 hG9 => ?_
  obtain ⟨ov, hov0, hDv⟩ := O.vd
  obtain ⟨ok, hok0, hDk⟩ := O.kd
  obtain ⟨oa, hoa0, hDa⟩ := O.ad
  obtain ⟨ob, hob0, hDb⟩ := O.bd
  refine hG9 ?_
  clear hG9 G9
  have hov : g.get? S.vd = some ov := by rw [hg]; exact hov0
  have hok : g.get? S.kd = some ok := by rw [hg]; exact hok0
  have hoa : g.get? S.ad = some oa := by rw [hg]; exact hoa0
  have hob : g.get? S.bd = some ob := by rw [hg]; exact hob0
  walk_at "m_steps"
  show wpAny _ _ _ _ _ _
  refine dicts_same (Rm.clear64 hrm) (F.keep _ _ hov) (F.keep _ _ hok) hDv hDk (fun p hp => ⟨(O.vals p hp).2.2.1, (O.vals p hp).2.2.2⟩) ?_
  walk_at "m_steps"
  show wpAny _ _ _ _ _ _
  have hkA : S.kvA.map (·.1) = S.kvB.map (·.1) := by simp [ST.kvA, ST.kvB]
  have hlA : S.kvA.length ≤ 60 := by rw [ST.kvA_len]; exact Nat.le_trans O.fewA (by decide)
  have hlB : S.kvB.length ≤ 60 := by rw [ST.kvB_len]; exact Nat.le_trans O.fewA (by decide)
  have hna : sortedNames S.kvA = sortedNames S.kvB := by unfold sortedNames; rw [hkA]
  refine sorted_names hrm.handled F N (F.keep _ _ hoa) hDa hlA fun B1 h2 c2 tk2 vs2 F2 N2 l2 i2 => ?_
  clear F N
  walk_at "m_steps"
  show wpAny _ _ _ _ _ _
  refine sorted_names hrm.handled F2 N2 (F2.keep _ _ hob) hDb hlB fun B2 h3 c3 tk3 vs3 F3 N3 l3 i3 => ?_
  clear F2 N2
  walk_at "m_steps"
  show wpAny _ _ _ _ _ _
  refine names_same (Rm.clear64 hrm) (N3.get (by k_mem)) (N3.get (by k_mem)) i2 (hna ▸ i3) (fun x hx => ?_) ?_
  · have hx2 : x ∈ S.kvA.map (·.1) := (laid_mem (strs_ord _ hDa.nodup rfl)).mp hx
    refine foldG fun G9 hG9 => ?_
    obtain ⟨p, hp, rfl⟩ := List.mem_map.mp hx2
    obtain ⟨q, hq, rfl⟩ := List.mem_map.mp hp
    refine hG9 ?_
    clear hG9 G9
    rcases mem4 (O.names q hq) with e | e | e | e <;> (show PyData.strOk q.1 = true; rw [e]; decide +kernel)
  walk_at "m_steps"
  show wpAny _ _ _ _ _ _
  have hDb' := hDb
  refine foldG fun G9 hG9 => ?_
  obtain ⟨lo, es, ep, e1, e2, e3, e4, e5⟩ := hDb'
  refine hG9 ?_
  clear hG9 G9
  have hes : es.size = S.kvB.length := by rw [← Array.length_toList]; exact e4.length
  refine For_cell rfl rfl ?_
  walk_at "m_steps"
  show wpAny _ _ _ _ _ _
  refine raw_iter lo ⟨ob, F3.keep _ _ hob, e1, e2⟩ ?_
  have l4 : AllLt h3.objs.size [(B2, listOf vs3.toArray c3), (B1, listOf vs2.toArray c2), (L + 1 + 1 + 1, o1), (L + 1 + 1, o2), (L + 1, o3)] := allLt_of fun p hp => Heap.lt_size (N3 p hp).1
  have F4 := F3.push { cls := .type "dict_keyiterator", data := .fields #[.ref S.bd, .int 0 0, .int es.size 0, .int ep 0] }
  have N4 := News.push F3 N3 { cls := .type "dict_keyiterator", data := .fields #[.ref S.bd, .int 0 0, .int es.size 0, .int ep 0] } rfl
  obtain ⟨I, hI⟩ : ∃ I, I = h3.objs.size := ⟨_, rfl⟩
  have hIb : S.bd ≠ I := by rw [hI]; exact Nat.ne_of_lt (Heap.lt_size (F3.keep _ _ hob))
  rw [← hI] at l4 N4 ⊢
  obtain ⟨base, hbase⟩ : ∃ base : Str → Option Value, base = fun y : Str => if y = "book" then some (.ref S.bd) else if y = "kept_now" then some (.ref S.kd) else none := ⟨_, rfl⟩
  refine ⟨I, L + 1 + 1, [I, S.bd], [I], es.size, _, _, RightJ g L base o3 S.bd I es.size ep s, rfl, raw_walks (Rm.dh hrm) I S.bd hIb es ep, rfl, ?_, ?_, ?_, ?_, ?_⟩
  · exact fun z => Nat.ne_of_lt l4.2.2.2.1 (List.mem_singleton.mp z)
  · rintro i s' ⟨h', tk, dr, oN, oW, oI, pl, bn, mn, bo, vN, vW, rfl, F', N', q1, q2, q3, q4⟩
    exact ⟨⟨⟨oI, (N' (I, oI) (by simp)).1, q3, q4⟩, ⟨ob, F'.keep _ _ hob, e1, e2⟩⟩, vN, oN, (N' (L + 1 + 1, oN) (by simp)).1, q1⟩
  · refine RightJ.intro (m' := base) (oW := o1) (oN := o2) (oI := { cls := .type "dict_keyiterator", data := .fields #[.ref S.bd, .int 0 0, .int es.size 0, .int ep 0] }) (by rw [hbase]; exact F4) (fun _ _ _ _ _ => rfl) N4 ?_ d2 d1 rfl rfl
    simp
  · rintro i v s' g1 tk1 g2 hi ⟨h', tk, dr, oN, oW, oI, pl, bn, mn, bo, vN, vW, rfl, F5, N5, q1, q2, q3, q4⟩ ⟨e, he, rfl⟩ ⟨hit, -⟩ hk1 hcl hsb
    have hI3 : @LT.lt Nat _ (L + 1 + 1 + 1) I := l4.2.2.1
    refine foldG fun G9 hG9 => ?_
    obtain ⟨oN', oI', F6, N6, q5, q6, q7⟩ := turn_start F5 N5 hI3 hk1 hit hcl hsb
    refine hG9 ?_
    clear hG9 G9
    have hiS : i < S.as.length := by rw [hes, ST.kvB_len] at hi; exact hi
    refine foldG fun G9 hG9 => ?_
    obtain ⟨x, r, hxr⟩ : ∃ x r, S.as[i]? = some (x, r) := ⟨_, _, List.getElem?_eq_getElem hiS⟩
    have hr : (x, r) ∈ S.as := List.mem_of_getElem? hxr
    obtain ⟨t0, hkey⟩ : ∃ t, e.key = .str x t := by
      obtain ⟨q, _⟩ := e4.get? (i := i) (e := e) (k := x) (v := .ref r.tb) (by rw [Array.getElem?_toList]; exact he) (by unfold ST.kvB; rw [List.getElem?_map, hxr]; rfl)
      exact Value.isStrOf_shape q
    rw [hkey] at q5
    have hx := O.names (x, r) hr
    have hrf := O.found hr
    have X' := O.lies (x, r) hr
    have Y' := O.fits (x, r) hr
    have hz := hld (x, r) hr
    dsimp only at X' Y' hz hx
    obtain ⟨hta, ⟨bvs, cb, hbl, hbi⟩, ⟨ci, hits⟩, htb, ⟨bvs', cb', hbl', hbi'⟩, hwd, hlow⟩ := X'
    obtain ⟨ow, hwd1, hWD, hKy⟩ := wd_split hwd
    refine hG9 ?_
    clear hG9 G9
    rw [← hg] at hta hbl hits htb hbl' hwd1 hKy
    have hvA : valueAt S.kvA x = some (.ref r.ta) := by rw [ST.valA, hrf]; rfl
    have hvB : valueAt S.kvB x = some (.ref r.tb) := by rw [ST.valB, hrf]; rfl
    clear F5 N5 hit hcl hsb hk1 q1 F4 N4 F3 N3 hwd hxr hkey
    show wpAny _ _ _ (TurnEnd g L base o3 S.bd I es.size ep s (i + 1)) noRaise { s with heap := g2, toks := tk1, drawn := dr }
    unfold turnM at F6
    rw [hbase] at F6
    replace F6 : Fr g L g2 (fun y : Str => if y = "places" then pl else if y = "bound" then bn else if y = "many" then mn else if y = "bounds" then bo else if y = "book" then some (.ref S.bd) else if y = "kept_now" then some (.ref S.kd) else none) := F6
    walk_at "m_steps"
    rename Fr g L _ _ => F7
    rename News g L _ _ => N7
    rename Obj.data _ = Data.cell (some (Value.ref r.wd)) => d7
    show wpAny _ _ _ _ _ _
    refine iter_one (env := envOfC _ _ _ _ _) (fun i a => a = manyOf (r.bs.take i)) "many" (Rm.dh hrm) (isList_get hbl') hbi' F7 N7 rfl (by decide) rfl ?_ ?_
    · rintro j n t a ta h tk own hin rfl F8 N8
      clear F7 N7
      obtain ⟨hn0, hn1⟩ := Y'.bounds n (List.mem_of_getElem? hin)
      walk_at "m_steps"
      refine InvEnd.intro (by assumption) (by assumption) (fun p hp => hp) ⟨_, _, (many_succ hin).symm, rfl, fun z h1 h2 => ?_⟩
      simp only [if_neg h1, if_neg h2]
    · rintro u a ta h tk rfl F8 N8
      clear F7 N7
      have hbl0 := hbi'.length
      rw [List.take_length] at F8
      walk_at "m_steps"
      show wpAny _ _ _ _ _ _
      refine ints_same (Rm.clear64 hrm) (F8.keep _ _ hbl) (F8.keep _ _ hbl') hbi hbi' ?_
      have hlen := Y'.length
      have hsz := Y'.size
      walk_at "m_steps"
      · exact absurd hlen (by assumption)
      show wpAny _ _ _ _ _ _
      have hnd : (r.wr.map (·.1)).Nodup := wd_nodup hWD
      have hne := Y'.nonempty hnd
      replace F8 := F8
      refine LCg.Assign_ListComp_U (F₀ := F8) rfl (by with_unfolding_all rfl) (by with_unfolding_all rfl) (by decide) rfl (by decide) rfl rfl rfl ?_
      walk_at "m_steps"
      show wpAny _ _ _ _ _ _
      refine sorted_wd (Rm.dh hrm) F8 N8 (F8.keep _ _ hwd1) hlow hWD hKy hz hne fun B1 h10 c10 tk10 F10 N10 l10 => ?_
      have hsl : (sortedWr r.wr).length = r.wr.length := sortedWr_len hnd
      refine LCg.CompSrc.ledger (Rm.dh hrm) F10 N10 (by k_mem) (by rw [List.size_toArray, List.length_map, hsl]; exact line_le hz) ?_
      intro g10
      refine comp_rest (fun i y => ∃ n t, r.spots[i]? = some n ∧ y = .int n t) (fun i v I1 oI1 C1 oC1 D1 m1 ys h tk E' hi hv hC hx1 F11 N11 off ne => ?_) fun ys hl hy => ?_
      · obtain ⟨e1, he1, rfl⟩ : ∃ e, (sortedWr r.wr)[i]? = some e ∧ v = .ref e.2.1 := by
          rw [List.getElem?_toArray, List.getElem?_map] at hv
          obtain ⟨e, q1, q2⟩ := Option.map_eq_some_iff.mp hv
          exact ⟨e, q1, q2.symm⟩
        have hem := (sortedWr_mem hnd).mp (List.mem_of_getElem? he1)
        refine foldG fun G9 hG9 => ?_
        obtain ⟨hkw, -, -, -⟩ := Y'.keys e1 hem
        have hkl := (place_ok hkw).1
        obtain ⟨kit, hkt, hki⟩ := key_tup (hKy e1 hem)
        refine hG9 ?_
        clear hG9 G9
        have hks := hki.length
        have hf3 := Y'.few
        have hb7 := Y'.bounds
        replace F11 : Fr g L h _ := F11
        replace N11 : News g L h _ := N11
        clear F8 N8 F10 N10
        walk_at "m_steps"
        show wpAny _ _ _ _ _ _
        refine list_copyKT F11 N11 (Fr.tup F11 hkt) (fun D12 c12 h12 F12 N12 l12 => ?_) (by rw [← Array.length_toList, hks, ← hkl]; exact line_le hf3)
        have l12' := allLt_of l12
        walk_at "m_steps"
        show wpAny _ _ _ _ _ _
        refine wpAny_call (array_place_old G (at_in B F12 (Rm.le hrm)) (F12.keep _ _ hst) (F12.keep _ _ hsd) (F12.keep _ _ hoa) hDa hvA (F12.keep _ _ hta) (F12.keep _ _ hbl) hbi (N12.get (.head _) : _ = some (listOf kit.toList.toArray c12)) hki (by first | exact Nat.le_succ_of_le hf3 | (rw [← hkl]; exact Nat.le_succ_of_le hf3)) (by first | exact Nat.le_succ_of_le hf3 | (rw [← hkl]; exact Nat.le_succ_of_le hf3)) hb7 (fun hw h13 tk13 tk14 hk13 => ?_) fun hw => absurd hkw hw)
        have F13 := Fr.kp F12 hk13
        have N13 := News.kp N12 hk13
        show EltEnd _ _ _ _ _ _ _ _ _ _ _ _ _ _ _
        exact EltEnd.intro F13 N13 (by simp) off (.inr ⟨_, by k_mem, rfl, _, rfl⟩) ⟨_, _, by unfold AR.spots; rw [List.getElem?_map, he1]; rfl, rfl⟩
      · have hi1 : IntsAre ys r.spots := ints_all (by rw [hl]; simp [AR.spots]) hy
        have hyl := hi1.length
        have hsp : r.spots.length = r.wr.length := by rw [← hsl]; simp [AR.spots]
        have hasc := Y'.spots_asc hnd
        clear hl hy F10 N10 F8 N8
        unfold LCg.FinA
        intro D14 h14 tk14 F14 N14 o14
        walk_at "m_steps"
        show wpAny _ _ _ _ _ _
        refine call_set (items := ys.toArray) (Rm.dh hrm) (isList_get (N14.get (by k_mem))) (by simpa using hi1) (hasc.imp fun h => Int.ne_of_lt h) (by rw [List.size_toArray, hyl, hsp]; exact Nat.lt_of_le_of_lt (Nat.succ_le_succ hz) (by decide)) fun h15 tk15 hS15 hk15 => ?_
        have F15 := Fr.kp F14 fun b o e => hk15 b o (Heap.lt_size e) e
        have N15 := News.kp N14 fun b o e => hk15 b o (Heap.lt_size e) e
        clear F14 N14
        walk_at "m_steps"
        show wpAny _ _ _ _ _ _
        refine sorted_set (Rm.dh hrm) F15 N15 hS15 (by rw [hsp]; exact hz) (hasc.imp fun h => Int.le_of_lt h) fun B16 h16 c16 tk16 dr16 vs16 F16 N16 l16 i16 => ?_
        clear F15 N15
        walk_at "m_steps"
        show wpAny _ _ _ _ _ _
        refine ints_same (Rm.clear64 hrm) (N16.get (by k_mem) : _ = some (listOf ys.toArray ys.length)) (N16.get (by k_mem)) hi1 i16 ?_
        walk_at "m_steps"
        show wpAny _ _ _ _ _ _
        refine LCg.ListComp_U (F₀ := F16) (by with_unfolding_all rfl) (by decide) rfl (by decide) rfl ?_
        walk_at "m_steps"
        show LCg.CompSrc _ _ _ _ _ _ _ _ _ _ _ _ _ _
        refine LCg.CompSrc.ledger (Rm.dh hrm) F16 N16 (by k_mem : (D14, LCg.lst ys) ∈ _) (by rw [List.size_toArray, hyl, hsp]; exact line_le hz) ?_
        intro g17
        refine comp_rest (fun i y => r.vals[i]? = some y) (fun i v I1 oI1 C1 oC1 D1 m1 ys1 h tk E' hi hv hC hx1 F17 N17 off ne => ?_) fun ys1 hl1 hy1 => ?_
        · rw [List.getElem?_toArray] at hv
          refine foldG fun G9 hG9 => ?_
          obtain ⟨n1, t9, rfl, hn1⟩ := IntsAre.at hi1 i v hv
          obtain ⟨e1, he1, rfl⟩ : ∃ e, (sortedWr r.wr)[i]? = some e ∧ n1 = placeOf r.bs e.1 := by
            unfold AR.spots at hn1
            rw [List.getElem?_map] at hn1
            obtain ⟨e, q1, q2⟩ := Option.map_eq_some_iff.mp hn1
            exact ⟨e, q1, q2.symm⟩
          have hem := (sortedWr_mem hnd).mp (List.mem_of_getElem? he1)
          obtain ⟨hkw, -, -, -⟩ := Y'.keys e1 hem
          refine hG9 ?_
          clear hG9 G9
          have hp0 : 0 ≤ placeOf r.bs e1.1 := (Y'.inside hkw).1
          have hpv : r.items[(placeOf r.bs e1.1).toNat]? = some e1.2.2 := Y'.item hnd hem
          replace F17 : Fr g L h _ := F17
          replace N17 : News g L h _ := N17
          clear F16 N16
          walk_at "m_steps"
          show EltEnd _ _ _ _ _ _ _ _ _ _ _ _ _ _ _
          exact EltEnd.intro F17 N17 (fun _ z => z) off (.inr ⟨_, by k_mem, rfl, _, rfl⟩) (by unfold AR.vals; rw [List.getElem?_map, he1]; rfl)
        · have hv1 : ys1 = r.vals := vals_all (by rw [hl1, List.size_toArray, hyl, hsp, ← hsl]; simp [AR.vals]) hy1
          subst hv1
          clear hl1 hy1 F16 N16
          unfold LCg.FinE
          intro D18 h18 tk18 F18 N18 o18
          walk_at "m_steps"
          show wpAny _ _ _ _ _ _
          refine LCg.ListComp_U (F₀ := F18) (by with_unfolding_all rfl) (by decide) rfl (by decide) rfl ?_
          walk_at "m_steps"
          show wpAny _ _ _ _ _ _
          refine sorted_wd (Rm.dh hrm) F18 N18 (F18.keep _ _ hwd1) hlow hWD hKy hz hne fun B19 h19 c19 tk19 F19 N19 l19 => ?_
          clear F18 N18
          refine LCg.CompSrc.ledger (Rm.dh hrm) F19 N19 (by k_mem) (by rw [List.size_toArray, List.length_map, hsl]; exact line_le hz) ?_
          intro g20
          refine comp_rest (fun i y => r.vals[i]? = some y) (fun i v I1 oI1 C1 oC1 D1 m1 ys1 h tk E' hi hv hC hx1 F20 N20 off ne => ?_) fun ys2 hl2 hy2 => ?_
          · obtain ⟨e1, he1, rfl⟩ : ∃ e, (sortedWr r.wr)[i]? = some e ∧ v = .ref e.2.1 := by
              rw [List.getElem?_toArray, List.getElem?_map] at hv
              obtain ⟨e, q1, q2⟩ := Option.map_eq_some_iff.mp hv
              exact ⟨e, q1, q2.symm⟩
            have hem := (sortedWr_mem hnd).mp (List.mem_of_getElem? he1)
            replace F20 : Fr g L h _ := F20
            replace N20 : News g L h _ := N20
            clear F19 N19
            walk_at "m_steps"
            show wpAny _ _ _ _ _ _
            refine get_item_wd (Rm.clear64 hrm) (F20.keep _ _ hwd1) hWD (hKy.kp fun x _ o e => F20.keep _ _ e) (key_kp (hKy e1 hem) F20) (at_key hnd hem) fun tk21 => ?_
            show EltEnd _ _ _ _ _ _ _ _ _ _ _ _ _ _ _
            exact EltEnd.intro F20 N20 (fun _ z => z) off (.inr ⟨_, by k_mem, rfl, _, rfl⟩) (by unfold AR.vals; rw [List.getElem?_map, he1]; rfl)
          · have hv2 : ys2 = r.vals := vals_all (by rw [hl2, List.size_toArray, List.length_map]; simp [AR.vals]) hy2
            subst hv2
            clear hl2 hy2 F19 N19
            unfold LCg.FinE
            intro D22 h22 tk22 F22 N22 o22
            have hvv : ∀ v ∈ r.vals, IsVal v ∧ IsOk v := fun v hv => by
              obtain ⟨e, he, rfl⟩ := List.mem_map.mp hv
              obtain ⟨_, _, h3, h4⟩ := Y'.keys e ((sortedWr_mem hnd).mp he)
              exact ⟨h3, h4⟩
            walk_at "m_steps"
            show wpAny _ _ _ _ _ _
            refine lists_same (vs := r.vals) (Rm.clear64 hrm) (N22.get (by k_mem) : _ = some (listOf r.vals.toArray r.vals.length)) (N22.get (by k_mem) : _ = some (listOf r.vals.toArray r.vals.length)) hvv ?_
            walk_at "m_steps"
            show wpAny _ _ _ _ _ _
            refine LCt.ListComp_T (F₀ := F22) (by with_unfolding_all rfl) (by decide) rfl (by decide) rfl ?_
            walk_at "m_steps"
            show LCt.CompSrcT _ _ _ _ _ _ _ _ _ _ _ _ _ _ _
            refine LCt.CompSrcT.base (Rm.dh hrm) F22 N22 (isList_get hits) (by rw [List.size_toArray]; exact line_le hsz) ?_
            intro g23
            refine comp_restT (us := r.items) (by simp) (fun v => !plainNo v) (fun i u v I1 oI1 C1 oC1 D1 m1 ys1 h tk E' hu hv hC hx1 F23 N23 off ne => ?_) ?_
            · obtain rfl : v = u := by
                rw [List.getElem?_toArray, hu] at hv
                exact (Option.some.inj hv).symm
              obtain ⟨hv1, hv2, hv3⟩ := Y'.item_val hnd (List.mem_of_getElem? hu)
              replace F23 : Fr g L h _ := F23
              replace N23 : News g L h _ := N23
              clear F22 N22
              walk_at "m_steps"
              rename IsNothing x _ => hno
              rename Fr g L _ _ => F30
              rename News g L _ _ => N30
              show wpAny _ _ _ _ _ _
              refine val_ne (Rm.clear64 hrm) hv1 hv2 hv3 hno ?_
              walk_at "m_steps"
              refine And.intro rfl ?_
              by_cases c : plainNo v = true
              · rw [if_neg (by show ¬ (!plainNo v) = true; rw [c]; decide)]
                exact EltEnd.intro F30 N30 (fun _ z => z) off (.inl (isList_get hits)) trivial
              · have c : plainNo v = false := by simpa using c
                rw [if_pos (by show (!plainNo v) = true; rw [c]; rfl)]
                walk_at "m_steps"
                exact EltEnd.intro F30 N30 (fun _ z => z) off (.inl (isList_get hits)) rfl
            · rw [Y'.left hnd]
              clear F22 N22
              unfold LCg.FinE
              intro D24 h24 tk24 F24 N24 o24
              walk_at "m_steps"
              show wpAny _ _ _ _ _ _
              refine LCt.ListComp_T (F₀ := F24) (by with_unfolding_all rfl) (by decide) rfl (by decide) rfl ?_
              walk_at "m_steps"
              show wpAny _ _ _ _ _ _
              refine sorted_wd (Rm.dh hrm) F24 N24 (F24.keep _ _ hwd1) hlow hWD hKy hz hne fun B25 h25 c25 tk25 F25 N25 l25 => ?_
              clear F24 N24
              refine LCt.CompSrcT.ledger (Rm.dh hrm) F25 N25 (by k_mem) (by rw [List.size_toArray, List.length_map, hsl]; exact line_le hz) ?_
              intro g26
              refine comp_restT (us := r.vals) (by simp [AR.vals]) (fun v => !plainNo v) (fun i u v I1 oI1 C1 oC1 D1 m1 ys1 h tk E' hu hv hC hx1 F26 N26 off ne => ?_) ?_
              · obtain ⟨e1, he1, rfl⟩ : ∃ e, (sortedWr r.wr)[i]? = some e ∧ v = .ref e.2.1 := by
                  rw [List.getElem?_toArray, List.getElem?_map] at hv
                  obtain ⟨e, q1, q2⟩ := Option.map_eq_some_iff.mp hv
                  exact ⟨e, q1, q2.symm⟩
                obtain rfl : u = e1.2.2 := by
                  unfold AR.vals at hu
                  rw [List.getElem?_map, he1] at hu
                  exact (Option.some.inj hu).symm
                have hem := (sortedWr_mem hnd).mp (List.mem_of_getElem? he1)
                obtain ⟨_, hv3, hv1, hv2⟩ := Y'.keys e1 hem
                replace F26 : Fr g L h _ := F26
                replace N26 : News g L h _ := N26
                clear F25 N25
                walk_at "m_steps"
                show wpAny _ _ _ _ _ _
                refine get_item_wd (Rm.clear64 hrm) (F26.keep _ _ hwd1) hWD (hKy.kp fun x _ o e => F26.keep _ _ e) (key_kp (hKy e1 hem) F26) (at_key hnd hem) fun tk27 => ?_
                walk_at "m_steps"
                rename IsNothing x _ => hno
                rename Fr g L _ _ => F30
                rename News g L _ _ => N30
                show wpAny _ _ _ _ _ _
                refine val_ne (Rm.clear64 hrm) hv1 hv2 hv3 hno ?_
                walk_at "m_steps"
                refine And.intro rfl ?_
                by_cases c : plainNo e1.2.2 = true
                · rw [if_neg (by show ¬ (!plainNo e1.2.2) = true; rw [c]; decide)]
                  exact EltEnd.intro F30 N30 (fun _ z => z) off (.inr ⟨_, by k_mem, rfl, _, rfl⟩) trivial
                · have c : plainNo e1.2.2 = false := by simpa using c
                  rw [if_pos (by show (!plainNo e1.2.2) = true; rw [c]; rfl)]
                  walk_at "m_steps"
                  show wpAny _ _ _ _ _ _
                  refine get_item_wd (Rm.clear64 hrm) (F30.keep _ _ hwd1) hWD (hKy.kp fun x _ o e => F30.keep _ _ e) (key_kp (hKy e1 hem) F30) (at_key hnd hem) fun tk31 => ?_
                  exact EltEnd.intro F30 N30 (fun _ z => z) off (.inr ⟨_, by k_mem, rfl, _, rfl⟩) rfl
              · clear F25 N25
                unfold LCg.FinE
                intro D28 h28 tk28 F28 N28 o28
                walk_at "m_steps"
                show wpAny _ _ _ _ _ _
                refine lists_same (vs := r.vals.filter fun v => !plainNo v) (Rm.clear64 hrm) (N28.get (by k_mem) : _ = some (listOf (r.vals.filter fun v => !plainNo v).toArray (r.vals.filter fun v => !plainNo v).length)) (N28.get (by k_mem) : _ = some (listOf (r.vals.filter fun v => !plainNo v).toArray (r.vals.filter fun v => !plainNo v).length)) (fun v hv => hvv v (List.mem_filter.mp hv).1) ?_
                walk_at "m_steps"
                exact ⟨rfl, RightJ.intro F28 (fun y h1 h2 h3 h4 => by rw [hbase]; simp only [if_neg h1, if_neg h2, if_neg h3, if_neg h4]) N28 (by simp) q5 d7 q6 q7⟩
  · rintro s' g1 tk1 ⟨h', tk, dr, oN, oW, oI, pl, bn, mn, bo, vN, vW, rfl, F5, N5, q1, q2, q3, q4⟩ hk1
    have F6 := turn_last F5 N5 hk1
    clear F5 N5 hk1
    show wpAny _ _ _ _ _ _
    walk_at "m_steps"
    exact k _ _ _ fun b o e => F6.keep b o (by rw [hg]; exact e)
end

theorem words_final_m_12 : True := by
  k_with "exec For Name Name cons nil" => (k_here; (with_reducible show wpAny _ _ (exec (Stmt.For (Expr.Name (Str.ofString "number") _) (Expr.Name (Str.ofString "some") _) _ _ _) _) _ _ _); k_dflt (refine stopM ?_))
  k_with "call ref" => (k_here; (with_reducible show wpAny _ _ (call (Value.ref 107) [_]) _ _ _); k_dflt (refine stopM ?_))
  k_with "call ref" => (k_here; (with_reducible show wpAny _ _ (call (Value.ref 104) [_, _]) _ _ _); k_dflt (refine stopM ?_))
  k_with "call ref" => (k_here; (with_reducible show wpAny _ _ (call (Value.ref 216) [_, _, _, _]) _ _ _); k_dflt (refine stopM ?_))
  k_with "call ref" => (k_here; (with_reducible show wpAny _ _ (call (Value.ref 221) [_, _, _]) _ _ _); k_dflt (refine stopM ?_))
  k_with "exec For Name Tuple cons nil" => (k_here; k_dflt (refine stopM ?_))
  trivial

section
variable {w : World} {loose : List Str} {mean : ExcName → Option Value} {mg mb : Str → Option Value} {b0 : Heap} {A : Around} {outer : List Env} {s : Shared} {R : Result → Shared → Prop}
theorem store_init {n : Nat} (G : Gnd w loose mean mg mb b0) (H : At n b0 A outer s) {st sd rd : Addr} (hst : s.heap.get? st = some (instObj 107 sd)) (hsd : s.heap.get? sd = some (dictOf [] 0)) (hb : b0.get? sd = none) (hf : sd ∉ frs outer) (hne : sd ≠ st)
    (k : ∀ h' tk vd ad ov oa t1 t2 t3 t4 t5, KeepW [sd] s.heap h' → h'.get? sd = some (storeDict w vd ad rd 0 t1 t2 t3 t4 t5) → h'.get? vd = some ov → DictObj w vd ov [] → h'.get? ad = some oa → DictObj w ad oa [] → s.heap.get? vd = none → s.heap.get? ad = none → vd ≠ ad → R (.ok (.ret .none)) { s with heap := h', toks := tk }) :
    codeAny (model prg w) A (.call (.ref 83) ⟨[.ref st, .ref rd], []⟩) R s := by
  have hN : ∀ p ∈ [(sd, dictOf [] 0)], s.heap.get? p.1 = some p.2 ∧ b0.get? p.1 = none ∧ p.1 ∉ frs outer := List.forall_mem_singleton.mpr ⟨hsd, hb, hf⟩
  obtain ⟨od, hod⟩ : ∃ od : Obj, od = dictOf [] 0 := ⟨_, rfl⟩
  rw [← hod] at hN
  (refine' enter (news := [(sd, od)]) G H ?kN ?k6 ?k7 ?k9 ?kB ?_ ?c2 ?c3 ?c4 ?c5; (case kN => first | exact List.forall_mem_nil _ | assumption); (case k6 => k_is); (case k7 => k_is); (case k9 => exact BindsTo.of_eq rfl); (case c5 => decide); (case kB => exact locs rfl); (case c2 => exact rfl); (case c3 => exact rfl); (case c4 => exact rfl); (try dsimp only))
  intro g L h1 hg hL F N B X T hrm tk0
  replace hg : g = hideAll s.heap [sd] := hg
  rw [hod] at N
  have hst' : g.get? st = some (instObj 107 sd) := by rw [hg]; exact hideAll_get _ hst (nm_one hne.symm)
  walk_at "m_steps"
  rename_i hv oa ha1 ha2 ha3 ha4 ha5 ha6 l2 h3 h4 h5 F9 N9
  exact k _ _ _ _ _ _ _ _ _ _ _ (keepW hg F9) (N9.get (by k_mem)) (N9.get (by k_mem)) ⟨by assumption, by assumption⟩ (N9.get (.head _)) ⟨by assumption, by assumption⟩ (fresh_of hg N9 (.tail _ (.head _)) (nm_one (Nat.ne_of_gt (by assumption)))) (fresh_of hg N9 (.head _) (nm_one (Nat.ne_of_gt l2.2))) (Nat.ne_of_lt l2.1)
theorem store_call {n : Nat} {g : Heap} {L a : Addr} {m : Str → Option Value} {news : List (Addr × Obj)} {cn : Str} {cs : Scope} {cd : Value} {cl : List (Str × Addr)} {E : Value → Shared → Prop} {Q : Value → Shared → Prop} {rd : Addr} (G : Gnd w loose mean mg mb b0) (B : Below A b0 outer g) (hr : Rm (n + 2) A) (hk : cs.kind = .function)
    (F : Fr g L s.heap m) (X : (hd.heap_39 w.params).In g) (N : News g L s.heap news)
    (k : ∀ h' tk st sd vd ad ov oa t1 t2 t3 t4 t5, Fr g L h' m → News g L h' ((vd, ov) :: (ad, oa) :: (st, instObj 107 sd) :: (sd, storeDict w vd ad rd 0 t1 t2 t3 t4 t5) :: news) → DictObj w vd ov [] → DictObj w ad oa [] →
      (@Ne Nat vd ad ∧ @Ne Nat vd st ∧ @Ne Nat vd sd ∧ @Ne Nat ad st ∧ @Ne Nat ad sd ∧ @Ne Nat st sd) → (AllNe vd news ∧ AllNe ad news ∧ AllNe st news ∧ AllNe sd news) → Q (.ref st) { s with heap := h', toks := tk }) :
    wpAny (model prg w) (A.deeper (envX cn cs L a cd cl)) (call (.ref 107) [.ref rd]) Q E s := by
  refine call_cls (fI := 83) F X N (by k_is) (by k_is) (by k_is) fun x dx h1 F1 N1 l1 l2 => ?_
  have H1 := at_in (name := cn) (scope := cs) (a := a) (cd := cd) (cl := cl) (s := { s with heap := h1 }) B F1 hr hk
  have x1 := N1 (x, instObj 107 dx) (.head _)
  have x2 := N1 (dx, dictOf [] 0) (.tail _ (.head _))
  have hb : b0.get? dx = none := by
    cases z : b0.get? dx with
    | none => rfl
    | some o => have := B.stays dx o z; rw [x2.2.2] at this; cases this
  have hf : dx ∉ frs (envX cn cs L a cd cl :: outer) := by
    refine nf_cons x2.2.1 fun z => ?_
    obtain ⟨_, o, ho, _⟩ := B.frames.mem z
    rw [x2.2.2] at ho; cases ho
  refine store_init G H1.make x1.1 x2.1 hb hf (Nat.ne_of_lt l2) fun h2 tk vd ad ov oa t1 t2 t3 t4 t5 kW e1 e2 D1 e3 D2 n1 n2 n3 => ⟨rfl, ?_⟩
  have hW : ∀ b ∈ [dx], g.get? b = none ∧ b ≠ L := List.forall_mem_singleton.mpr ⟨x2.2.2, x2.2.1⟩
  have F2 : Fr g L h2 m := Fr.kpW F1 kW hW
  have hnx : ∀ p ∈ (x, instObj 107 dx) :: news, p.1 ∉ ([dx] : List Addr) := fun p hp z => by
    have z := List.mem_singleton.mp z
    rcases List.mem_cons.mp hp with rfl | hp
    · exact Nat.ne_of_gt l2 z
    · exact Nat.ne_of_lt (l1 p hp) z
  have N1' : News g L h1 ((x, instObj 107 dx) :: news) := fun p hp => by
    rcases List.mem_cons.mp hp with rfl | hp
    · exact x1
    · exact N1 p (.tail _ (.tail _ hp))
  have N2 : News g L h2 ((x, instObj 107 dx) :: news) := News.kpW N1' kW hnx
  have N3 : News g L h2 ((vd, ov) :: (ad, oa) :: (x, instObj 107 dx) :: (dx, storeDict w vd ad rd 0 t1 t2 t3 t4 t5) :: news) := by
    refine News.made F1 n1 e2 (News.made F1 n2 e3 fun p hp => ?_)
    rcases List.mem_cons.mp hp with rfl | hp
    · exact N2 _ (.head _)
    · rcases List.mem_cons.mp hp with rfl | hp
      · exact ⟨e1, x2.2⟩
      · exact N2 p (.tail _ hp)
  have ne : ∀ {b : Addr} {o : Obj} {c : Addr}, h1.get? b = none → h1.get? c = some o → b ≠ c := fun e e' z => by rw [z, e'] at e; cases e
  have lt_ne : ∀ {l : List (Addr × Obj)} {b : Addr}, (∀ p ∈ l, p.1 < b) → AllNe b l := fun {l} {b} h => by
    induction l with
    | nil => trivial
    | cons p r ih => exact ⟨Nat.ne_of_lt (h p (.head _)), ih fun q hq => h q (.tail _ hq)⟩
  exact k h2 tk x dx vd ad ov oa t1 t2 t3 t4 t5 F2 N3 D1 D2 ⟨n3, ne n1 x1.1, ne n1 x2.1, ne n2 x1.1, ne n2 x2.1, Nat.ne_of_gt l2⟩ ⟨allNe_of (fun p hp => N1 p (.tail _ (.tail _ hp))) n1, allNe_of (fun p hp => N1 p (.tail _ (.tail _ hp))) n2, lt_ne fun p hp => Nat.lt_trans (l1 p hp) l2, lt_ne l1⟩
end
theorem ns_unique {h : Heap} {a : Addr} {m m' : Str → Option Value} (x : h.Ns a m) (y : h.Ns a m') : m = m' := by
  refine foldG fun G9 hG9 => ?_
  obtain ⟨o, es, ep, e, d, _, f⟩ := x
  obtain ⟨o', es', ep', e', d', _, f'⟩ := y
  refine hG9 ?_
  clear hG9 G9
  rw [e] at e'; cases e'
  rw [d] at d'; cases d'
  funext z
  rw [← f z, f' z]
section
variable {w : World} {A : Around} {env : Env}
/-- what a loop over a local name finds -/
def LoopL (w : World) (A : Around) (env : Env) (x : Str) (body : List Stmt) (Q : Flow → Shared → Prop) (it : Value) (s₂ : Shared) : Prop :=
  ∃ (I : Addr) (fp wr : List Addr) (n : Nat) (P : Nat → Value → Prop) (St : Nat → Heap → Prop) (J : Nat → Shared → Prop), it = .ref I ∧ Walks prg w A I fp wr n P St ∧ env.locals ∉ wr ∧ (∀ i s, J i s → St i s.heap ∧ ∃ m, s.heap.Ns env.locals m) ∧ J 0 s₂ ∧
    (∀ i v s h₁ tk₁ h₂ m, i < n → J i s → P i v → St (i + 1) h₁ → (∀ b o, b ∉ wr → s.heap.get? b = some o → h₁.get? b = some o) → s.heap.Ns env.locals m → h₂.Ns env.locals (fun y => if y = x then some v else m y) → Heap.SameBut env.locals h₁ h₂ →
      wpAny (model prg w) A (execs body env) (fun f s₃ => f = .next ∧ J (i + 1) s₃) noRaise { s with heap := h₂, toks := tk₁ }) ∧
    ∀ s h₁ tk₁, J n s → (∀ b o, b ∉ wr → s.heap.get? b = some o → h₁.get? b = some o) → Q .next { s with heap := h₁, toks := tk₁ }
theorem For_loc {E : Value → Shared → Prop} {Q : Flow → Shared → Prop} {s : Shared} {x : Str} {px pos : Pos} {iter : PySem.Expr} {body : List Stmt} (hx : env.kindOf x = some .local) (hp : (env.scope.kind == .class || (env.scope.kind == .module && env.locals != env.globals)) = false)
    (h : wpAny (model prg w) A (eval iter env) (fun xv s₁ => wpAny (model prg w) A (pyIter xv) (fun it s₂ => LoopL w A env x body Q it s₂) noRaise s₁) noRaise s)
    (hs : ∀ x, foldedSetIterable iter env x = pure x := by intro _; rfl) : wpAny (model prg w) A (exec (.For (.Name x px) iter body [] pos) env) Q E s := by
  refine wpAny_mono (E := noRaise) (wpAny_For (wpAny_mono h (fun xv s₁ h₁ => wpAny_mono h₁ (fun it s₂ h₂ => ?_) fun _ _ e => e) fun _ _ e => e) hs) (fun _ _ q => q) fun _ _ e => e.elim
  refine foldG fun G9 hG9 => ?_
  obtain ⟨I, fp, wr, n, P, St, J, rfl, W, hLw, hJ, h0, turn, done⟩ := h₂
  refine hG9 ?_
  clear hG9 G9
  refine codeAny_forLoop (fun k s' => ∃ i, J i s' ∧ i ≤ n ∧ k = n - i) ?_ n ⟨0, h0, Nat.zero_le _, rfl⟩
  rintro k s' ⟨i, hJi, hi, rfl⟩
  obtain ⟨hst, m, hm⟩ := hJ i s' hJi
  by_cases hlt : i < n
  · refine W.item i _ _ _ hlt hst fun v h₁ tk₁ hP hst₁ hk₁ => ?_
    refine wpAny_assign_Name (wpAny_storeName_local hx (hm.at' fun o e => hk₁ _ o hLw e) (fun h₂ hn₂ hs₂ => ?_) hp)
    refine wpAny_passesOwn PassesOwn.never (wpAny_mono (turn i v s' h₁ _ h₂ m hlt hJi hP hst₁ hk₁ hm hn₂ hs₂) (fun f s₃ h₃ => ?_) fun _ _ e => e)
    obtain ⟨rfl, h₃⟩ := h₃
    exact ⟨n - (i + 1), Nat.sub_lt_sub_left hlt (Nat.lt_succ_self i), i + 1, h₃, hlt, rfl⟩
  · obtain rfl : i = n := Nat.le_antisymm hi (Nat.le_of_not_lt hlt)
    exact W.done _ _ _ hst fun h₁ tk₁ hk₁ => wpAny_execs_nil (done s' h₁ tk₁ hJi hk₁)
end
/-- the main loop's state -/
def LawJ (w : World) (g : Heap) (L : Addr) (base : Str → Option Value) (S0 : ST) (so : Addr) (sv tv : List Value) (I : Addr) (s : Shared) (i : Nat) (s' : Shared) : Prop :=
  ∃ (h' : Heap) (tk : Nat) (dr : Drawn) (nb : Option Value) (S : ST) (o1 : Obj), s' = { s with heap := h', toks := tk, drawn := dr } ∧ Fr g L h' (fun y => if y = "number" then nb else base y) ∧ News g L h' [(S0.rd, listOf tv.toArray 0), (so, listOf sv.toArray 0), (L + 1, o1)] ∧ o1.data = .cell (some (.ref S0.st)) ∧ h'.IsListIter I so i ∧ S.Ok w h' ∧
    (S.st = S0.st ∧ S.sd = S0.sd ∧ S.vd = S0.vd ∧ S.ad = S0.ad ∧ S.rd = S0.rd ∧ S.kd = S0.kd ∧ S.bd = S0.bd ∧ S.sp = S0.sp) ∧ (∀ a ∈ S.muts ++ S.imms, @Ne Nat a L ∧ @Ne Nat a (L + 1) ∧ @Ne Nat a so ∧ @Ne Nat a I) ∧ (∀ a ∈ S.muts, g.get? a = none) ∧ (∀ p ∈ S.as, p.2.wr.length ≤ i)

section
variable {w : World} {h h' : Heap} {S : ST}
/-- a store whose objects all stand -/
theorem ST.Ok.all (O : S.Ok w h) (k : ∀ b ∈ S.muts ++ S.imms, ∀ o, h.get? b = some o → h'.get? b = some o) (ht : TabOk h' S.ps) : S.Ok w h' := by
  have km : ∀ b ∈ S.muts, ∀ o, h.get? b = some o → h'.get? b = some o := fun b hb => k b (List.mem_append_left _ hb)
  have ki : ∀ b ∈ S.imms, ∀ o, h.get? b = some o → h'.get? b = some o := fun b hb => k b (List.mem_append_right _ hb)
  obtain ⟨t1, t2, t3, t4, t5, hsd⟩ := O.sd
  obtain ⟨o1, v1, v2⟩ := O.vd
  obtain ⟨o2, k1, k2⟩ := O.kd
  obtain ⟨o3, a1, a2⟩ := O.ad
  obtain ⟨o4, b1, b2⟩ := O.bd
  obtain ⟨o5, r1⟩ := O.rand
  refine ⟨ki S.st (by simp [ST.imms]) _ O.st, ⟨t1, t2, t3, t4, t5, ki S.sd (by simp [ST.imms]) _ hsd⟩, ⟨o1, km S.vd (by simp [ST.muts]) _ v1, v2⟩, ⟨o2, km S.kd (by simp [ST.muts]) _ k1, k2⟩, ⟨o3, km S.ad (by simp [ST.muts]) _ a1, a2⟩, ⟨o4, km S.bd (by simp [ST.muts]) _ b1, b2⟩,
    ⟨km 211 (by simp [ST.muts]) _ O.tab.1, ht⟩, O.vals, O.names, fun p hp => (O.lies p hp).kpf fun b hb o e => ?_, O.fits, O.apart, O.frozen, O.spot, ⟨o5, ki S.rd (by simp [ST.imms]) _ r1⟩⟩
  rcases ST.foot_mem hp hb with q | rfl | rfl
  · exact ki b q o e
  · exact km _ (ST.its_mut hp).1 o e
  · exact km _ (ST.its_mut hp).2 o e
/-- the store at first -/
abbrev firstS (st sd vd ad rd kd bd : Addr) (ps : Array Value) : ST := { st := st, sd := sd, vd := vd, ad := ad, rd := rd, kd := kd, bd := bd, sp := 0, kvs := [], as := [], ps := ps }
theorem first_ok {st sd vd ad rd kd bd : Addr} {ps : Array Value} {ov oa ok ob : Obj} {t1 t2 t3 t4 t5 : Tok} {vs : List Value} {c : Nat} (hst : h.get? st = some (instObj 107 sd)) (hsd : h.get? sd = some (storeDict w vd ad rd 0 t1 t2 t3 t4 t5)) (hv : h.get? vd = some ov) (Dv : DictObj w vd ov []) (ha : h.get? ad = some oa) (Da : DictObj w ad oa []) (hk : h.get? kd = some ok) (Dk : DictObj w kd ok []) (hb : h.get? bd = some ob) (Db : DictObj w bd ob []) (hr : h.get? rd = some (listOf vs.toArray c)) (ht : h.get? 211 = some (tabObj ps)) (htk : TabOk h ps)
    (n1 : @Ne Nat vd kd ∧ @Ne Nat vd ad ∧ @Ne Nat vd bd ∧ @Ne Nat kd ad ∧ @Ne Nat kd bd ∧ @Ne Nat ad bd) (n2 : @Ne Nat vd 211 ∧ @Ne Nat kd 211 ∧ @Ne Nat ad 211 ∧ @Ne Nat bd 211) (n3 : ∀ a ∈ [st, sd, rd], ∀ b ∈ [vd, kd, ad, bd, 211], @Ne Nat a b) : (firstS st sd vd ad rd kd bd ps).Ok w h := by
  refine ⟨hst, ⟨t1, t2, t3, t4, t5, hsd⟩, ⟨ov, hv, Dv⟩, ⟨ok, hk, Dk⟩, ⟨oa, ha, Da⟩, ⟨ob, hb, Db⟩, ⟨ht, htk⟩, (fun _ z => nomatch z), (fun _ z => nomatch z), (fun _ z => nomatch z), (fun _ z => nomatch z), ?_, fun a hi hm => ?_, ⟨Int.le_refl _, Int.le_refl _⟩, ⟨_, hr⟩⟩
  · simp only [ST.muts, List.flatMap_nil, List.append_nil, List.nodup_cons, List.mem_cons, List.not_mem_nil, or_false, not_or, not_false_eq_true, List.nodup_nil, and_true]
    exact ⟨⟨n1.1, n1.2.1, n1.2.2.1, n2.1⟩, ⟨n1.2.2.2.1, n1.2.2.2.2.1, n2.2.1⟩, ⟨n1.2.2.2.2.2, n2.2.2.1⟩, n2.2.2.2⟩
  · simp only [ST.muts, ST.imms, List.flatMap_nil, List.append_nil] at hi hm
    exact n3 a hi a hm rfl
end
theorem TabOk.but {h h' : Heap} {ps : Array Value} (x : TabOk h ps) (k : ∀ b o vs, h.get? b = some o → o.data = .fields vs → (∃ q t, vs[1]? = some (.str q t)) → h'.get? b = some o) : TabOk h' ps := ⟨x.1, fun pos v e => by
  obtain ⟨c', e', c₂, oc, vs, t, e2, hoc, hd, hv⟩ := x.2 pos v e
  exact ⟨c', e', c₂, oc, vs, t, e2, k _ _ _ hoc hd ⟨_, t, hv⟩, hd, hv⟩⟩
theorem tab_empty {h : Heap} {ps : Array Value} (e : ps = #[]) : TabOk h ps := by
  subst e
  exact ⟨trivial, fun pos v q => by simp [codeAmong] at q⟩
/-- what a turn's head leaves of the main loop's state -/
theorem law_head {w : World} {g h' g1 g2 : Heap} {L I so : Addr} {m m2 : Str → Option Value} {i : Nat} {S : ST} {news : List (Addr × Obj)} (F : Fr g L h' m) (N : News g L h' news) (hI : h'.IsListIter I so i) (hgI : g.get? I = none) (hnI : ∀ p ∈ news, @Ne Nat p.1 I) (hk : ∀ b o, b ∉ [I] → h'.get? b = some o → g1.get? b = some o) (hn2 : g2.Ns L m2) (hsb : Heap.SameBut L g1 g2) (O : S.Ok w h') (hne : ∀ a ∈ S.muts ++ S.imms, @Ne Nat a L ∧ @Ne Nat a I) :
    Fr g L g2 m2 ∧ News g L g2 news ∧ S.Ok w g2 := by
  have hL : g.get? L = none := Heap.get?_none_of_le F.above
  have up : ∀ b o, @Ne Nat b I → @Ne Nat b L → h'.get? b = some o → g2.get? b = some o := fun b o h1 h2 e => hsb.extBut b o h2 (hk b o (fun z => h1 (List.mem_singleton.mp z)) e)
  refine ⟨⟨hn2, fun b o e => up b o (fun z => by have z : b = I := z; rw [z, hgI] at e; cases e) (fun z => by have z : b = L := z; rw [z, hL] at e; cases e) (F.keep b o e), F.above⟩, fun p hp => ⟨up _ _ (hnI p hp) (N p hp).2.1 (N p hp).1, (N p hp).2⟩, O.all (fun b hb o e => up b o (hne b hb).2 (hne b hb).1 e) (O.tab.2.but fun b o vs e hd hv => up b o (fun z => ?_) (fun z => ?_) e)⟩
  · obtain ⟨oI, e2, _, e3⟩ := hI
    have z : b = I := z
    rw [z, e2] at e; cases e
    rw [e3] at hd; cases hd
    obtain ⟨q, t, hv⟩ := hv
    simp at hv
  · obtain ⟨oL, es, ep, e2, e3, _⟩ := F.ns
    have z : b = L := z
    rw [z, e2] at e; cases e
    rw [e3] at hd; cases hd
/-- the caller's frame behind a deed -/
theorem law_led {w : World} {g h h' : Heap} {L : Addr} {m : Str → Option Value} {S S' : ST} {news : List (Addr × Obj)} (D : Led w [L] h h' S S') (F : Fr g L h m) (N : News g L h news) (hid : ∀ a ∈ S.muts, g.get? a = none) (hL : L ∉ S.muts) (hn : ∀ p ∈ news, p.1 ∉ S.muts) :
    Fr g L h' m ∧ News g L h' news ∧ (∀ a ∈ S'.muts, g.get? a = none) ∧ ∀ x o, h.get? x = some o → x ∉ S.muts ++ S.imms → ∀ a ∈ S'.muts ++ S'.imms, @Ne Nat a x := by
  have hgL : g.get? L = none := Heap.get?_none_of_le F.above
  refine ⟨⟨?_, fun b o e => D.kept.same b o (F.keep b o e) (fun z => by rw [hid b z] at e; cases e) (fun z => by have z : b = L := List.mem_singleton.mp z; rw [z, hgL] at e; cases e), F.above⟩, fun p hp => ⟨D.kept.same _ _ (N p hp).1 (hn p hp) fun z => (N p hp).2.1 (List.mem_singleton.mp z), (N p hp).2⟩, fun a ha => ?_, fun x o e hx a ha z => ?_⟩
  · obtain ⟨oL, es, ep, e2, e3, e4⟩ := F.ns
    obtain ⟨sl, e5⟩ := D.kept.any e2 hL
    exact ⟨_, es, ep, e5, e3, e4⟩
  · rcases D.muts a ha with q | q
    · exact hid a q
    · exact none_g F q
  · have z : a = x := z
    rcases List.mem_append.mp ha with ha | ha
    · rcases D.muts a ha with q | q
      · exact hx (z ▸ List.mem_append_left _ q)
      · rw [z, e] at q; cases q
    · rcases D.imms a ha with q | q
      · exact hx (z ▸ List.mem_append_right _ q)
      · rw [z, e] at q; cases q
def LawEnd (w : World) (g : Heap) (L : Addr) (base : Str → Option Value) (S0 : ST) (so : Addr) (sv tv : List Value) (I : Addr) (s : Shared) (i : Nat) (f : Flow) (s' : Shared) : Prop := f = .next ∧ LawJ w g L base S0 so sv tv I s i s'
theorem codeAny_args {M : Model} {A : Around} {f : Value} {a a' : Args} {R : Result → Shared → Prop} {s : Shared} (e : a = a') (h : codeAny M A (.call f a') R s) : codeAny M A (.call f a) R s := e ▸ h
/-- the random numbers told, one behind another -/
def randAll (told : List Int) : Int → List Int → List Int
  | _, [] => []
  | sp, n :: r => (randOf told sp n).1 :: randAll told (randOf told sp n).2 r
def randEnd (told : List Int) : Int → List Int → Int
  | sp, [] => sp
  | sp, n :: r => randEnd told (randOf told sp n).2 r
theorem rand_end_take {told : List Int} : ∀ (l : List Int) (i : Nat) (sp n : Int), l[i]? = some n → randEnd told sp (l.take (i + 1)) = (randOf told (randEnd told sp (l.take i)) n).2
  | [], _, _, _, h => by simp at h
  | a :: r, 0, sp, n, h => by
    simp at h; subst h
    simp [randEnd]
  | a :: r, i + 1, sp, n, h => by
    simp only [List.take_succ_cons, randEnd]
    exact rand_end_take r i _ n (by simpa using h)
theorem rand_all_take {told : List Int} : ∀ (l : List Int) (i : Nat) (sp n : Int), l[i]? = some n → (randAll told sp l).take (i + 1) = (randAll told sp l).take i ++ [(randOf told (randEnd told sp (l.take i)) n).1]
  | [], _, _, _, h => by simp at h
  | a :: r, 0, sp, n, h => by
    simp at h; subst h
    simp [randAll, randEnd]
  | a :: r, i + 1, sp, n, h => by
    simp only [List.take_succ_cons, randEnd, randAll, List.cons_append]
    rw [rand_all_take r i _ n (by simpa using h)]
theorem rand_all_len {told : List Int} : ∀ (l : List Int) (sp : Int), (randAll told sp l).length = l.length
  | [], _ => rfl
  | a :: r, sp => by simp [randAll, rand_all_len r]
theorem rand_near {told : List Int} {sp n : Int} (h : 0 ≤ sp) : sp ≤ (randOf told sp n).2 ∧ (randOf told sp n).2 ≤ sp + 1 := by
  unfold randOf
  split
  · exact ⟨Int.le_refl _, Int.le_add_one (Int.le_refl sp)⟩
  · split
    · exact ⟨Int.le_refl _, Int.le_add_one (Int.le_refl sp)⟩
    · exact ⟨Int.le_add_one (Int.le_refl sp), Int.le_refl _⟩
theorem rand_end_near {told : List Int} : ∀ (l : List Int) (sp : Int), 0 ≤ sp → sp ≤ randEnd told sp l ∧ randEnd told sp l ≤ sp + l.length
  | [], sp, h => by simp [randEnd]
  | a :: r, sp, h => by
    have h1 := rand_near (told := told) (n := a) h
    have h2 := rand_end_near (told := told) r _ (Int.le_trans h h1.1)
    simp only [randEnd, List.length_cons]
    refine ⟨Int.le_trans h1.1 h2.1, Int.le_trans h2.2 (Int.le_trans (Int.add_le_add_right h1.2 _) (Int.le_of_eq ?_))⟩
    rw [Int.natCast_succ, Int.add_assoc, Int.add_comm 1]

section
variable {w : World} {A : Around} {E : Value → Shared → Prop} {s : Shared} {h₀ : Heap} {L : Addr} {m : Str → Option Value} {env : Env}
/-- the tuple that a comprehension goes over -/
def TupAt (ax : Addr) (its : Array Value) (news : List (Addr × Obj)) : Prop := ∃ o, (ax, o) ∈ news ∧ o.cls = .type "tuple" ∧ ∃ n, o.data = .seq its n
theorem TupAt.tuple {h : Heap} {ax : Addr} {its : Array Value} {news : List (Addr × Obj)} (x : TupAt ax its news) (N : News h₀ L h news) : h.IsTuple ax its := let ⟨o, hm, r⟩ := x; ⟨o, (N _ hm).1, r⟩
/-- what a comprehension over a tuple finds -/
def TupSrc (w : World) (A : Around) (h₀ : Heap) (L : Addr) (m : Str → Option Value) (env : Env) (elt : PySem.Expr) (x : Str) (scope : Scope) (cl : List (Str × Addr)) (Fin : Shared → List Value → List (Addr × Obj) → Prop) (xv : Value) (s₁ : Shared) : Prop :=
  ∃ ax its news, xv = .ref ax ∧ A.handled = none ∧ Fr h₀ L s₁.heap m ∧ News h₀ L s₁.heap news ∧ TupAt ax its news ∧ its.size ≤ sizeLine ∧
    ∀ g, LCg.CompRest prg w A h₀ L m env elt x scope cl { s₁ with heap := g } (TupAt ax its) (fun i v => its[i]? = some v) (Fin { s₁ with heap := g }) its.size 0 [] news
theorem ListComp_tup {elt iter : PySem.Expr} {x : Str} {px : Pos} {scope : Scope} {cl : List (Str × Addr)} {pos : Pos} {Q : Value → Shared → Prop} (_ : Fr h₀ L s.heap m)
    (hclos : closureFor scope env = pure cl) (hcell : ∀ y ∈ scope.names, y.2 ≠ .cell) (hkind : scope.kind = .function)
    (hnames : ∀ y ∈ scope.names, y.2 = .local → scope.names.lookup y.1 = some .local) (hx : scope.names.lookup x = some .local)
    (h : wpAny (model prg w) A (eval iter env) (TupSrc w A h₀ L m env elt x scope cl (fun s₂ => LCg.FinE h₀ L m s₂ Q)) E s)
    (hs : ∀ x, foldedSetIterable iter env x = pure x := by intro _; rfl) :
    wpAny (model prg w) A (eval (.ListComp elt [⟨.Name x px, iter, [], 0⟩] scope pos) env) Q E s := by
  rw [eval_ListComp]
  refine wpAny_comprehension_free (use := none) rfl hs hclos hkind hnames (wpAny_mono h (fun xv s₁ h₁ => ?_) fun _ _ e => e)
  obtain ⟨ax, its, news, rfl, hh, F, N, S, hsz, R⟩ := h₁
  have ht := S.tuple N
  have hlt : ax < s₁.heap.objs.size := by obtain ⟨_, e, _⟩ := ht; exact Heap.lt_size e
  refine wpAny_pyIter_tuple ht ?_
  obtain ⟨g, hg⟩ : ∃ g, g = s₁.heap.push { cls := .type "tuple_iterator", data := .fields #[.ref ax, .int 0 0] } := ⟨_, rfl⟩
  have up : ∀ b o, s₁.heap.get? b = some o → g.get? b = some o := fun b o e => by rw [hg]; exact Heap.get?_push_of_some _ e
  have hsz2 : g.objs.size = s₁.heap.objs.size + 1 := by rw [hg, Heap.size_push]
  have hit : g.IsTupleIter s₁.heap.objs.size ax 0 := ⟨_, by rw [hg]; exact Heap.get?_push_size _ rfl, rfl, rfl⟩
  rw [← hg]
  refine LCg.block_U (Walks.tuple hh s₁.heap.objs.size ax (Nat.ne_of_lt hlt) its) hsz (fun i h st => by obtain ⟨o, e, _⟩ := st.1; exact ⟨o, e⟩)
    (fun i h h' o nw st e e' _ N' S' => ⟨by obtain ⟨o', q, r⟩ := st.1; rw [e] at q; cases q; exact ⟨o, e', r⟩, S'.tuple N'⟩)
    hcell hkind hx ⟨hit, ht.at fun o e => up _ o e⟩ (fun b hb => ?_)
    (F.keeps up) (N.grown up) (Nat.ne_of_lt F.ns.lt) (next_is_new F) (fun p hp => Nat.ne_of_lt (Heap.lt_size (N p hp).1)) S (R _) ?_
  · show b < g.objs.size
    rw [hsz2]
    rcases List.mem_cons.mp hb with rfl | hb
    · exact Nat.lt_succ_self _
    · rw [List.mem_singleton.mp hb]; exact Nat.lt_succ_of_lt hlt
  · intro D C h tk m' ys news' F' N' o1 hn hC₀ hD₀ hCL hDL hCD offC fin
    refine ⟨m', hn, fun h'' hs'' => fin D h'' tk (F'.change hs'' hCL hC₀) (fun p hp => ⟨hs''.extBut _ _ ?_ (N' p hp).1, (N' p hp).2⟩) o1⟩
    rcases List.mem_cons.mp hp with rfl | hp
    · exact Ne.symm hCD
    · exact offC p hp
/-- a turn of a comprehension whose ledger changes -/
def EltEndN (h₀ : Heap) (L : Addr) (m : Str → Option Value) (s₁ : Shared) (I : Addr) (oI : Obj) (C : Addr) (oC : Obj) (D : Addr) (oD : Obj) (S Nw : List (Addr × Obj) → Prop) (Fy : Value → Prop) (y : Value) (s₂ : Shared) : Prop :=
  LCg.CompEnd h₀ L m s₁ I oI C oC D oD S (fun y news' => Nw news' ∧ Fy y) y s₂
theorem comp_restN {elt : PySem.Expr} {x : Str} {scope : Scope} {cl : List (Str × Addr)} {S : List (Addr × Obj) → Prop} {P : Nat → Value → Prop} {Fin : List Value → List (Addr × Obj) → Prop} {news : List (Addr × Obj)} {n : Nat} (Nw : Nat → List (Addr × Obj) → Prop) (Fy : Nat → Value → Prop) (h0 : Nw 0 news)
    (turn : ∀ i v I oI C oC D m₂ ys h tk (E' : Value → Shared → Prop) news, i < n → P i v → Nw i news → LCg.NsObj oC m₂ → m₂ x = some v → Fr h₀ L h m → News h₀ L h ((I, oI) :: (C, oC) :: (D, LCg.lst ys) :: news) → LCg.Off3 I C D news → ((@Ne Nat I C) ∧ (@Ne Nat I D) ∧ (@Ne Nat C D)) →
      wpAny (model prg w) A (eval elt (compEnvC scope cl C env)) (EltEndN h₀ L m { s with heap := h, toks := tk } I oI C oC D (LCg.lst ys) S (Nw (i + 1)) (Fy i)) E' { s with heap := h, toks := tk })
    (fin : ∀ ys news, ys.length = n → (∀ i y, ys[i]? = some y → Fy i y) → Nw n news → Fin ys news) : LCg.CompRest prg w A h₀ L m env elt x scope cl s S P Fin n 0 [] news := by
  have key : ∀ (j i : Nat) (ys : List Value) (news : List (Addr × Obj)), i + j = n → ys.length = i → Nw i news → (∀ i y, ys[i]? = some y → Fy i y) → LCg.CompRest prg w A h₀ L m env elt x scope cl s S P Fin j i ys news := by
    intro j
    induction j with
    | zero =>
      intro i ys nw hi hl hn hy
      obtain rfl : i = n := hi
      exact LCg.CompRest.zero (fin ys nw hl hy hn)
    | succ j ih =>
      intro i ys nw hi hl hn hy
      refine LCg.CompRest.succ ?_
      intro v I oI C oC D m₂ h tk E' hv hC hx F N off ne
      refine wpAny_mono (turn i v I oI C oC D m₂ ys h tk E' nw (lt_of_step (Nat.le_of_eq hi)) hv hn hC hx F N off ne) (fun y s₂ hq => ?_) fun _ _ e => e
      obtain ⟨h', tk', nw', e, F', N', off', hS, hn', hF⟩ := hq
      refine ⟨h', tk', nw', e, F', N', off', hS, ih (i + 1) _ _ ((Nat.add_right_comm i 1 j).trans hi) (by rw [List.length_append, hl]; rfl) hn' fun k u hk => snoc_at hl hy hF hk⟩
  exact key n 0 [] news (Nat.zero_add n) rfl h0 fun _ _ h => by simp at h
end
/-- a loop's turn has begun: the iterator has turned, the name is stored -/
theorem step_head {g h' g1 g2 : Heap} {L I : Addr} {m m2 : Str → Option Value} {news : List (Addr × Obj)} (F : Fr g L h' m) (N : News g L h' news) (hgI : g.get? I = none) (hnI : ∀ p ∈ news, @Ne Nat p.1 I) (hk : ∀ b o, b ∉ [I] → h'.get? b = some o → g1.get? b = some o) (hn2 : g2.Ns L m2) (hsb : Heap.SameBut L g1 g2) :
    Fr g L g2 m2 ∧ News g L g2 news := by
  have hL : g.get? L = none := Heap.get?_none_of_le F.above
  have up : ∀ b o, @Ne Nat b I → @Ne Nat b L → h'.get? b = some o → g2.get? b = some o := fun b o h1 h2 e => hsb.extBut b o h2 (hk b o (fun z => h1 (List.mem_singleton.mp z)) e)
  exact ⟨⟨hn2, fun b o e => up b o (fun z => by have z : b = I := z; rw [z, hgI] at e; cases e) (fun z => by have z : b = L := z; rw [z, hL] at e; cases e) (F.keep b o e), F.above⟩, fun p hp => ⟨up _ _ (hnI p hp) (N p hp).2.1 (N p hp).1, (N p hp).2⟩⟩
/-- a loop has ended: its iterator has turned -/
theorem loop_done {g h' g1 : Heap} {L I : Addr} {m : Str → Option Value} {news : List (Addr × Obj)} (F : Fr g L h' m) (N : News g L h' news) (hgI : g.get? I = none) (hIL : @Ne Nat L I) (hnI : ∀ p ∈ news, @Ne Nat p.1 I) (hk : ∀ b o, b ∉ [I] → h'.get? b = some o → g1.get? b = some o) :
    Fr g L g1 m ∧ News g L g1 news := by
  have up : ∀ b o, @Ne Nat b I → h'.get? b = some o → g1.get? b = some o := fun b o h1 e => hk b o (fun z => h1 (List.mem_singleton.mp z)) e
  exact ⟨⟨F.ns.at' fun o e => up _ o hIL e, fun b o e => up b o (fun z => by have z : b = I := z; rw [z, hgI] at e; cases e) (F.keep b o e), F.above⟩, fun p hp => ⟨up _ _ (hnI p hp) (N p hp).1, (N p hp).2⟩⟩
/-- the numbers asked at the law's end -/
abbrev nums6 : List Int := [10, 3, 0, 100, -2, 1]
/-- the names of the due loop -/
def dueM (base : Str → Option Value) (du : Addr) (nb : Option Value) (sp : Int) (ts : Tok) : Str → Option Value := fun y => if y = "number" then nb else if y = "spot" then some (.int sp ts) else if y = "due" then some (.ref du) else base y
theorem dueM_of {base m' : Str → Option Value} {du : Addr} {sp : Int} {ts : Tok} (hm : ∀ y : Str, y ≠ "number" → y ≠ "spot" → m' y = dueM base du none 0 0 y) (hs : m' "spot" = some (.int sp ts)) : m' = dueM base du (m' "number") sp ts := by
  funext y
  by_cases q : y = "number"
  · simp only [dueM, q, if_true]
  · by_cases q2 : y = "spot"
    · rw [q2, hs]; rfl
    · rw [hm y q q2]; simp only [dueM, if_neg q, if_neg q2]
theorem fr_due {g h : Heap} {L : Addr} {base m' : Str → Option Value} {du : Addr} {sp : Int} {ts : Tok} (F : Fr g L h m') (hm : ∀ y : Str, y ≠ "number" → y ≠ "spot" → m' y = dueM base du none 0 0 y) (hs : m' "spot" = some (.int sp ts)) : Fr g L h (dueM base du (m' "number") sp ts) := dueM_of hm hs ▸ F
/-- the due loop's state -/
def DueJ (g : Heap) (L : Addr) (base : Str → Option Value) (tn : List Int) (du T I : Addr) (oT : Obj) (rest : List (Addr × Obj)) (s : Shared) (i : Nat) (s' : Shared) : Prop :=
  ∃ (h' : Heap) (tk : Nat) (nb : Option Value) (ts : Tok) (ys : List Value) (c : Nat) (oI : Obj), s' = { s with heap := h', toks := tk } ∧ Fr g L h' (dueM base du nb (randEnd tn 0 (nums6.take i)) ts) ∧ News g L h' ((I, oI) :: (T, oT) :: (du, listOf ys.toArray c) :: rest) ∧
    IntsAre ys ((randAll tn 0 nums6).take i) ∧ oI.cls = .type "tuple_iterator" ∧ oI.data = .fields #[.ref T, .int i 0]
def DueEnd (g : Heap) (L : Addr) (base : Str → Option Value) (tn : List Int) (du T I : Addr) (oT : Obj) (rest : List (Addr × Obj)) (s : Shared) (i : Nat) (f : Flow) (s' : Shared) : Prop := f = .next ∧ DueJ g L base tn du T I oT rest s i s'
theorem DueEnd.intro {g h' : Heap} {L : Addr} {base m' : Str → Option Value} {tn : List Int} {du T I : Addr} {oT oI : Obj} {rest all : List (Addr × Obj)} {s : Shared} {i tk c : Nat} {sp : Int} {ts : Tok} {ys : List Value} (F : Fr g L h' m') (hm : ∀ y : Str, y ≠ "number" → y ≠ "spot" → m' y = dueM base du none 0 0 y) (hs : m' "spot" = some (.int sp ts))
    (e : sp = randEnd tn 0 (nums6.take i)) (N : News g L h' all) (sub : ∀ p ∈ (I, oI) :: (T, oT) :: (du, listOf ys.toArray c) :: rest, p ∈ all) (hi : IntsAre ys ((randAll tn 0 nums6).take i)) (hc : oI.cls = .type "tuple_iterator") (hd : oI.data = .fields #[.ref T, .int i 0]) :
    DueEnd g L base tn du T I oT rest s i .next { s with heap := h', toks := tk } := by
  refine ⟨rfl, h', tk, m' "number", ts, ys, c, oI, rfl, ?_, fun p hp => N p (sub p hp), hi, hc, hd⟩
  rw [← e, ← dueM_of hm hs]; exact F
theorem ints_snoc {ys : List Value} {ns : List Int} {n : Int} {t : Tok} (h : IntsAre ys ns) : IntsAre (ys ++ [.int n t]) (ns ++ [n]) := by
  induction h with
  | nil => exact .cons _ _ .nil
  | cons n t _ ih => exact .cons n t ih
theorem rand_none {sp n : Int} : randOf [] sp n = (0, sp) := rfl
theorem rand_back {tn : List Int} {sp n : Int} (h : ¬ (tn.length = 0)) (h2 : n ≤ 0) : randOf tn sp n = (tn.getD ((sp - 1).fmod tn.length).toNat 0, sp) := by rw [randOf, if_neg h, if_pos h2]
theorem rand_on {tn : List Int} {sp n : Int} (h : ¬ (tn.length = 0)) (h2 : ¬ n ≤ 0) : randOf tn sp n = ((tn.getD (sp.fmod tn.length).toNat 0).fmod n, sp + 1) := by rw [randOf, if_neg h, if_neg h2]
theorem due_next {tn : List Int} {i : Nat} {sp n : Int} {ys : List Value} {r : Int × Int} (t : Tok) (hn : nums6[i]? = some n) (hsp : sp = randEnd tn 0 (nums6.take i)) (hys : IntsAre ys ((randAll tn 0 nums6).take i)) (hr : randOf tn sp n = r) : IntsAre (ys ++ [.int r.1 t]) ((randAll tn 0 nums6).take (i + 1)) ∧ r.2 = randEnd tn 0 (nums6.take (i + 1)) := by
  rw [rand_all_take nums6 i 0 n hn, rand_end_take nums6 i 0 n hn, ← hsp, hr]
  exact ⟨ints_snoc hys, rfl⟩
theorem DueEnd.fin {g h' : Heap} {L : Addr} {base m' : Str → Option Value} {tn : List Int} {du T I : Addr} {oT oI : Obj} {rest : List (Addr × Obj)} {p0 : Addr × Obj} {s : Shared} {i tk c : Nat} {x sp : Int} {t ts : Tok} {ys : List Value} (F : Fr g L h' m') (hm : ∀ y : Str, y ≠ "number" → y ≠ "spot" → m' y = dueM base du none 0 0 y) (hs : m' "spot" = some (.int sp ts))
    (N : News g L h' (p0 :: (I, oI) :: (T, oT) :: (du, listOf (ys.toArray.push (.int x t)) c) :: rest)) (d : ∀ t, IntsAre (ys ++ [.int x t]) ((randAll tn 0 nums6).take i) ∧ sp = randEnd tn 0 (nums6.take i)) (hc : oI.cls = .type "tuple_iterator") (hd : oI.data = .fields #[.ref T, .int i 0]) :
    DueEnd g L base tn du T I oT rest s i .next { s with heap := h', toks := tk } :=
  DueEnd.intro (ys := ys ++ [.int x t]) (c := c) F hm hs (d 0).2 N (fun p hp => by rw [← List.push_toArray] at hp; exact .tail _ hp) (d t).1 hc hd
theorem rand_all_at {told : List Int} : ∀ (l : List Int) (i : Nat) (sp n : Int), l[i]? = some n → (randAll told sp l)[i]? = some (randOf told (randEnd told sp (l.take i)) n).1
  | [], _, _, _, h => by simp at h
  | a :: r, 0, sp, n, h => by
    simp at h; subst h
    simp [randEnd, randAll]
  | a :: r, i + 1, sp, n, h => by
    simp only [List.take_succ_cons, randEnd, randAll, List.getElem?_cons_succ]
    exact rand_all_at r i _ n (by simpa using h)
theorem News.keep1 {g h h' : Heap} {L a : Addr} {all r : List (Addr × Obj)} {p : Addr × Obj} (N : News g L h all) (kW : KeepW [a] h h') (hm : p ∈ all) (hne : @Ne Nat p.1 a) (R : News g L h' r) : News g L h' (p :: r) := fun q hq => by
  rcases List.mem_cons.mp hq with rfl | hq
  · exact ⟨kW _ _ (N _ hm).1 (nm_one hne), (N _ hm).2⟩
  · exact R q hq

section
variable {w : World} {loose : List Str} {mean : ExcName → Option Value} {mg mb : Str → Option Value} {b0 : Heap} {A : Around} {s : Shared} {R : Result → Shared → Prop}
/-- the numbers of a law's run -/
def someOf (ns : List Int) : List Int := (ns.take 14).map (fun n => if n < 0 then -n else n) ++ [(ns.length : Int) * 6 + 4, 3]
/-- the random numbers told -/
def toldOf (ns : List Int) : List Int := [((someOf ns).getD 0 0).fmod 90, 7, 31].take (((someOf ns).getD 0 0).fmod 4).toNat
theorem someOf_len (ns : List Int) : (someOf ns).length ≤ 16 := by
  unfold someOf
  rw [List.length_append, List.length_map]
  exact Nat.add_le_add_right (List.length_take_le 14 ns) 2
theorem toldOf_len (ns : List Int) : (toldOf ns).length ≤ 64 := by
  unfold toldOf
  exact Nat.le_trans (List.length_take_le' _ _) (show 3 ≤ 64 by decide)
theorem take_nums6 (i : Nat) : ((nums6.take i).length : Int) ≤ 6 := Int.ofNat_le.mpr (List.length_take_le' i nums6)
theorem law_spec (G : Gnd w loose mean mg mb b0) (H : At 30 b0 A [] s) {l : Addr} {vs : List Value} {ns : List Int} (hl : s.heap.IsList l vs.toArray) (hi : IntsAre vs ns) (hlen : ns.length ≤ 63) (hT : s.heap.get? 211 = some (tabObj #[])) (hb : b0.get? 211 = none)
    (k : ∀ h' tk dr ps, (∀ b o, s.heap.get? b = some o → b ≠ 211 → h'.get? b = some o) → h'.get? 211 = some (tabObj ps) → R (.ok (.ret (.bool true))) { s with heap := h', toks := tk, drawn := dr }) :
    codeAny (model prg w) A (.call (.ref 226) ⟨[.ref l], []⟩) R s := by
  obtain ⟨ps, hps⟩ : ∃ ps : Array Value, ps = #[] := ⟨_, rfl⟩
  rw [← hps] at hT
  have hN : ∀ p ∈ [(211, tabObj ps)], s.heap.get? p.1 = some p.2 ∧ b0.get? p.1 = none ∧ p.1 ∉ frs [] := List.forall_mem_singleton.mpr ⟨hT, hb, List.not_mem_nil⟩
  (refine' enterC (news := [(211, tabObj ps)]) G H ?kN ?k6 ?k7 ?k9 ?kB ?kD ?_ ?c2 ?c3 ?c4; (case kN => first | exact List.forall_mem_nil _ | assumption); (case k6 => k_is); (case k7 => k_is); (case k9 => exact BindsTo.of_eq rfl); (case kB => exact kindsX rfl); (case kD => decide); (case c2 => exact rfl); (case c3 => exact rfl); (case c4 => exact rfl); (try dsimp only))
  intro g L h1 tk0 cells hg hL F N Y B X T hrm hlt
  k_cells Y
  rename_i o1 d1
  simp only [List.cons_append, List.nil_append] at N
  replace d1 : o1.data = .cell none := d1
  replace F : Fr g L h1 (fun y => if y = "script" then some (.ref l) else none) := F
  replace hg : g = hideAll s.heap [211] := hg
  have hl211 : l ≠ 211 := fun z => by
    obtain ⟨o, e, q, _⟩ := hl
    rw [z, hT] at e; cases e; cases q
  have hvl := hi.length
  have hlT : g.IsList l vs.toArray := by
    obtain ⟨o, e, q⟩ := hl
    exact ⟨o, by rw [hg]; exact hideAll_get _ e (nm_one hl211), q⟩
  k_lt hlt
  have h211 : @LT.lt Nat _ 211 L := hL ▸ Heap.lt_size hT
  have n211 : @Ne Nat 211 (L + 1) := Nat.ne_of_lt (Nat.lt_succ_of_lt h211)
  clear h211
  walk_at "m_steps"
  show wpAny _ _ _ _ _ _
  refine LCg.ListComp_U (F₀ := F) (by with_unfolding_all rfl) (by decide) rfl (by decide) rfl ?_
  walk_at "m_steps"
  rename Fr g L _ _ => F1
  rename News g L _ _ => N1
  rename IntsAre _ (List.take 14 ns) => hi1
  rename (List.take 14 ns).length = min 14 ns.length => hc1
  have hw1 := hi1.length
  show LCg.CompSrc _ _ _ _ _ _ _ _ _ _ _ _ _ _
  refine LCg.CompSrc.ledger (Rm.dh hrm) F1 N1 (by k_mem) (by rw [List.size_toArray, hw1]; exact line_le (List.length_take_le 14 ns)) ?_
  intro g2
  refine comp_rest (fun i y => ∃ n t, ((ns.take 14).map fun n => if n < 0 then -n else n)[i]? = some n ∧ y = .int n t) (fun i v I1 oI1 C1 oC1 D1 m1 ys h tk E' hi' hv hC hx1 F2 N2 off ne => ?_) fun ys hly hy => ?_
  · obtain ⟨n, t9, rfl, hn⟩ := IntsAre.at hi1 i v (by simpa using hv)
    replace F2 : Fr g L h _ := F2
    replace N2 : News g L h _ := N2
    clear F1 N1
    walk_at "m_steps"
    exact EltEnd.intro (by assumption) (by assumption) (fun _ z => z) off (.inr ⟨_, by k_mem, rfl, _, rfl⟩) ⟨_, _, by rw [List.getElem?_map, hn]; rfl, rfl⟩
  · have hi2 : IntsAre ys ((ns.take 14).map fun n => if n < 0 then -n else n) := ints_all (by rw [hly, List.size_toArray, hw1, List.length_map]) hy
    have hyl := hi2.length
    rw [List.length_map] at hyl
    clear hly hy F1 N1
    unfold LCg.FinE
    intro D3 h3 tk3 F3 N3 o3
    walk_at "m_steps"
    rename Fr g L _ _ => F4
    rename News g L _ _ => N4
    rename_i so sv x1 hiS x2 x3 x4 x5 x6 x7 x8 x9 x10 tl tv x11 hiT x12 x13 x14 hE
    replace hiS : IntsAre sv (someOf ns) := by unfold someOf; exact hiS
    replace hiT : IntsAre tv (toldOf ns) := by unfold toldOf someOf; exact hiT
    have e1 : @LT.lt Nat _ (L + 1) so ∧ @LT.lt Nat _ 211 so ∧ @LT.lt Nat _ so tl ∧ @LT.lt Nat _ (L + 1) tl ∧ @LT.lt Nat _ 211 tl := by
      refine ⟨x2.2.2.2.1, x2.2.2.2.2, x14.2.1, x14.2.2.2.2.2.1, x14.2.2.2.2.2.2⟩
    refine foldG fun G9 hG9 => ?_
    obtain ⟨e11, e12, e13, e14, e15⟩ := e1
    refine hG9 ?_
    clear hG9 G9
    have N5 : News g L hE [(tl, listOf tv.toArray 0), (so, listOf sv.toArray 0), (L + 1, o1), (211, tabObj ps)] := News.one N4 (by k_mem) (News.one N4 (by k_mem) (News.one N4 (by k_mem) (News.one N4 (by k_mem) (News.nil'))))
    clear N4 x1 x2 x3 x4 x5 x6 x7 x8 x9 x10 x11 x12 x13 x14 hi1 hc1 hw1 hi2 hyl o3
    show wpAny _ _ _ _ _ _
    refine store_call (n := 20) G B (hrm.le) rfl F4 X N5 fun h5 tk5 st sd vd ad ov oa t1 t2 t3 t4 t5 F6 N6 D1 D2 n5 n6 => ?_
    obtain ⟨m1, m2, m3, m4⟩ := n6
    clear F4 N5
    walk_at "m_steps"
    rename Fr g L _ _ => F7
    rename News g L _ _ => N7
    rename_i kd y1 ok hok2 hok3 y2 y3 y4 y5 bd y6 ob hob2 hob3 y7 y8 y9 y10 D9 y11 y12 y13 y14 y15 o2 d2 y16 hE7
    have Dk : DictObj w kd ok [] := ⟨hok2, hok3⟩
    have Db : DictObj w bd ob [] := ⟨hob2, hob3⟩
    clear y1 y2 y3 y4 y6 y7 y8 y9 y11 y14 y15 y16 y12 y13
    show wpAny _ _ _ _ _ _
    refine For_loc rfl rfl ?_
    walk_at "m_steps"
    show wpAny _ _ _ _ _ _
    refine wpAny_pyIter_list (isList_get (N7.get (by k_mem : (so, listOf sv.toArray 0) ∈ _))) ?_
    obtain ⟨I, hI⟩ : ∃ I, I = hE7.objs.size := ⟨_, rfl⟩
    have lI : ∀ b o, hE7.get? b = some o → @LT.lt Nat _ b I := fun b o e => by rw [hI]; exact Heap.lt_size e
    have hLI : @LT.lt Nat _ L I := by rw [hI]; exact F7.ns.lt
    have F8 := F7.push { cls := .type "list_iterator", data := .fields #[.ref so, .int 0 0] }
    have N8 : News g L (hE7.push { cls := .type "list_iterator", data := .fields #[.ref so, .int 0 0] }) _ := News.kp N7 fun _ _ e => Heap.get?_push_of_some _ e
    have hIt : (hE7.push { cls := .type "list_iterator", data := .fields #[.ref so, .int 0 0] }).IsListIter I so 0 := ⟨_, by rw [hI]; exact Heap.get?_push_size _ rfl, rfl, rfl⟩
    have hgI : g.get? I = none := by
      cases q : g.get? I with
      | none => rfl
      | some o => exact absurd (lI _ _ (F7.keep _ _ q)) (Nat.lt_irrefl _)
    obtain ⟨base, hbase⟩ : ∃ base : Str → Option Value, base = fun y : Str => if y = "book" then some (.ref bd) else if y = "kept_now" then some (.ref kd) else if y = "told" then some (.ref tl) else if y = "some" then some (.ref so) else if y = "script" then some (.ref l) else none := ⟨_, rfl⟩
    have hb9 : (fun y : Str => if y = "number" then none else base y) = base := by
      funext y
      by_cases q : y = "number"
      · rw [if_pos q, q, hbase]; rfl
      · rw [if_neg q]
    have i1 := lI _ _ (N7.get (by k_mem : (kd, ok) ∈ _))
    have i2 := lI _ _ (N7.get (by k_mem : (bd, ob) ∈ _))
    have i3 := lI _ _ (N7.get (by k_mem : (vd, ov) ∈ _))
    have i4 := lI _ _ (N7.get (by k_mem : (ad, oa) ∈ _))
    have i5 := lI _ _ (N7.get (by k_mem : (st, instObj 107 sd) ∈ _))
    have i6 := lI _ _ (N7.get (by k_mem : (sd, storeDict w vd ad tl 0 t1 t2 t3 t4 t5) ∈ _))
    have i7 := lI _ _ (N7.get (by k_mem : (tl, listOf tv.toArray 0) ∈ _))
    have i8 := lI _ _ (N7.get (by k_mem : (so, listOf sv.toArray 0) ∈ _))
    have i9 := lI _ _ (N7.get (by k_mem : (L + 1, o2) ∈ _))
    have i0 := lI _ _ (N7.get (by k_mem : (211, tabObj ps) ∈ _))
    simp only [AllNe, and_true] at m1 m2 m3 m4
    have j1 : @Ne Nat vd L := (N7 _ (by k_mem : (vd, ov) ∈ _)).2.1
    have j2 : @Ne Nat ad L := (N7 _ (by k_mem : (ad, oa) ∈ _)).2.1
    have j3 : @Ne Nat st L := (N7 _ (by k_mem : (st, instObj 107 sd) ∈ _)).2.1
    have j4 : @Ne Nat sd L := (N7 _ (by k_mem : (sd, storeDict w vd ad tl 0 t1 t2 t3 t4 t5) ∈ _)).2.1
    have j5 : @Ne Nat kd L := (N7 _ (by k_mem : (kd, ok) ∈ _)).2.1
    have j6 : @Ne Nat bd L := (N7 _ (by k_mem : (bd, ob) ∈ _)).2.1
    have j7 : @Ne Nat tl L := (N7 _ (by k_mem : (tl, listOf tv.toArray 0) ∈ _)).2.1
    have hz := hiS.length
    have hsz : sv.length ≤ 16 := by rw [hz]; exact someOf_len ns
    rw [← hI]
    refine ⟨I, [I, so], [I], sv.toArray.size, _, _, LawJ w g L base (firstS st sd vd ad tl kd bd ps) so sv tv I s, rfl, Walks.list (Rm.dh hrm) I so (Nat.ne_of_lt i8) sv.toArray, ?_, ?_, ?_, ?_, ?_⟩
    · exact fun z => Nat.ne_of_lt hLI (List.mem_singleton.mp z)
    · rintro i s' ⟨h', tk, dr, nb, S, o1', rfl, F9, N9, d9, it9, -⟩
      exact ⟨⟨it9, isList_get (N9.get (.tail _ (.head _)))⟩, _, F9.ns⟩
    · refine ⟨_, _, _, none, firstS st sd vd ad tl kd bd ps, o2, rfl, by rw [hb9, hbase]; exact F8, News.one N8 (by k_mem) (News.one N8 (by k_mem) (News.one N8 (by k_mem) (News.nil'))), d2, hIt, first_ok (N8.get (by k_mem)) (N8.get (by k_mem)) (N8.get (by k_mem)) D1 (N8.get (by k_mem)) D2 (N8.get (by k_mem)) Dk (N8.get (by k_mem)) Db (N8.get (by k_mem : (tl, listOf tv.toArray 0) ∈ _)) (N8.get (by k_mem)) (tab_empty hps) ?_ ?_ ?_, ⟨rfl, rfl, rfl, rfl, rfl, rfl, rfl, rfl⟩, ?_, ?_, fun _ z => nomatch z⟩
      · repeat (rename _ ∧ _ => hcj; obtain ⟨hcj1, hcj2⟩ := hcj)
        refine ⟨?_, ?_, ?_, ?_, ?_, ?_⟩ <;> walk_at "m_ne"
      · repeat (rename _ ∧ _ => hcj; obtain ⟨hcj1, hcj2⟩ := hcj)
        refine ⟨?_, ?_, ?_, ?_⟩ <;> walk_at "m_ne"
      · repeat (rename _ ∧ _ => hcj; obtain ⟨hcj1, hcj2⟩ := hcj)
        refine (List.forall_mem_cons.mpr ⟨?_, List.forall_mem_cons.mpr ⟨?_, List.forall_mem_cons.mpr ⟨?_, List.forall_mem_nil _⟩⟩⟩) <;> refine (List.forall_mem_cons.mpr ⟨?_, List.forall_mem_cons.mpr ⟨?_, List.forall_mem_cons.mpr ⟨?_, List.forall_mem_cons.mpr ⟨?_, List.forall_mem_cons.mpr ⟨?_, List.forall_mem_nil _⟩⟩⟩⟩⟩) <;> walk_at "m_ne"
      · repeat (rename _ ∧ _ => hcj; obtain ⟨hcj1, hcj2⟩ := hcj)
        show ∀ a ∈ [vd, kd, ad, bd, 211, st, sd, tl], _
        refine (List.forall_mem_cons.mpr ⟨?_, List.forall_mem_cons.mpr ⟨?_, List.forall_mem_cons.mpr ⟨?_, List.forall_mem_cons.mpr ⟨?_, List.forall_mem_cons.mpr ⟨?_, List.forall_mem_cons.mpr ⟨?_, List.forall_mem_cons.mpr ⟨?_, List.forall_mem_cons.mpr ⟨?_, List.forall_mem_nil _⟩⟩⟩⟩⟩⟩⟩⟩) <;> refine ⟨?_, ?_, ?_, ?_⟩ <;> walk_at "m_ne"
      · show ∀ a ∈ [vd, kd, ad, bd, 211], _
        exact (List.forall_mem_cons.mpr ⟨(N7 _ (by k_mem : (vd, ov) ∈ _)).2.2, List.forall_mem_cons.mpr ⟨(N7 _ (by k_mem : (kd, ok) ∈ _)).2.2, List.forall_mem_cons.mpr ⟨(N7 _ (by k_mem : (ad, oa) ∈ _)).2.2, List.forall_mem_cons.mpr ⟨(N7 _ (by k_mem : (bd, ob) ∈ _)).2.2, List.forall_mem_cons.mpr ⟨(N7 _ (by k_mem : (211, tabObj ps) ∈ _)).2.2, List.forall_mem_nil _⟩⟩⟩⟩⟩)
    · intro i v s' g1 tk1 g2 m hi hJ hv hst1 hk1 hm hn2 hs2
      refine foldG fun G9 hG9 => ?_
      obtain ⟨h', tk, dr, nb, S, o1', rfl, F9, N9, d9, it9, O9, core, ne9, hid9, ld9⟩ := hJ
      obtain rfl := ns_unique hm F9.ns
      obtain ⟨n, t, rfl, hn⟩ := IntsAre.at hiS i v (by simpa using hv)
      refine hG9 ?_
      clear hG9 G9
      have hi16 : i < 16 := by rw [List.size_toArray] at hi; exact Nat.lt_of_lt_of_le hi hsz
      obtain ⟨F10, N10, O10⟩ := law_head F9 N9 it9 hgI (List.forall_mem_cons.mpr ⟨Nat.ne_of_lt i7, List.forall_mem_cons.mpr ⟨Nat.ne_of_lt i8, List.forall_mem_cons.mpr ⟨Nat.ne_of_lt i9, List.forall_mem_nil _⟩⟩⟩) hk1 hn2 hs2 O9 fun a ha => ⟨(ne9 a ha).1, (ne9 a ha).2.2.2⟩
      clear F9 N9 O9 hm it9
      have hid0 : ∀ a ∈ S.muts, b0.get? a = none := fun a ha => by
        cases q : b0.get? a with
        | none => rfl
        | some o => have := B.stays a o q; rw [hid9 a ha] at this; cases this
      rw [hbase] at F10
      replace F10 : Fr g L g2 (fun y : Str => if y = "number" then some (.int n t) else if y = "number" then nb else if y = "book" then some (.ref bd) else if y = "kept_now" then some (.ref kd) else if y = "told" then some (.ref tl) else if y = "some" then some (.ref so) else if y = "script" then some (.ref l) else none) := F10
      replace N10 : News g L g2 [(tl, listOf tv.toArray 0), (so, listOf sv.toArray 0), (L + 1, o1')] := N10
      replace d9 : o1'.data = .cell (some (.ref st)) := d9
      clear F7 N7 F8 N8 d2 lI
      show wpAny _ _ _ (fun f s₃ => LawEnd w g L base (firstS st sd vd ad tl kd bd ps) so sv tv I s (i + 1) f s₃) noRaise { s with heap := g2, toks := tk1, drawn := dr }
      walk_at "m_steps"
      refine foldG fun G9 hG9 => ?_
      obtain ⟨c1, c2, c3, c4, c5, c6, c7, c8⟩ := core
      refine hG9 ?_
      clear hG9 G9
      have hLm : L ∉ S.muts := fun z => (ne9 L (List.mem_append_left _ z)).1 rfl
      have hnm : ∀ p ∈ [(tl, listOf tv.toArray 0), (so, listOf sv.toArray 0), (L + 1, o1')], p.1 ∉ S.muts := (List.forall_mem_cons.mpr ⟨fun z => O10.frozen S.rd (.tail _ (.tail _ (.head _))) (by rw [c5]; exact z), List.forall_mem_cons.mpr ⟨fun z => (ne9 _ (List.mem_append_left _ z)).2.2.1 rfl, List.forall_mem_cons.mpr ⟨fun z => (ne9 _ (List.mem_append_left _ z)).2.1 rfl, List.forall_mem_nil _⟩⟩⟩)
      show wpAny _ _ _ _ _ _
      refine wpAny_call (codeAny_args (a' := ⟨[.ref S.st, .ref S.kd, .ref S.bd, .int n t], []⟩) (by rw [c1, c6, c7]) (law_deed_spec G (at_in B F10 (Rm.le hrm)) O10 hid0 (fun a ha z => (ne9 a ha).1 (List.mem_singleton.mp z)) (fun p hp => Nat.le_trans (ld9 p hp) (Nat.le_trans (Nat.le_of_lt hi16) (by decide))) fun h12 tk12 S' D => ?_))
      refine foldG fun G9 hG9 => ?_
      obtain ⟨F12, N12, hid12, hne12⟩ := law_led D F10 N10 hid9 hLm hnm
      obtain ⟨oI, eI, fI⟩ := hst1.1
      have eI2 : g2.get? I = some oI := hs2.extBut I oI (Nat.ne_of_gt hLI) eI
      have nI : I ∉ S.muts ++ S.imms := fun z => (ne9 I z).2.2.2 rfl
      have hne13 : ∀ a ∈ S'.muts ++ S'.imms, @Ne Nat a L ∧ @Ne Nat a (L + 1) ∧ @Ne Nat a so ∧ @Ne Nat a I := fun a ha => by
        obtain ⟨oL, _, _, eL, _⟩ := F10.ns
        exact ⟨hne12 L oL eL (fun z => (ne9 L z).1 rfl) a ha, hne12 (L + 1) _ (N10 _ (.tail _ (.tail _ (.head _)))).1 (fun z => (ne9 _ z).2.1 rfl) a ha, hne12 so _ (N10 _ (.tail _ (.head _))).1 (fun z => (ne9 _ z).2.2.1 rfl) a ha, hne12 I _ eI2 nI a ha⟩
      have eI12 : h12.get? I = some oI := D.kept.same I oI eI2 (fun z => nI (List.mem_append_left _ z)) (fun z => Nat.ne_of_gt hLI (List.mem_singleton.mp z))
      have O12 := D.ok
      have ld12 : ∀ p ∈ S'.as, p.2.wr.length ≤ i + 1 := D.load i ld9
      obtain ⟨g1', g2', g3', g4', g5', g6', g7', g8'⟩ := D.core
      refine hG9 ?_
      clear hG9 G9
      clear N10 F10
      walk_at "m_steps"
      show wpAny _ _ _ _ _ _
      refine wpAny_call (codeAny_args (a' := ⟨[.ref S'.st, .ref S'.kd, .ref S'.bd], []⟩) (by rw [g1', g6', g7', c1, c6, c7]) (law_right_spec G (at_in B F12 (Rm.le hrm)) O12 (fun p hp => Nat.le_trans (ld12 p hp) (Nat.le_trans hi16 (by decide))) fun h13 tk13 dr13 hk13 => ?_))
      have F13 := Fr.kp F12 hk13
      have N13 := News.kp N12 hk13
      have O13 : S'.Ok w h13 := O12.all (fun b _ o e => hk13 b o e) (O12.tab.2.ups fun b o e => ⟨o.slots, hk13 b o e⟩)
      clear F12 N12
      walk_at "m_steps"
      refine And.intro rfl ⟨_, _, _, some (.int n t), S', o1', rfl, ?_, N13, d9, ⟨oI, hk13 _ _ eI12, fI⟩, O13, ⟨g1'.trans c1, g2'.trans c2, g3'.trans c3, g4'.trans c4, g5'.trans c5, g6'.trans c6, g7'.trans c7, g8'.trans c8⟩, hne13, hid12, ld12⟩
      have hfr : (fun y : Str => if y = "number" then some (Value.int n t) else base y) = fun y : Str => if y = "number" then some (Value.int n t) else if y = "number" then nb else if y = "book" then some (.ref bd) else if y = "kept_now" then some (.ref kd) else if y = "told" then some (.ref tl) else if y = "some" then some (.ref so) else if y = "script" then some (.ref l) else none := by
        funext y
        by_cases q : y = "number"
        · simp only [if_pos q]
        · simp only [if_neg q]; rw [hbase]
      rw [hfr]
      exact F13
    · intro s' g1 tk1 hJ hk1
      refine foldG fun G9 hG9 => ?_
      obtain ⟨h', tk, dr, nb, S, o1', rfl, F9, N9, d9, it9, O9, core, ne9, hid9, ld9⟩ := hJ
      obtain ⟨c1, c2, c3, c4, c5, c6, c7, c8⟩ := core
      have up : ∀ b o, @Ne Nat b I → h'.get? b = some o → g1.get? b = some o := fun b o h1 e => hk1 b o (fun z => h1 (List.mem_singleton.mp z)) e
      have F10 : Fr g L g1 (fun y => if y = "number" then nb else base y) := ⟨F9.ns.at' fun o e => up _ o (Nat.ne_of_lt hLI) e, fun b o e => up b o (fun z => by have z : b = I := z; rw [z, hgI] at e; cases e) (F9.keep b o e), F9.above⟩
      have N10 : News g L g1 [(tl, listOf tv.toArray 0), (so, listOf sv.toArray 0), (L + 1, o1')] := News.put ⟨up _ _ (Nat.ne_of_lt i7) (N9 _ (.head _)).1, (N9 _ (.head _)).2⟩ (News.put ⟨up _ _ (Nat.ne_of_lt i8) (N9 _ (.tail _ (.head _))).1, (N9 _ (.tail _ (.head _))).2⟩ (News.put ⟨up _ _ (Nat.ne_of_lt i9) (N9 _ (.tail _ (.tail _ (.head _)))).1, (N9 _ (.tail _ (.tail _ (.head _)))).2⟩ News.nil'))
      have hst8 := O9.st
      rw [c1, c2] at hst8
      have hst9 : g1.get? st = some (instObj 107 sd) := up _ _ (Nat.ne_of_lt i5) hst8
      obtain ⟨u1, u2, u3, u4, u5, hsd9⟩ := O9.sd
      refine hG9 ?_
      clear hG9 G9
      rw [c2, c3, c4, c5, c8] at hsd9
      have hsd9 : g1.get? sd = some (storeDict w vd ad tl 0 u1 u2 u3 u4 u5) := up _ _ (Nat.ne_of_lt i6) hsd9
      have h211 := up _ _ (Nat.ne_of_lt i0) O9.tab.1
      have N11 : News g L g1 [(tl, listOf tv.toArray 0), (st, instObj 107 sd), (sd, storeDict w vd ad tl 0 u1 u2 u3 u4 u5), (L + 1, o1'), (211, tabObj S.ps)] := News.one N10 (.head _) (News.put ⟨hst9, j3, (N7 _ (by k_mem : (st, instObj 107 sd) ∈ _)).2.2⟩ (News.put ⟨hsd9, j4, (N7 _ (by k_mem : (sd, storeDict w vd ad tl 0 t1 t2 t3 t4 t5) ∈ _)).2.2⟩ (News.one N10 (.tail _ (.tail _ (.head _))) (News.put ⟨h211, (N7 _ (by k_mem : (211, tabObj ps) ∈ _)).2.1, (N7 _ (by k_mem : (211, tabObj ps) ∈ _)).2.2⟩ News.nil'))))
      replace d9 : o1'.data = .cell (some (.ref st)) := d9
      rw [hbase] at F10
      replace F10 : Fr g L g1 (fun y : Str => if y = "number" then nb else if y = "book" then some (.ref bd) else if y = "kept_now" then some (.ref kd) else if y = "told" then some (.ref tl) else if y = "some" then some (.ref so) else if y = "script" then some (.ref l) else none) := F10
      clear F9 N9 O9 it9 N10 F7 N7 F8 N8 lI hk1 up d2
      have hlT3 : (toldOf ns).length ≤ 64 := toldOf_len ns
      generalize toldOf ns = tn at hiT hlT3
      have hlT2 := hiT.length
      have hlT4 : tv.length ≤ 100000 := by rw [hlT2]; exact Nat.le_trans hlT3 (by decide)
      clear hiS hz hsz
      show wpAny _ _ _ _ _ _
      walk_at "m_steps"
      rename Fr g L _ _ => F12
      rename News g L _ _ => N12
      rename_i du _ lA1 l1 D2 _ _ _ _ _ h12
      show wpAny _ _ _ _ _ _
      refine For_loc rfl rfl ?_
      walk_at "m_steps"
      rename Fr g L _ _ => F13
      rename News g L _ _ => N13
      rename_i T2 h13 lA13 l13
      obtain ⟨v6, hv6⟩ : ∃ v6 : List Value, v6 = [Value.int 10 tk, Value.int 3 (tk + 1), Value.int 0 (tk + 1 + 1), Value.int 100 (tk + 1 + 1 + 1), Value.int (0 - 2) (tk + 1 + 1 + 1 + 1 + 1 + 1), Value.int 1 (tk + 1 + 1 + 1 + 1 + 1 + 1 + 1)] := ⟨_, rfl⟩
      have hi6 : IntsAre v6 nums6 := by
        rw [hv6, show (0 - 2 : Int) = -2 from rfl]
        exact .cons 10 _ (.cons 3 _ (.cons 0 _ (.cons 100 _ (.cons (-2) _ (.cons 1 _ .nil)))))
      have N14 : News g L h13 [(T2, tupObj v6), (du, listOf #[] 0), (tl, listOf tv.toArray 0), (st, instObj 107 sd), (sd, storeDict w vd ad tl 0 u1 u2 u3 u4 u5), (L + 1, o1'), (211, tabObj S.ps)] := by
        rw [hv6]
        exact News.one N13 (by k_mem) (News.one N13 (by k_mem) (News.one N13 (by k_mem) (News.one N13 (by k_mem) (News.one N13 (by k_mem) (News.one N13 (by k_mem) (News.one N13 (by k_mem) (News.nil')))))))
      clear N13 hv6
      show wpAny _ _ _ _ _ _
      refine wpAny_pyIter_tuple ⟨_, N14.get (.head _), rfl, _, rfl⟩ ?_
      obtain ⟨I2, hI2⟩ : ∃ I2, I2 = h13.objs.size := ⟨_, rfl⟩
      have lI2 : ∀ b o, h13.get? b = some o → @LT.lt Nat _ b I2 := fun b o e => by rw [hI2]; exact Heap.lt_size e
      have hLI2 : @LT.lt Nat _ L I2 := by rw [hI2]; exact F13.ns.lt
      have hgI2 : g.get? I2 = none := by rw [hI2]; exact next_is_new F13
      have hn14 : ∀ p ∈ [(T2, tupObj v6), (du, listOf #[] 0), (tl, listOf tv.toArray 0), (st, instObj 107 sd), (sd, storeDict w vd ad tl 0 u1 u2 u3 u4 u5), (L + 1, o1'), (211, tabObj S.ps)], @Ne Nat p.1 I2 := fun p hp => Nat.ne_of_lt (lI2 _ _ (N14 p hp).1)
      have z1 := hn14 _ (by k_mem : (T2, _) ∈ _)
      have z2 := hn14 _ (by k_mem : (du, _) ∈ _)
      have z3 := hn14 _ (by k_mem : (tl, _) ∈ _)
      have z4 := hn14 _ (by k_mem : (st, _) ∈ _)
      have z5 := hn14 _ (by k_mem : (sd, _) ∈ _)
      have z6 := hn14 _ (by k_mem : (L + 1, _) ∈ _)
      have z7 := hn14 _ (by k_mem : (211, _) ∈ _)
      obtain ⟨h14, hh14⟩ : ∃ h14, h14 = h13.push { cls := .type "tuple_iterator", data := .fields #[.ref T2, .int 0 0] } := ⟨_, rfl⟩
      have up14 : ∀ b o, h13.get? b = some o → h14.get? b = some o := fun b o e => by rw [hh14]; exact Heap.get?_push_of_some _ e
      have eI0 : h14.get? I2 = some { cls := .type "tuple_iterator", data := .fields #[.ref T2, .int 0 0] } := by rw [hh14, hI2]; exact Heap.get?_push_size _ rfl
      have F15 := Fr.kp F13 up14
      have N15 := News.kp N14 up14
      rw [← hI2, ← hh14]
      refine ⟨I2, [I2, T2], [I2], v6.toArray.size, _, _, DueJ g L base tn du T2 I2 (tupObj v6) [(tl, listOf tv.toArray 0), (st, instObj 107 sd), (sd, storeDict w vd ad tl 0 u1 u2 u3 u4 u5), (L + 1, o1'), (211, tabObj S.ps)] { s with drawn := dr }, rfl, Walks.tuple (Rm.dh hrm) I2 T2 z1 v6.toArray, ?_, ?_, ?_, ?_, ?_⟩
      · exact fun z => Nat.ne_of_lt hLI2 (List.mem_singleton.mp z)
      · rintro i s' ⟨h', tk, nb, ts, ys, c, oI, rfl, F9, N9, hys, cI, dI⟩
        exact ⟨⟨⟨_, N9.get (.head _), cI, dI⟩, ⟨_, N9.get (.tail _ (.head _)), rfl, _, rfl⟩⟩, _, F9.ns⟩
      · refine ⟨h14, _, _, tk1, [], 0, { cls := .type "tuple_iterator", data := .fields #[.ref T2, .int 0 0] }, rfl, fr_due (base := base) (du := du) (sp := 0) (ts := tk1) F15 (fun y h1 h2 => ?_) ?_, fun p hp => ?_, .nil, rfl, rfl⟩
        · simp only [dueM, if_neg h1, if_neg h2]
          rw [hbase]
        · rfl
        · rcases List.mem_cons.mp hp with rfl | hp
          · exact ⟨eI0, Nat.ne_of_gt hLI2, hgI2⟩
          · exact N15 p hp
      · intro i v s' g2 tk2 g3 m hi hJ hv hst2 hk2 hm hn3 hs3
        refine foldG fun G9 hG9 => ?_
        obtain ⟨h', tk9, nb9, ts, ys, c, oI9, rfl, F16, N16, hys, -, -⟩ := hJ
        obtain rfl := ns_unique hm F16.ns
        obtain ⟨n, t, rfl, hn⟩ := IntsAre.at hi6 i v (by simpa using hv)
        refine hG9 ?_
        clear hG9 G9
        have hi6' : i < 6 := by
          rw [List.size_toArray, hi6.length] at hi; exact hi
        refine foldG fun G9 hG9 => ?_
        obtain ⟨F17, N17⟩ := step_head F16 (fun p hp => N16 p (.tail _ hp)) hgI2 (List.forall_mem_cons.mpr ⟨z1, List.forall_mem_cons.mpr ⟨z2, List.forall_mem_cons.mpr ⟨z3, List.forall_mem_cons.mpr ⟨z4, List.forall_mem_cons.mpr ⟨z5, List.forall_mem_cons.mpr ⟨z6, List.forall_mem_cons.mpr ⟨z7, List.forall_mem_nil _⟩⟩⟩⟩⟩⟩⟩) hk2 hn3 hs3
        obtain ⟨oI, eI, cI, dI⟩ := hst2.1
        have eI2 : g3.get? I2 = some oI := hs3.extBut I2 oI (Nat.ne_of_gt hLI2) eI
        have N18 : News g L g3 [(I2, oI), (T2, tupObj v6), (du, listOf ys.toArray c), (tl, listOf tv.toArray 0), (st, instObj 107 sd), (sd, storeDict w vd ad tl 0 u1 u2 u3 u4 u5), (L + 1, o1'), (211, tabObj S.ps)] := fun p hp => by
          rcases List.mem_cons.mp hp with rfl | hp
          · exact ⟨eI2, Nat.ne_of_gt hLI2, hgI2⟩
          · exact N17 p hp
        clear N17 N16 F16 hm hs3 hn3 hk2 hst2 eI eI2 N14 N15 F13 F15 lI2 up14 eI0 hn14
        have hsp9 := rand_end_near (told := tn) (nums6.take i) 0 (Int.le_refl _)
        have hsp8 := take_nums6 i
        obtain ⟨sp, hsp⟩ : ∃ sp, sp = randEnd tn 0 (nums6.take i) := ⟨_, rfl⟩
        refine hG9 ?_
        clear hG9 G9
        rw [← hsp] at F17 hsp9
        rw [hbase] at F17
        replace F17 : Fr g L g3 (fun y : Str => if y = "number" then some (.int n t) else if y = "number" then nb9 else if y = "spot" then some (.int sp ts) else if y = "due" then some (.ref du) else if y = "book" then some (.ref bd) else if y = "kept_now" then some (.ref kd) else if y = "told" then some (.ref tl) else if y = "some" then some (.ref so) else if y = "script" then some (.ref l) else none) := F17
        have hyl := hys.length
        have hyl2 : ((randAll tn 0 nums6).take i).length ≤ 6 := Nat.le_trans (List.length_take_le' _ _) (Nat.le_of_eq (rand_all_len nums6 0))
        have hnx : nums6[i]? = some n := hn
        show wpAny _ _ _ (fun f s₃ => DueEnd g L base tn du T2 I2 (tupObj v6) [(tl, listOf tv.toArray 0), (st, instObj 107 sd), (sd, storeDict w vd ad tl 0 u1 u2 u3 u4 u5), (L + 1, o1'), (211, tabObj S.ps)] { s with drawn := dr } (i + 1) f s₃) noRaise { s with heap := g3, toks := tk2, drawn := dr }
        walk_at "m_steps"
        rename Fr g L _ _ => F19
        rename News g L _ _ => N19
        rename_i D4 h15 lA15 l15
        show wpAny _ _ _ _ _ _
        refine ke_eq_ints (isList_get (N19.get (by k_mem) : _ = some (listOf tv.toArray 0))) (isList_get (N19.get (.head _) : _ = some (listOf ([] : List Value).toArray 0))) hiT .nil (Rm.clear64 hrm) ?_
        by_cases q : tn = []
        · rw [decide_eq_true q]
          have hr : randOf tn sp n = (0, sp) := by rw [q]; rfl
          clear q
          walk_at "m_steps"
          show wpAny _ _ (call (Value.builtin "list.append") [Value.ref du, Value.int 0 tk2]) _ _ _
          walk_at "m_steps"
          rename Fr g L _ _ => F20
          rename News g L _ _ => N20
          have d1 := fun t => due_next t hnx hsp hys hr
          exact DueEnd.fin F20 (fun y h1 h2 => by simp only [dueM, if_neg h1, if_neg h2]; rw [hbase]) rfl N20 d1 cI dI
        · rw [decide_eq_false q]
          have q0 : ¬ tn.length = 0 := fun z => q (List.length_eq_zero_iff.mp z)
          have hpos : 0 < tn.length := Nat.pos_of_ne_zero q0
          walk_at "m_steps"
          · rename Fr g L _ _ => F20
            rename News g L _ _ => N20
            rename n ≤ 0 => hle
            have d1 := fun t => due_next t hnx hsp hys (rand_back q0 hle)
            rw [← hlT2] at d1
            exact DueEnd.fin F20 (fun y h1 h2 => by simp only [dueM, if_neg h1, if_neg h2]; rw [hbase]) rfl N20 d1 cI dI
          · rename Fr g L _ _ => F20
            rename News g L _ _ => N20
            rename ¬ n ≤ 0 => hle
            have d1 := fun t => due_next t hnx hsp hys (rand_on q0 hle)
            rw [← hlT2] at d1
            exact DueEnd.fin F20 (fun y h1 h2 => by simp only [dueM, if_neg h1, if_neg h2]; rw [hbase]) rfl N20 d1 cI dI
      · intro s' g2 tk2 hJ hk2
        refine foldG fun G9 hG9 => ?_
        obtain ⟨h', tk9, nb9, ts, ys, c, oI9, rfl, F16, N16, hys, -, -⟩ := hJ
        obtain ⟨F17, N17⟩ := loop_done F16 (fun p hp => N16 p (.tail _ hp)) hgI2 (Nat.ne_of_lt hLI2) (List.forall_mem_cons.mpr ⟨z1, List.forall_mem_cons.mpr ⟨z2, List.forall_mem_cons.mpr ⟨z3, List.forall_mem_cons.mpr ⟨z4, List.forall_mem_cons.mpr ⟨z5, List.forall_mem_cons.mpr ⟨z6, List.forall_mem_cons.mpr ⟨z7, List.forall_mem_nil _⟩⟩⟩⟩⟩⟩⟩) hk2
        refine hG9 ?_
        clear hG9 G9
        have hv6l : v6.toArray.size = 6 := by rw [List.size_toArray]; exact hi6.length
        rw [hv6l] at F17 hys
        have hys6 : IntsAre ys (randAll tn 0 nums6) := by
          rw [List.take_of_length_le (by rw [rand_all_len]; exact Nat.le_refl _)] at hys
          exact hys
        rw [hbase] at F17
        replace F17 : Fr g L g2 (fun y : Str => if y = "number" then nb9 else if y = "spot" then some (.int (randEnd tn 0 (nums6.take 6)) ts) else if y = "due" then some (.ref du) else if y = "book" then some (.ref bd) else if y = "kept_now" then some (.ref kd) else if y = "told" then some (.ref tl) else if y = "some" then some (.ref so) else if y = "script" then some (.ref l) else none) := F17
        replace N17 : News g L g2 [(T2, tupObj v6), (du, listOf ys.toArray c), (tl, listOf tv.toArray 0), (st, instObj 107 sd), (sd, storeDict w vd ad tl 0 u1 u2 u3 u4 u5), (L + 1, o1'), (211, tabObj S.ps)] := N17
        clear F16 N16 N14 N15 F13 F15 lI2 up14 eI0 hn14 hk2 hys
        show wpAny _ _ _ _ _ _
        walk_at "m_steps"
        show wpAny _ _ _ _ _ _
        refine ListComp_tup F17 (by with_unfolding_all rfl) (by decide) rfl (by decide) rfl ?_
        walk_at "m_steps"
        rename Fr g L _ _ => F21
        rename News g L _ _ => N21
        rename_i T3 h21 lA21 l21
        obtain ⟨v7, hv7⟩ : ∃ v7 : List Value, v7 = [Value.int 10 tk2, Value.int 3 (tk2 + 1), Value.int 0 (tk2 + 1 + 1), Value.int 100 (tk2 + 1 + 1 + 1), Value.int (0 - 2) (tk2 + 1 + 1 + 1 + 1 + 1 + 1), Value.int 1 (tk2 + 1 + 1 + 1 + 1 + 1 + 1 + 1)] := ⟨_, rfl⟩
        have hi7 : IntsAre v7 nums6 := by
          rw [hv7, show (0 - 2 : Int) = -2 from rfl]
          exact .cons 10 _ (.cons 3 _ (.cons 0 _ (.cons 100 _ (.cons (-2) _ (.cons 1 _ .nil)))))
        have hv7l : v7.toArray.size = 6 := by rw [List.size_toArray]; exact hi7.length
        rw [← hv7] at N21
        have hsdg := (N21 _ (by k_mem : (sd, storeDict w vd ad tl 0 u1 u2 u3 u4 u5) ∈ _)).2
        have N22 : News g L h21 [(T3, tupObj v7), (du, listOf ys.toArray c), (tl, listOf tv.toArray 0), (st, instObj 107 sd), (sd, storeDict w vd ad tl 0 u1 u2 u3 u4 u5), (L + 1, o1'), (211, tabObj S.ps)] := fun p hp => N21 p (by
          rcases List.mem_cons.mp hp with rfl | hp
          · exact .head _
          · exact .tail _ (.tail _ hp))
        clear N21 hv7
        show TupSrc _ _ _ _ _ _ _ _ _ _ _ _ _
        refine ⟨T3, v7.toArray, _, rfl, Rm.dh hrm, F21, N22, ⟨_, .head _, rfl, _, rfl⟩, by rw [hv7l, sizeLine_eq]; decide, fun g23 => ?_⟩
        have hsd0 : b0.get? sd = none := by
          cases q : b0.get? sd with
          | none => rfl
          | some o => have := B.stays sd o q; rw [hsdg.2] at this; cases this
        refine foldG fun G9 hG9 => ?_
        obtain ⟨-, -, -, -, -, hst9d⟩ := n5
        refine hG9 ?_
        clear hG9 G9
        rw [hv7l]
        refine comp_restN (fun i news => ∃ u6, news = [(T3, tupObj v7), (du, listOf ys.toArray c), (tl, listOf tv.toArray 0), (st, instObj 107 sd), (sd, storeDict w vd ad tl (randEnd tn 0 (nums6.take i)) u1 u2 u3 u4 u6), (L + 1, o1'), (211, tabObj S.ps)]) (fun i y => ∃ n t, (randAll tn 0 nums6)[i]? = some n ∧ y = .int n t) ⟨u5, rfl⟩ (fun i v I1 oI1 C1 oC1 D1 m1 ys1 h tk E' news hi' hv hnw hC hx1 F23 N23 off ne => ?_) fun ys1 news hl1 hy1 hnw => ?_
        · obtain ⟨u6, rfl⟩ := hnw
          obtain ⟨n, t, rfl, hn⟩ := IntsAre.at hi7 i v (by simpa using hv)
          replace F23 : Fr g L h _ := F23
          replace N23 : News g L h _ := N23
          clear F21 N22
          walk_at "m_steps"
          have hsp9 := rand_end_near (told := tn) (nums6.take i) 0 (Int.le_refl _)
          have hsp8 := take_nums6 i
          have zsd := (LCg.Off3.mem off (sd, _) (by k_mem))
          have zs1 : @Ne Nat T3 sd := Nat.ne_of_gt l21.2.2.2.2.1
          have zs2 : @Ne Nat du sd := Nat.ne_of_gt l1.2.2.1
          have zs3 : @Ne Nat I1 sd := Ne.symm zsd.1
          have zs4 : @Ne Nat C1 sd := Ne.symm zsd.2.1
          have zs5 : @Ne Nat D1 sd := Ne.symm zsd.2.2
          show wpAny _ _ _ _ _ _
          refine wpAny_call (random_spec (t := t) G (at_in B F23 (Rm.le hrm)) (N23.get (by k_mem)) (N23.get (by k_mem)) (N23.get (by k_mem) : _ = some (listOf tv.toArray 0)) hiT hsd0 (nf_cons hsdg.1 List.not_mem_nil) ⟨Ne.symm hst9d, Ne.symm m4.1⟩ hlT3 ⟨hsp9.1, Int.le_trans hsp9.2 (Int.le_trans (by rw [Int.zero_add]; exact hsp8) (by decide))⟩ fun h24 tk24 t24 u24 kW e24 => ?_)
          have F24 : Fr g L h24 _ := Fr.kpW F23 kW (List.forall_mem_singleton.mpr ⟨hsdg.2, hsdg.1⟩)
          rw [← rand_end_take nums6 i 0 n hn] at e24
          show EltEndN _ _ _ _ _ _ _ _ _ _ _ _ _ _ _
          refine ⟨h24, tk24, [(T3, tupObj v7), (du, listOf ys.toArray c), (tl, listOf tv.toArray 0), (st, instObj 107 sd), (sd, storeDict w vd ad tl (randEnd tn 0 (nums6.take (i + 1))) u1 u2 u3 u4 u24), (L + 1, o1'), (211, tabObj S.ps)], rfl, F24, ?_, off, ⟨_, .head _, rfl, _, rfl⟩, ⟨u24, rfl⟩, _, _, rand_all_at nums6 i 0 n hn, rfl⟩
          exact News.keep1 N23 kW (by k_mem) zs3 (News.keep1 N23 kW (by k_mem) zs4 (News.keep1 N23 kW (by k_mem) zs5 (News.keep1 N23 kW (by k_mem) zs1 (News.keep1 N23 kW (by k_mem) zs2 (News.keep1 N23 kW (by k_mem) m4.1 (News.keep1 N23 kW (by k_mem) hst9d
            (fun q hq => by
              rcases List.mem_cons.mp hq with rfl | hq
              · exact ⟨e24, hsdg⟩
              · exact News.keep1 N23 kW (by k_mem) m4.2.2.1 (News.keep1 N23 kW (by k_mem) m4.2.2.2 News.nil') q hq)))))))
        · obtain ⟨u6, rfl⟩ := hnw
          have hi1 : IntsAre ys1 (randAll tn 0 nums6) := ints_all (by rw [hl1, rand_all_len]; rfl) hy1
          clear hl1 hy1 F21 N22
          unfold LCg.FinE
          intro D3 h3 tk3 F3 N3 o3
          walk_at "m_steps"
          rename Fr g L _ _ => F30
          rename News g L _ _ => N30
          show wpAny _ _ _ _ _ _
          refine ke_eq_ints (isList_get (N30.get (.head _) : _ = some (listOf ys1.toArray ys1.length))) (isList_get (N30.get (by k_mem) : _ = some (listOf ys.toArray c))) hi1 hys6 (Rm.clear64 hrm) ?_
          rw [decide_eq_true (rfl : randAll tn 0 nums6 = randAll tn 0 nums6)]
          walk_at "m_steps"
          exact k _ _ _ S.ps (fun b o e hb' => F30.keep b o (by rw [hg]; exact hideAll_get _ e (nm_one hb'))) (N30.get (by k_mem))
end

/-- the row's claim -/
theorem goal : PySem.Challenge.rw_nz0563_01.Holds := by
  refine hd (by with_unfolding_all rfl) (by with_unfolding_all rfl) (by with_unfolding_all rfl) ?_
  intro w s₀ s₁ mg mb G Y fa o pm cd doc dV kV ho hd2 hcd hD hmg hg args vals as hpre hlay hrd hwl hlo
  have X := km_in_of Y
  have h211 := km_tabs_of Y 211 (.head _)
  have T := G.T
  have hmg' : mg "law" = some (.ref 226) := ns_some_of X T.g (by kernel_rfl)
  have hfa : fa = 226 := by
    have e : some (Value.ref fa) = some (.ref 226) := hmg.symm.trans hmg'
    cases e; rfl
  subst hfa
  have hT9 : TabsAt [(215, 211)] s₁.heap := List.forall_mem_cons.mpr ⟨⟨codeHd_of_K X (by kernel_rfl), h211⟩, fun _ h => nomatch h⟩
  clear hmg ho hd2 hcd hD hmg'
  wrow_args hpre hlay hrd hwl hlo
  rename Heap.IsList s₁.heap _ _ => hL9
  rename IntsAre _ _ => hI9
  rename ¬ _ => hc9
  refine enter_call ?_
  refine kn_post hT9 (fun _ _ => rfl) ?_
  refine law_spec (b0 := ghostOf s₁.heap [(215, 211)]) (A := callerA) ⟨ghost_K hT9 X (by kernel_rfl), ghost_top hT9 T⟩ ⟨⟨rfl, by decide, by decide⟩, (ghost_below hT9).stack, fun b o e => of_hideAll _ e, trivial⟩ hL9 hI9 (by omega) h211 (hideAll_none _ (.head _)) fun h' tk dr ps k1 k2 => ?_
  refine ⟨⟨.inl ⟨.bool true, .bool true, [], rfl, fun _ => rfl, .bool true, ?_, fun _ => ⟨List.nodup_nil, fun _ z => nomatch z⟩⟩, fun b o e => k1 b o (of_hideAll _ e) fun z => ?_, rfl, hg⟩, ⟨ps, k2⟩, trivial⟩
  · wrow_post
  · have e : (hideAll s₁.heap [211]).get? b = some o := e
    rw [z, hideAll_none _ (.head _)] at e; cases e

end Mine

theorem PySem.Challenge.cw_nz0563_01_holds : PySem.Challenge.rw_nz0563_01.Holds :=
  Mine.goal
