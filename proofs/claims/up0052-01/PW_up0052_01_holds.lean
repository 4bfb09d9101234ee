import PyProof.Rows.All
import Wide.All
import OpenK.AllK
import Wide.FinOn
import PySem.Challenge.RW_up0052_01
set_option Elab.async false
set_option maxRecDepth 100000
set_option maxHeartbeats 8000000
set_option linter.unusedSimpArgs false
set_option linter.unusedVariables false
set_option compiler.extract_closed false
open PySem PySem.W PyProof.Rows PySem.Calls
namespace Mine.hd
/-- the statement at a place of the given program: its own text is nowhere written out here -/
noncomputable def nth : Nat → List Stmt → Stmt
  | _, [] => .Pass ⟨0, 0, 0, 0⟩
  | 0, a :: _ => a
  | n + 1, _ :: l => nth n l
noncomputable def kids : Stmt → List Stmt
  | .ClassDef _ _ _ b _ _ _ _ _ _ _ => b
  | _ => []
noncomputable def fun_ : List Nat → Stmt
  | [i] => nth i Challenge.pw_up0052_01.main.body
  | [i, j] => nth j (kids (nth i Challenge.pw_up0052_01.main.body))
  | _ => .Pass ⟨0, 0, 0, 0⟩
noncomputable def fdat (name qual : Str) (s : Stmt) (g : Addr) (cl : List (Str × Addr)) (d kd doc pm : Value) (an : Option Addr) (code ct : Value) (b : Addr) : FuncData := match s with
  | .FunctionDef _ args body _ _ _ scope _ _ _ => ⟨name, qual, args, .stmts body, scope, g, cl, d, kd, doc, pm, an, code, ct, b⟩
  | _ => ⟨name, qual, ⟨[], [], none, [], [], none, []⟩, .stmts [], default, g, cl, d, kd, doc, pm, an, code, ct, b⟩
noncomputable abbrev S := Str.ofString
noncomputable abbrev en (P : Params) (k : String) (t : Tok) (v : Value) : DictEntry := ⟨PyData.keyHash P (Str.ofString k), .str (Str.ofString k) t, v⟩
noncomputable def fd21 : FuncData := by
  refine (?f : (K : FuncData) → fdat (S "_wall") (S "_wall") (fun_ [0]) 3 [] Value.none Value.none Value.none (Value.str (S "__main__") 164) none (Value.ref 20) Value.none 0 = K → FuncData) ?K ?h
  case f => exact fun K _ => K
  case h => dsimp only [fdat, fun_, nth, kids, S, Challenge.pw_up0052_01]; exact rfl
noncomputable def fd36 : FuncData := by
  refine (?f : (K : FuncData) → fdat (S "__init__") (S "LendError.__init__") (fun_ [2, 0]) 3 [] (Value.ref 29) Value.none Value.none (Value.str (S "lendcore.errors") 194) none (Value.ref 35) Value.none 0 = K → FuncData) ?K ?h
  case f => exact fun K _ => K
  case h => dsimp only [fdat, fun_, nth, kids, S, Challenge.pw_up0052_01]; exact rfl
noncomputable def fd78 : FuncData := by
  refine (?f : (K : FuncData) → fdat (S "joined") (S "joined") (fun_ [11]) 3 [] Value.none Value.none Value.none (Value.str (S "lendcore.modules") 270) none (Value.ref 77) Value.none 0 = K → FuncData) ?K ?h
  case f => exact fun K _ => K
  case h => dsimp only [fdat, fun_, nth, kids, S, Challenge.pw_up0052_01]; exact rfl
noncomputable def fd85 : FuncData := by
  refine (?f : (K : FuncData) → fdat (S "parent_of") (S "parent_of") (fun_ [12]) 3 [] Value.none Value.none Value.none (Value.str (S "lendcore.modules") 270) none (Value.ref 84) Value.none 0 = K → FuncData) ?K ?h
  case f => exact fun K _ => K
  case h => dsimp only [fdat, fun_, nth, kids, S, Challenge.pw_up0052_01]; exact rfl
noncomputable def fd92 : FuncData := by
  refine (?f : (K : FuncData) → fdat (S "is_within") (S "is_within") (fun_ [13]) 3 [] Value.none Value.none Value.none (Value.str (S "lendcore.modules") 270) none (Value.ref 91) Value.none 0 = K → FuncData) ?K ?h
  case f => exact fun K _ => K
  case h => dsimp only [fdat, fun_, nth, kids, S, Challenge.pw_up0052_01]; exact rfl
noncomputable def fd106 : FuncData := by
  refine (?f : (K : FuncData) → fdat (S "__init__") (S "Use.__init__") (fun_ [14, 0]) 3 [] Value.none Value.none Value.none (Value.str (S "lendcore.modules") 270) none (Value.ref 105) Value.none 0 = K → FuncData) ?K ?h
  case f => exact fun K _ => K
  case h => dsimp only [fdat, fun_, nth, kids, S, Challenge.pw_up0052_01]; exact rfl
noncomputable def fd127 : FuncData := by
  refine (?f : (K : FuncData) → fdat (S "__init__") (S "Table.__init__") (fun_ [15, 0]) 3 [] Value.none Value.none Value.none (Value.str (S "lendcore.modules") 270) none (Value.ref 126) Value.none 0 = K → FuncData) ?K ?h
  case f => exact fun K _ => K
  case h => dsimp only [fdat, fun_, nth, kids, S, Challenge.pw_up0052_01]; exact rfl
noncomputable def fd134 : FuncData := by
  refine (?f : (K : FuncData) → fdat (S "space") (S "Table.space") (fun_ [15, 1]) 3 [] Value.none Value.none Value.none (Value.str (S "lendcore.modules") 270) none (Value.ref 133) Value.none 0 = K → FuncData) ?K ?h
  case f => exact fun K _ => K
  case h => dsimp only [fdat, fun_, nth, kids, S, Challenge.pw_up0052_01]; exact rfl
noncomputable def fd139 : FuncData := by
  refine (?f : (K : FuncData) → fdat (S "is_taken") (S "Table.is_taken") (fun_ [15, 2]) 3 [] Value.none Value.none Value.none (Value.str (S "lendcore.modules") 270) none (Value.ref 138) Value.none 0 = K → FuncData) ?K ?h
  case f => exact fun K _ => K
  case h => dsimp only [fdat, fun_, nth, kids, S, Challenge.pw_up0052_01]; exact rfl
noncomputable def fd160 : FuncData := by
  refine (?f : (K : FuncData) → fdat (S "__init__") (S "Modules.__init__") (fun_ [16, 0]) 3 [] Value.none Value.none Value.none (Value.str (S "lendcore.modules") 270) none (Value.ref 159) Value.none 0 = K → FuncData) ?K ?h
  case f => exact fun K _ => K
  case h => dsimp only [fdat, fun_, nth, kids, S, Challenge.pw_up0052_01]; exact rfl
noncomputable def fd167 : FuncData := by
  refine (?f : (K : FuncData) → fdat (S "enter") (S "Modules.enter") (fun_ [16, 1]) 3 [] Value.none Value.none Value.none (Value.str (S "lendcore.modules") 270) none (Value.ref 166) Value.none 0 = K → FuncData) ?K ?h
  case f => exact fun K _ => K
  case h => dsimp only [fdat, fun_, nth, kids, S, Challenge.pw_up0052_01]; exact rfl
noncomputable def fd174 : FuncData := by
  refine (?f : (K : FuncData) → fdat (S "declare") (S "Modules.declare") (fun_ [16, 2]) 3 [] Value.none Value.none Value.none (Value.str (S "lendcore.modules") 270) none (Value.ref 173) Value.none 0 = K → FuncData) ?K ?h
  case f => exact fun K _ => K
  case h => dsimp only [fdat, fun_, nth, kids, S, Challenge.pw_up0052_01]; exact rfl
noncomputable def fd179 : FuncData := by
  refine (?f : (K : FuncData) → fdat (S "declare_type") (S "Modules.declare_type") (fun_ [16, 3]) 3 [] Value.none Value.none Value.none (Value.str (S "lendcore.modules") 270) none (Value.ref 178) Value.none 0 = K → FuncData) ?K ?h
  case f => exact fun K _ => K
  case h => dsimp only [fdat, fun_, nth, kids, S, Challenge.pw_up0052_01]; exact rfl
noncomputable def fd186 : FuncData := by
  refine (?f : (K : FuncData) → fdat (S "enter_variants") (S "Modules.enter_variants") (fun_ [16, 4]) 3 [] Value.none Value.none Value.none (Value.str (S "lendcore.modules") 270) none (Value.ref 185) Value.none 0 = K → FuncData) ?K ?h
  case f => exact fun K _ => K
  case h => dsimp only [fdat, fun_, nth, kids, S, Challenge.pw_up0052_01]; exact rfl
noncomputable def fd193 : FuncData := by
  refine (?f : (K : FuncData) → fdat (S "enter_use") (S "Modules.enter_use") (fun_ [16, 5]) 3 [] Value.none Value.none Value.none (Value.str (S "lendcore.modules") 270) none (Value.ref 192) Value.none 0 = K → FuncData) ?K ?h
  case f => exact fun K _ => K
  case h => dsimp only [fdat, fun_, nth, kids, S, Challenge.pw_up0052_01]; exact rfl
noncomputable def fd200 : FuncData := by
  refine (?f : (K : FuncData) → fdat (S "can_see") (S "Modules.can_see") (fun_ [16, 6]) 3 [] Value.none Value.none Value.none (Value.str (S "lendcore.modules") 270) none (Value.ref 199) Value.none 0 = K → FuncData) ?K ?h
  case f => exact fun K _ => K
  case h => dsimp only [fdat, fun_, nth, kids, S, Challenge.pw_up0052_01]; exact rfl
noncomputable def fd208 : FuncData := by
  refine (?f : (K : FuncData) → fdat (S "find") (S "Modules.find") (fun_ [16, 7]) 3 [] (Value.ref 201) Value.none Value.none (Value.str (S "lendcore.modules") 270) none (Value.ref 207) Value.none 0 = K → FuncData) ?K ?h
  case f => exact fun K _ => K
  case h => dsimp only [fdat, fun_, nth, kids, S, Challenge.pw_up0052_01]; exact rfl
noncomputable def fd215 : FuncData := by
  refine (?f : (K : FuncData) → fdat (S "walk") (S "Modules.walk") (fun_ [16, 8]) 3 [] Value.none Value.none Value.none (Value.str (S "lendcore.modules") 270) none (Value.ref 214) Value.none 0 = K → FuncData) ?K ?h
  case f => exact fun K _ => K
  case h => dsimp only [fdat, fun_, nth, kids, S, Challenge.pw_up0052_01]; exact rfl
noncomputable def fd222 : FuncData := by
  refine (?f : (K : FuncData) → fdat (S "begin") (S "Modules.begin") (fun_ [16, 9]) 3 [] Value.none Value.none Value.none (Value.str (S "lendcore.modules") 270) none (Value.ref 221) Value.none 0 = K → FuncData) ?K ?h
  case f => exact fun K _ => K
  case h => dsimp only [fdat, fun_, nth, kids, S, Challenge.pw_up0052_01]; exact rfl
noncomputable def fd229 : FuncData := by
  refine (?f : (K : FuncData) → fdat (S "step") (S "Modules.step") (fun_ [16, 10]) 3 [] Value.none Value.none Value.none (Value.str (S "lendcore.modules") 270) none (Value.ref 228) Value.none 0 = K → FuncData) ?K ?h
  case f => exact fun K _ => K
  case h => dsimp only [fdat, fun_, nth, kids, S, Challenge.pw_up0052_01]; exact rfl
noncomputable def fd236 : FuncData := by
  refine (?f : (K : FuncData) → fdat (S "look") (S "Modules.look") (fun_ [16, 11]) 3 [] Value.none Value.none Value.none (Value.str (S "lendcore.modules") 270) none (Value.ref 235) Value.none 0 = K → FuncData) ?K ?h
  case f => exact fun K _ => K
  case h => dsimp only [fdat, fun_, nth, kids, S, Challenge.pw_up0052_01]; exact rfl
noncomputable def fd243 : FuncData := by
  refine (?f : (K : FuncData) → fdat (S "follow") (S "Modules.follow") (fun_ [16, 12]) 3 [] Value.none Value.none Value.none (Value.str (S "lendcore.modules") 270) none (Value.ref 242) Value.none 0 = K → FuncData) ?K ?h
  case f => exact fun K _ => K
  case h => dsimp only [fdat, fun_, nth, kids, S, Challenge.pw_up0052_01]; exact rfl
noncomputable def fd251 : FuncData := by
  refine (?f : (K : FuncData) → fdat (S "find_prefix") (S "Modules.find_prefix") (fun_ [16, 13]) 3 [] (Value.ref 244) Value.none Value.none (Value.str (S "lendcore.modules") 270) none (Value.ref 250) Value.none 0 = K → FuncData) ?K ?h
  case f => exact fun K _ => K
  case h => dsimp only [fdat, fun_, nth, kids, S, Challenge.pw_up0052_01]; exact rfl
noncomputable def fd258 : FuncData := by
  refine (?f : (K : FuncData) → fdat (S "checked_uses") (S "Modules.checked_uses") (fun_ [16, 14]) 3 [] Value.none Value.none Value.none (Value.str (S "lendcore.modules") 270) none (Value.ref 257) Value.none 0 = K → FuncData) ?K ?h
  case f => exact fun K _ => K
  case h => dsimp only [fdat, fun_, nth, kids, S, Challenge.pw_up0052_01]; exact rfl
noncomputable def fd265 : FuncData := by
  refine (?f : (K : FuncData) → fdat (S "checked_publics") (S "Modules.checked_publics") (fun_ [16, 15]) 3 [] Value.none Value.none Value.none (Value.str (S "lendcore.modules") 270) none (Value.ref 264) Value.none 0 = K → FuncData) ?K ?h
  case f => exact fun K _ => K
  case h => dsimp only [fdat, fun_, nth, kids, S, Challenge.pw_up0052_01]; exact rfl
noncomputable def fd272 : FuncData := by
  refine (?f : (K : FuncData) → fdat (S "may_tell_on") (S "Modules.may_tell_on") (fun_ [16, 16]) 3 [] Value.none Value.none Value.none (Value.str (S "lendcore.modules") 270) none (Value.ref 271) Value.none 0 = K → FuncData) ?K ?h
  case f => exact fun K _ => K
  case h => dsimp only [fdat, fun_, nth, kids, S, Challenge.pw_up0052_01]; exact rfl
noncomputable def fd286 : FuncData := by
  refine (?f : (K : FuncData) → fdat (S "_law_pool") (S "_law_pool") (fun_ [18]) 3 [] Value.none Value.none Value.none (Value.str (S "law_up0052_01") 620) none (Value.ref 285) Value.none 0 = K → FuncData) ?K ?h
  case f => exact fun K _ => K
  case h => dsimp only [fdat, fun_, nth, kids, S, Challenge.pw_up0052_01]; exact rfl
noncomputable def fd293 : FuncData := by
  refine (?f : (K : FuncData) → fdat (S "_law_take") (S "_law_take") (fun_ [19]) 3 [] Value.none Value.none Value.none (Value.str (S "law_up0052_01") 620) none (Value.ref 292) Value.none 0 = K → FuncData) ?K ?h
  case f => exact fun K _ => K
  case h => dsimp only [fdat, fun_, nth, kids, S, Challenge.pw_up0052_01]; exact rfl
noncomputable def fd300 : FuncData := by
  refine (?f : (K : FuncData) → fdat (S "_law_one") (S "_law_one") (fun_ [20]) 3 [] Value.none Value.none Value.none (Value.str (S "law_up0052_01") 620) none (Value.ref 299) Value.none 0 = K → FuncData) ?K ?h
  case f => exact fun K _ => K
  case h => dsimp only [fdat, fun_, nth, kids, S, Challenge.pw_up0052_01]; exact rfl
noncomputable def fd307 : FuncData := by
  refine (?f : (K : FuncData) → fdat (S "_law_items") (S "_law_items") (fun_ [21]) 3 [] Value.none Value.none Value.none (Value.str (S "law_up0052_01") 620) none (Value.ref 306) Value.none 0 = K → FuncData) ?K ?h
  case f => exact fun K _ => K
  case h => dsimp only [fdat, fun_, nth, kids, S, Challenge.pw_up0052_01]; exact rfl
noncomputable def fd314 : FuncData := by
  refine (?f : (K : FuncData) → fdat (S "_law_begin") (S "_law_begin") (fun_ [22]) 3 [] Value.none Value.none Value.none (Value.str (S "law_up0052_01") 620) none (Value.ref 313) Value.none 0 = K → FuncData) ?K ?h
  case f => exact fun K _ => K
  case h => dsimp only [fdat, fun_, nth, kids, S, Challenge.pw_up0052_01]; exact rfl
noncomputable def fd321 : FuncData := by
  refine (?f : (K : FuncData) → fdat (S "_law_due") (S "_law_due") (fun_ [23]) 3 [] Value.none Value.none Value.none (Value.str (S "law_up0052_01") 620) none (Value.ref 320) Value.none 0 = K → FuncData) ?K ?h
  case f => exact fun K _ => K
  case h => dsimp only [fdat, fun_, nth, kids, S, Challenge.pw_up0052_01]; exact rfl
noncomputable def fd328 : FuncData := by
  refine (?f : (K : FuncData) → fdat (S "_law_found") (S "_law_found") (fun_ [24]) 3 [] Value.none Value.none Value.none (Value.str (S "law_up0052_01") 620) none (Value.ref 327) Value.none 0 = K → FuncData) ?K ?h
  case f => exact fun K _ => K
  case h => dsimp only [fdat, fun_, nth, kids, S, Challenge.pw_up0052_01]; exact rfl
noncomputable def fd333 : FuncData := by
  refine (?f : (K : FuncData) → fdat (S "law") (S "law") (fun_ [25]) 3 [] Value.none Value.none Value.none (Value.str (S "law_up0052_01") 620) none (Value.ref 332) Value.none 0 = K → FuncData) ?K ?h
  case f => exact fun K _ => K
  case h => dsimp only [fdat, fun_, nth, kids, S, Challenge.pw_up0052_01]; exact rfl
noncomputable def raw (P : Params) : Frag :=
(nat_lit 2, (Obj.mk Value.none none (Data.dict #[(en P "type.__subclasses__.Exception.0" 224 (Value.int 39 0)), (en P "type.__subclasses__.Exception.n" 225 (Value.int 1 0))] 2) #[])) ::
(nat_lit 3, (Obj.mk (Value.type "dict") none (Data.dict #[(en P "__name__" 165 (Value.str (S "law_up0052_01") 620)), (en P "__doc__" 166 Value.none), (en P "__package__" 167 Value.none), (en P "__loader__" 168 (Value.builtin "__main__.__loader__#opaque")), (en P "__spec__" 169 Value.none), (en P "__annotations__" 170 (Value.ref 6)), (en P "__builtins__" 171 (Value.ref 4)), (en P "__file__" 173 (Value.str (S "/claim/cut.py") 172)), (en P "__cached__" 174 Value.none), (en P "_wall" 193 (Value.ref 21)), (en P "LendError" 227 (Value.ref 39)), (en P "NameFault" 243 (Value.ref 52)), (en P "VisibilityFault" 259 (Value.ref 64)), (en P "INT_KINDS" 269 (Value.ref 67)), (en P "PRELUDE_NAMES" 285 (Value.ref 68)), (en P "MOST_USES" 287 (Value.int 30 286)), (en P "WAYS" 291 (Value.ref 69)), (en P "PLAIN_NAMES" 294 (Value.ref 71)), (en P "joined" 302 (Value.ref 78)), (en P "parent_of" 310 (Value.ref 85)), (en P "is_within" 318 (Value.ref 92)), (en P "Use" 351 (Value.ref 109)), (en P "Table" 395 (Value.ref 142)), (en P "Modules" 619 (Value.ref 275)), (en P "_law_pool" 630 (Value.ref 286)), (en P "_law_take" 639 (Value.ref 293)), (en P "_law_one" 647 (Value.ref 300)), (en P "_law_items" 658 (Value.ref 307)), (en P "_law_begin" 668 (Value.ref 314)), (en P "_law_due" 682 (Value.ref 321)), (en P "_law_found" 691 (Value.ref 328)), (en P "law" 697 (Value.ref 333))] 32) #[])) ::
(nat_lit 15, (Obj.mk (Value.type "tuple") none (Data.seq #[] 0) #[])) ::
(nat_lit 17, (Obj.mk (Value.type "tuple") none (Data.seq #[(Value.str (S "k") 190)] 0) #[])) ::
(nat_lit 18, (Obj.mk (Value.type "tuple") none (Data.seq #[] 0) #[])) ::
(nat_lit 20, (Obj.mk (Value.type "code") none (Data.fields #[(Value.str (S "_wall") 187), (Value.str (S "_wall") 188), (Value.str (S "/claim/cut.py") 189), (Value.int 1 0), (Value.int 1 0), (Value.int 0 0), (Value.int 0 0), (Value.int 3 0), (Value.ref 15), (Value.bool Bool.true), (Value.int 181 0), (Value.ref 16), Value.none, (Value.ref 17), (Value.ref 18), (Value.ref 19), (Value.int 191 0), (Value.int 1 0), (Value.str (S "/claim/cut.py") 192)]) #[])) ::
(nat_lit 21, (Obj.mk (Value.type "function") none (Data.func fd21) #[])) ::
(nat_lit 22, (Obj.mk (Value.type "tuple") none (Data.seq #[(Value.type "Exception")] 0) #[])) ::
(nat_lit 29, (Obj.mk (Value.type "tuple") none (Data.seq #[(Value.int 0 208)] 0) #[])) ::
(nat_lit 30, (Obj.mk (Value.type "tuple") none (Data.seq #[] 0) #[])) ::
(nat_lit 32, (Obj.mk (Value.type "tuple") none (Data.seq #[(Value.str (S "self") 212), (Value.str (S "message") 213), (Value.str (S "spot") 214)] 0) #[])) ::
(nat_lit 33, (Obj.mk (Value.type "tuple") none (Data.seq #[] 0) #[])) ::
(nat_lit 35, (Obj.mk (Value.type "code") none (Data.fields #[(Value.str (S "__init__") 209), (Value.str (S "LendError.__init__") 210), (Value.str (S "/claim/cut.py") 211), (Value.int 7 0), (Value.int 3 0), (Value.int 0 0), (Value.int 0 0), (Value.int 3 0), (Value.ref 30), (Value.bool Bool.true), (Value.int 181 0), (Value.ref 31), Value.none, (Value.ref 32), (Value.ref 33), (Value.ref 34), (Value.int 215 0), (Value.int 7 0), (Value.str (S "/claim/cut.py") 216)]) #[])) ::
(nat_lit 36, (Obj.mk (Value.type "function") none (Data.func fd36) #[])) ::
(nat_lit 37, (Obj.mk (Value.type "tuple") none (Data.seq #[(Value.str (S "message") 218), (Value.str (S "spot") 219)] 0) #[])) ::
(nat_lit 38, (Obj.mk (Value.type "dict") none (Data.dict #[(en P "__module__" 203 (Value.str (S "lendcore.errors") 194)), (en P "__firstlineno__" 207 (Value.int 5 206)), (en P "__init__" 217 (Value.ref 36)), (en P "__static_attributes__" 220 (Value.ref 37)), (en P "__weakref__" 222 (Value.ref 40)), (en P "__doc__" 223 Value.none)] 3) #[])) ::
(nat_lit 39, (Obj.mk (Value.type "type") none (Data.cls (ClassData.mk (S "LendError") [(Value.type "Exception")] [(Value.ref 39), (Value.type "Exception"), (Value.type "BaseException"), (Value.type "object")] 38 (S "LendError") Bool.true [] [(Value.ref 52), (Value.ref 64)] Bool.false none Bool.false)) #[(some (Value.ref 22)), none, (some (Value.str (S "LendError") 196)), (some (Value.str (S "LendError") 204)), (some (Value.builtin "Exception.__new__")), (some (Value.bool Bool.true))])) ::
(nat_lit 40, (Obj.mk (Value.type "getset_descriptor") none (Data.fields #[(Value.str (S "__weakref__") 221), (Value.ref 39), (Value.builtin "ExceptionGroup.__weakref__"), Value.none]) #[])) ::
(nat_lit 43, (Obj.mk (Value.type "tuple") none (Data.seq #[(Value.ref 39)] 0) #[])) ::
(nat_lit 50, (Obj.mk (Value.type "tuple") none (Data.seq #[] 0) #[])) ::
(nat_lit 51, (Obj.mk (Value.type "dict") none (Data.dict #[(en P "__module__" 235 (Value.str (S "lendcore.errors") 194)), (en P "__firstlineno__" 239 (Value.int 11 238)), (en P "__static_attributes__" 240 (Value.ref 50)), (en P "__doc__" 241 Value.none)] 2) #[])) ::
(nat_lit 52, (Obj.mk (Value.type "type") none (Data.cls (ClassData.mk (S "NameFault") [(Value.ref 39)] [(Value.ref 52), (Value.ref 39), (Value.type "Exception"), (Value.type "BaseException"), (Value.type "object")] 51 (S "NameFault") Bool.true [] [] Bool.false none Bool.false)) #[(some (Value.ref 43)), none, (some (Value.str (S "NameFault") 228)), (some (Value.str (S "NameFault") 236)), (some (Value.builtin "Exception.__new__")), (some (Value.bool Bool.true))])) ::
(nat_lit 55, (Obj.mk (Value.type "tuple") none (Data.seq #[(Value.ref 39)] 0) #[])) ::
(nat_lit 62, (Obj.mk (Value.type "tuple") none (Data.seq #[] 0) #[])) ::
(nat_lit 63, (Obj.mk (Value.type "dict") none (Data.dict #[(en P "__module__" 251 (Value.str (S "lendcore.errors") 194)), (en P "__firstlineno__" 255 (Value.int 13 254)), (en P "__static_attributes__" 256 (Value.ref 62)), (en P "__doc__" 257 Value.none)] 2) #[])) ::
(nat_lit 64, (Obj.mk (Value.type "type") none (Data.cls (ClassData.mk (S "VisibilityFault") [(Value.ref 39)] [(Value.ref 64), (Value.ref 39), (Value.type "Exception"), (Value.type "BaseException"), (Value.type "object")] 63 (S "VisibilityFault") Bool.true [] [] Bool.false none Bool.false)) #[(some (Value.ref 55)), none, (some (Value.str (S "VisibilityFault") 244)), (some (Value.str (S "VisibilityFault") 252)), (some (Value.builtin "Exception.__new__")), (some (Value.bool Bool.true))])) ::
(nat_lit 68, (Obj.mk (Value.type "tuple") none (Data.seq #[(Value.str (S "Clone") 272), (Value.str (S "Copy") 273), (Value.str (S "Default") 274), (Value.str (S "Drop") 275), (Value.str (S "Err") 276), (Value.str (S "None") 277), (Value.str (S "Ok") 278), (Value.str (S "Option") 279), (Value.str (S "Range8") 280), (Value.str (S "Result") 281), (Value.str (S "Some") 282), (Value.str (S "Vec8") 283), (Value.str (S "swapped") 284)] 0) #[])) ::
(nat_lit 69, (Obj.mk (Value.type "tuple") none (Data.seq #[(Value.str (S "crate") 288), (Value.str (S "self") 289), (Value.str (S "super") 290)] 0) #[])) ::
(nat_lit 71, (Obj.mk (Value.type "tuple") none (Data.seq #[(Value.str (S "i8") 260), (Value.str (S "i16") 261), (Value.str (S "i32") 262), (Value.str (S "i64") 263), (Value.str (S "u8") 264), (Value.str (S "u16") 265), (Value.str (S "u32") 266), (Value.str (S "u64") 267), (Value.str (S "usize") 268), (Value.str (S "bool") 292), (Value.str (S "Box") 293)] 0) #[])) ::
(nat_lit 72, (Obj.mk (Value.type "tuple") none (Data.seq #[] 0) #[])) ::
(nat_lit 74, (Obj.mk (Value.type "tuple") none (Data.seq #[(Value.str (S "module") 298), (Value.str (S "name") 299)] 0) #[])) ::
(nat_lit 75, (Obj.mk (Value.type "tuple") none (Data.seq #[] 0) #[])) ::
(nat_lit 77, (Obj.mk (Value.type "code") none (Data.fields #[(Value.str (S "joined") 295), (Value.str (S "joined") 296), (Value.str (S "/claim/cut.py") 297), (Value.int 21 0), (Value.int 2 0), (Value.int 0 0), (Value.int 0 0), (Value.int 3 0), (Value.ref 72), (Value.bool Bool.true), (Value.int 181 0), (Value.ref 73), Value.none, (Value.ref 74), (Value.ref 75), (Value.ref 76), (Value.int 300 0), (Value.int 21 0), (Value.str (S "/claim/cut.py") 301)]) #[])) ::
(nat_lit 78, (Obj.mk (Value.type "function") none (Data.func fd78) #[])) ::
(nat_lit 79, (Obj.mk (Value.type "tuple") none (Data.seq #[] 0) #[])) ::
(nat_lit 81, (Obj.mk (Value.type "tuple") none (Data.seq #[(Value.str (S "path") 306), (Value.str (S "at") 307)] 0) #[])) ::
(nat_lit 82, (Obj.mk (Value.type "tuple") none (Data.seq #[] 0) #[])) ::
(nat_lit 84, (Obj.mk (Value.type "code") none (Data.fields #[(Value.str (S "parent_of") 303), (Value.str (S "parent_of") 304), (Value.str (S "/claim/cut.py") 305), (Value.int 23 0), (Value.int 1 0), (Value.int 0 0), (Value.int 0 0), (Value.int 3 0), (Value.ref 79), (Value.bool Bool.true), (Value.int 181 0), (Value.ref 80), Value.none, (Value.ref 81), (Value.ref 82), (Value.ref 83), (Value.int 308 0), (Value.int 23 0), (Value.str (S "/claim/cut.py") 309)]) #[])) ::
(nat_lit 85, (Obj.mk (Value.type "function") none (Data.func fd85) #[])) ::
(nat_lit 86, (Obj.mk (Value.type "tuple") none (Data.seq #[] 0) #[])) ::
(nat_lit 88, (Obj.mk (Value.type "tuple") none (Data.seq #[(Value.str (S "module") 314), (Value.str (S "owner") 315)] 0) #[])) ::
(nat_lit 89, (Obj.mk (Value.type "tuple") none (Data.seq #[] 0) #[])) ::
(nat_lit 91, (Obj.mk (Value.type "code") none (Data.fields #[(Value.str (S "is_within") 311), (Value.str (S "is_within") 312), (Value.str (S "/claim/cut.py") 313), (Value.int 26 0), (Value.int 2 0), (Value.int 0 0), (Value.int 0 0), (Value.int 3 0), (Value.ref 86), (Value.bool Bool.true), (Value.int 181 0), (Value.ref 87), Value.none, (Value.ref 88), (Value.ref 89), (Value.ref 90), (Value.int 316 0), (Value.int 26 0), (Value.str (S "/claim/cut.py") 317)]) #[])) ::
(nat_lit 92, (Obj.mk (Value.type "function") none (Data.func fd92) #[])) ::
(nat_lit 100, (Obj.mk (Value.type "tuple") none (Data.seq #[] 0) #[])) ::
(nat_lit 102, (Obj.mk (Value.type "tuple") none (Data.seq #[(Value.str (S "self") 334), (Value.str (S "names") 335), (Value.str (S "is_pub") 336), (Value.str (S "spot") 337)] 0) #[])) ::
(nat_lit 103, (Obj.mk (Value.type "tuple") none (Data.seq #[] 0) #[])) ::
(nat_lit 105, (Obj.mk (Value.type "code") none (Data.fields #[(Value.str (S "__init__") 331), (Value.str (S "Use.__init__") 332), (Value.str (S "/claim/cut.py") 333), (Value.int 30 0), (Value.int 4 0), (Value.int 0 0), (Value.int 0 0), (Value.int 3 0), (Value.ref 100), (Value.bool Bool.true), (Value.int 181 0), (Value.ref 101), Value.none, (Value.ref 102), (Value.ref 103), (Value.ref 104), (Value.int 338 0), (Value.int 30 0), (Value.str (S "/claim/cut.py") 339)]) #[])) ::
(nat_lit 106, (Obj.mk (Value.type "function") none (Data.func fd106) #[])) ::
(nat_lit 107, (Obj.mk (Value.type "tuple") none (Data.seq #[(Value.str (S "is_pub") 341), (Value.str (S "names") 342), (Value.str (S "spot") 343)] 0) #[])) ::
(nat_lit 108, (Obj.mk (Value.type "dict") none (Data.dict #[(en P "__module__" 326 (Value.str (S "lendcore.modules") 270)), (en P "__firstlineno__" 330 (Value.int 28 329)), (en P "__init__" 340 (Value.ref 106)), (en P "__static_attributes__" 344 (Value.ref 107)), (en P "__dict__" 346 (Value.ref 110)), (en P "__weakref__" 348 (Value.ref 111)), (en P "__doc__" 349 Value.none)] 4) #[])) ::
(nat_lit 109, (Obj.mk (Value.type "type") none (Data.cls (ClassData.mk (S "Use") [(Value.type "object")] [(Value.ref 109), (Value.type "object")] 108 (S "Use") Bool.true [] [] Bool.false none Bool.false)) #[none, none, (some (Value.str (S "Use") 319)), (some (Value.str (S "Use") 327)), (some (Value.builtin "object.__new__")), (some (Value.bool Bool.true))])) ::
(nat_lit 110, (Obj.mk (Value.type "getset_descriptor") none (Data.fields #[(Value.str (S "__dict__") 345), (Value.ref 109), (Value.builtin "function.__dict__"), (Value.builtin "function.__dict__#set")]) #[])) ::
(nat_lit 111, (Obj.mk (Value.type "getset_descriptor") none (Data.fields #[(Value.str (S "__weakref__") 347), (Value.ref 109), (Value.builtin "ExceptionGroup.__weakref__"), Value.none]) #[])) ::
(nat_lit 121, (Obj.mk (Value.type "tuple") none (Data.seq #[] 0) #[])) ::
(nat_lit 123, (Obj.mk (Value.type "tuple") none (Data.seq #[(Value.str (S "self") 367)] 0) #[])) ::
(nat_lit 124, (Obj.mk (Value.type "tuple") none (Data.seq #[] 0) #[])) ::
(nat_lit 126, (Obj.mk (Value.type "code") none (Data.fields #[(Value.str (S "__init__") 364), (Value.str (S "Table.__init__") 365), (Value.str (S "/claim/cut.py") 366), (Value.int 36 0), (Value.int 1 0), (Value.int 0 0), (Value.int 0 0), (Value.int 3 0), (Value.ref 121), (Value.bool Bool.true), (Value.int 181 0), (Value.ref 122), Value.none, (Value.ref 123), (Value.ref 124), (Value.ref 125), (Value.int 368 0), (Value.int 36 0), (Value.str (S "/claim/cut.py") 369)]) #[])) ::
(nat_lit 127, (Obj.mk (Value.type "function") none (Data.func fd127) #[])) ::
(nat_lit 128, (Obj.mk (Value.type "tuple") none (Data.seq #[] 0) #[])) ::
(nat_lit 130, (Obj.mk (Value.type "tuple") none (Data.seq #[(Value.str (S "self") 374), (Value.str (S "space") 375)] 0) #[])) ::
(nat_lit 131, (Obj.mk (Value.type "tuple") none (Data.seq #[] 0) #[])) ::
(nat_lit 133, (Obj.mk (Value.type "code") none (Data.fields #[(Value.str (S "space") 371), (Value.str (S "Table.space") 372), (Value.str (S "/claim/cut.py") 373), (Value.int 41 0), (Value.int 2 0), (Value.int 0 0), (Value.int 0 0), (Value.int 3 0), (Value.ref 128), (Value.bool Bool.true), (Value.int 181 0), (Value.ref 129), Value.none, (Value.ref 130), (Value.ref 131), (Value.ref 132), (Value.int 376 0), (Value.int 41 0), (Value.str (S "/claim/cut.py") 377)]) #[])) ::
(nat_lit 134, (Obj.mk (Value.type "function") none (Data.func fd134) #[])) ::
(nat_lit 135, (Obj.mk (Value.type "tuple") none (Data.seq #[] 0) #[])) ::
(nat_lit 138, (Obj.mk (Value.type "code") none (Data.fields #[(Value.str (S "is_taken") 379), (Value.str (S "Table.is_taken") 380), (Value.str (S "/claim/cut.py") 381), (Value.int 44 0), (Value.int 3 0), (Value.int 0 0), (Value.int 0 0), (Value.int 3 0), (Value.ref 135), (Value.bool Bool.true), (Value.int 181 0), (Value.ref 136), Value.none, Value.none, Value.none, (Value.ref 137), (Value.int 382 0), (Value.int 44 0), (Value.str (S "/claim/cut.py") 383)]) #[])) ::
(nat_lit 139, (Obj.mk (Value.type "function") none (Data.func fd139) #[])) ::
(nat_lit 140, (Obj.mk (Value.type "tuple") none (Data.seq #[(Value.str (S "types") 385), (Value.str (S "uses") 386), (Value.str (S "values") 387)] 0) #[])) ::
(nat_lit 141, (Obj.mk (Value.type "dict") none (Data.dict #[(en P "__module__" 359 (Value.str (S "lendcore.modules") 270)), (en P "__firstlineno__" 363 (Value.int 34 362)), (en P "__init__" 370 (Value.ref 127)), (en P "space" 378 (Value.ref 134)), (en P "is_taken" 384 (Value.ref 139)), (en P "__static_attributes__" 388 (Value.ref 140)), (en P "__dict__" 390 (Value.ref 143)), (en P "__weakref__" 392 (Value.ref 144)), (en P "__doc__" 393 Value.none)] 4) #[])) ::
(nat_lit 142, (Obj.mk (Value.type "type") none (Data.cls (ClassData.mk (S "Table") [(Value.type "object")] [(Value.ref 142), (Value.type "object")] 141 (S "Table") Bool.true [] [] Bool.false none Bool.false)) #[none, none, (some (Value.str (S "Table") 352)), (some (Value.str (S "Table") 360)), (some (Value.builtin "object.__new__")), (some (Value.bool Bool.true))])) ::
(nat_lit 143, (Obj.mk (Value.type "getset_descriptor") none (Data.fields #[(Value.str (S "__dict__") 389), (Value.ref 142), (Value.builtin "function.__dict__"), (Value.builtin "function.__dict__#set")]) #[])) ::
(nat_lit 144, (Obj.mk (Value.type "getset_descriptor") none (Data.fields #[(Value.str (S "__weakref__") 391), (Value.ref 142), (Value.builtin "ExceptionGroup.__weakref__"), Value.none]) #[])) ::
(nat_lit 154, (Obj.mk (Value.type "tuple") none (Data.seq #[] 0) #[])) ::
(nat_lit 156, (Obj.mk (Value.type "tuple") none (Data.seq #[(Value.str (S "self") 411), (Value.str (S "items") 412), (Value.str (S "left") 413), (Value.str (S "module") 414), (Value.str (S "inner") 415), (Value.str (S "item") 416)] 0) #[])) ::
(nat_lit 157, (Obj.mk (Value.type "tuple") none (Data.seq #[] 0) #[])) ::
(nat_lit 159, (Obj.mk (Value.type "code") none (Data.fields #[(Value.str (S "__init__") 408), (Value.str (S "Modules.__init__") 409), (Value.str (S "/claim/cut.py") 410), (Value.int 48 0), (Value.int 2 0), (Value.int 0 0), (Value.int 0 0), (Value.int 3 0), (Value.ref 154), (Value.bool Bool.true), (Value.int 181 0), (Value.ref 155), Value.none, (Value.ref 156), (Value.ref 157), (Value.ref 158), (Value.int 417 0), (Value.int 48 0), (Value.str (S "/claim/cut.py") 418)]) #[])) ::
(nat_lit 160, (Obj.mk (Value.type "function") none (Data.func fd160) #[])) ::
(nat_lit 161, (Obj.mk (Value.type "tuple") none (Data.seq #[] 0) #[])) ::
(nat_lit 163, (Obj.mk (Value.type "tuple") none (Data.seq #[(Value.str (S "self") 423), (Value.str (S "module") 424), (Value.str (S "item") 425), (Value.str (S "kind") 426), (Value.str (S "spot") 427), (Value.str (S "spaces") 428)] 0) #[])) ::
(nat_lit 164, (Obj.mk (Value.type "tuple") none (Data.seq #[] 0) #[])) ::
(nat_lit 166, (Obj.mk (Value.type "code") none (Data.fields #[(Value.str (S "enter") 420), (Value.str (S "Modules.enter") 421), (Value.str (S "/claim/cut.py") 422), (Value.int 63 0), (Value.int 3 0), (Value.int 0 0), (Value.int 0 0), (Value.int 3 0), (Value.ref 161), (Value.bool Bool.true), (Value.int 181 0), (Value.ref 162), Value.none, (Value.ref 163), (Value.ref 164), (Value.ref 165), (Value.int 429 0), (Value.int 63 0), (Value.str (S "/claim/cut.py") 430)]) #[])) ::
(nat_lit 167, (Obj.mk (Value.type "function") none (Data.func fd167) #[])) ::
(nat_lit 168, (Obj.mk (Value.type "tuple") none (Data.seq #[] 0) #[])) ::
(nat_lit 170, (Obj.mk (Value.type "tuple") none (Data.seq #[(Value.str (S "self") 435), (Value.str (S "module") 436), (Value.str (S "name") 437), (Value.str (S "kind") 438), (Value.str (S "spaces") 439), (Value.str (S "is_pub") 440), (Value.str (S "spot") 441), (Value.str (S "table") 442), (Value.str (S "path") 443), (Value.str (S "space") 444)] 0) #[])) ::
(nat_lit 171, (Obj.mk (Value.type "tuple") none (Data.seq #[] 0) #[])) ::
(nat_lit 173, (Obj.mk (Value.type "code") none (Data.fields #[(Value.str (S "declare") 432), (Value.str (S "Modules.declare") 433), (Value.str (S "/claim/cut.py") 434), (Value.int 82 0), (Value.int 7 0), (Value.int 0 0), (Value.int 0 0), (Value.int 3 0), (Value.ref 168), (Value.bool Bool.true), (Value.int 181 0), (Value.ref 169), Value.none, (Value.ref 170), (Value.ref 171), (Value.ref 172), (Value.int 445 0), (Value.int 82 0), (Value.str (S "/claim/cut.py") 446)]) #[])) ::
(nat_lit 174, (Obj.mk (Value.type "function") none (Data.func fd174) #[])) ::
(nat_lit 175, (Obj.mk (Value.type "tuple") none (Data.seq #[] 0) #[])) ::
(nat_lit 178, (Obj.mk (Value.type "code") none (Data.fields #[(Value.str (S "declare_type") 448), (Value.str (S "Modules.declare_type") 449), (Value.str (S "/claim/cut.py") 450), (Value.int 93 0), (Value.int 5 0), (Value.int 0 0), (Value.int 0 0), (Value.int 3 0), (Value.ref 175), (Value.bool Bool.true), (Value.int 181 0), (Value.ref 176), Value.none, Value.none, Value.none, (Value.ref 177), (Value.int 451 0), (Value.int 93 0), (Value.str (S "/claim/cut.py") 452)]) #[])) ::
(nat_lit 179, (Obj.mk (Value.type "function") none (Data.func fd179) #[])) ::
(nat_lit 180, (Obj.mk (Value.type "tuple") none (Data.seq #[] 0) #[])) ::
(nat_lit 182, (Obj.mk (Value.type "tuple") none (Data.seq #[(Value.str (S "self") 457), (Value.str (S "path") 458), (Value.str (S "item") 459), (Value.str (S "row") 460)] 0) #[])) ::
(nat_lit 183, (Obj.mk (Value.type "tuple") none (Data.seq #[] 0) #[])) ::
(nat_lit 185, (Obj.mk (Value.type "code") none (Data.fields #[(Value.str (S "enter_variants") 454), (Value.str (S "Modules.enter_variants") 455), (Value.str (S "/claim/cut.py") 456), (Value.int 100 0), (Value.int 3 0), (Value.int 0 0), (Value.int 0 0), (Value.int 3 0), (Value.ref 180), (Value.bool Bool.true), (Value.int 181 0), (Value.ref 181), Value.none, (Value.ref 182), (Value.ref 183), (Value.ref 184), (Value.int 461 0), (Value.int 100 0), (Value.str (S "/claim/cut.py") 462)]) #[])) ::
(nat_lit 186, (Obj.mk (Value.type "function") none (Data.func fd186) #[])) ::
(nat_lit 187, (Obj.mk (Value.type "tuple") none (Data.seq #[] 0) #[])) ::
(nat_lit 189, (Obj.mk (Value.type "tuple") none (Data.seq #[(Value.str (S "self") 467), (Value.str (S "module") 468), (Value.str (S "item") 469), (Value.str (S "spot") 470), (Value.str (S "names") 471), (Value.str (S "alias") 472), (Value.str (S "is_pub") 473), (Value.str (S "name") 474), (Value.str (S "table") 475)] 0) #[])) ::
(nat_lit 190, (Obj.mk (Value.type "tuple") none (Data.seq #[] 0) #[])) ::
(nat_lit 192, (Obj.mk (Value.type "code") none (Data.fields #[(Value.str (S "enter_use") 464), (Value.str (S "Modules.enter_use") 465), (Value.str (S "/claim/cut.py") 466), (Value.int 106 0), (Value.int 3 0), (Value.int 0 0), (Value.int 0 0), (Value.int 3 0), (Value.ref 187), (Value.bool Bool.true), (Value.int 181 0), (Value.ref 188), Value.none, (Value.ref 189), (Value.ref 190), (Value.ref 191), (Value.int 476 0), (Value.int 106 0), (Value.str (S "/claim/cut.py") 477)]) #[])) ::
(nat_lit 193, (Obj.mk (Value.type "function") none (Data.func fd193) #[])) ::
(nat_lit 194, (Obj.mk (Value.type "tuple") none (Data.seq #[] 0) #[])) ::
(nat_lit 196, (Obj.mk (Value.type "tuple") none (Data.seq #[(Value.str (S "self") 482), (Value.str (S "asker") 483), (Value.str (S "owner") 484), (Value.str (S "is_pub") 485)] 0) #[])) ::
(nat_lit 197, (Obj.mk (Value.type "tuple") none (Data.seq #[] 0) #[])) ::
(nat_lit 199, (Obj.mk (Value.type "code") none (Data.fields #[(Value.str (S "can_see") 479), (Value.str (S "Modules.can_see") 480), (Value.str (S "/claim/cut.py") 481), (Value.int 116 0), (Value.int 4 0), (Value.int 0 0), (Value.int 0 0), (Value.int 3 0), (Value.ref 194), (Value.bool Bool.true), (Value.int 181 0), (Value.ref 195), Value.none, (Value.ref 196), (Value.ref 197), (Value.ref 198), (Value.int 486 0), (Value.int 116 0), (Value.str (S "/claim/cut.py") 487)]) #[])) ::
(nat_lit 200, (Obj.mk (Value.type "function") none (Data.func fd200) #[])) ::
(nat_lit 201, (Obj.mk (Value.type "tuple") none (Data.seq #[(Value.int 0 489)] 0) #[])) ::
(nat_lit 202, (Obj.mk (Value.type "tuple") none (Data.seq #[] 0) #[])) ::
(nat_lit 204, (Obj.mk (Value.type "tuple") none (Data.seq #[(Value.str (S "self") 493), (Value.str (S "module") 494), (Value.str (S "names") 495), (Value.str (S "space") 496), (Value.str (S "spot") 497)] 0) #[])) ::
(nat_lit 205, (Obj.mk (Value.type "tuple") none (Data.seq #[] 0) #[])) ::
(nat_lit 207, (Obj.mk (Value.type "code") none (Data.fields #[(Value.str (S "find") 490), (Value.str (S "Modules.find") 491), (Value.str (S "/claim/cut.py") 492), (Value.int 119 0), (Value.int 5 0), (Value.int 0 0), (Value.int 0 0), (Value.int 3 0), (Value.ref 202), (Value.bool Bool.true), (Value.int 181 0), (Value.ref 203), Value.none, (Value.ref 204), (Value.ref 205), (Value.ref 206), (Value.int 498 0), (Value.int 119 0), (Value.str (S "/claim/cut.py") 499)]) #[])) ::
(nat_lit 208, (Obj.mk (Value.type "function") none (Data.func fd208) #[])) ::
(nat_lit 209, (Obj.mk (Value.type "tuple") none (Data.seq #[] 0) #[])) ::
(nat_lit 211, (Obj.mk (Value.type "tuple") none (Data.seq #[(Value.str (S "self") 504), (Value.str (S "module") 505), (Value.str (S "names") 506), (Value.str (S "space") 507), (Value.str (S "spot") 508), (Value.str (S "seen") 509), (Value.str (S "here") 510), (Value.str (S "at") 511), (Value.str (S "wanted") 512), (Value.str (S "found") 513)] 0) #[])) ::
(nat_lit 212, (Obj.mk (Value.type "tuple") none (Data.seq #[] 0) #[])) ::
(nat_lit 214, (Obj.mk (Value.type "code") none (Data.fields #[(Value.str (S "walk") 501), (Value.str (S "Modules.walk") 502), (Value.str (S "/claim/cut.py") 503), (Value.int 123 0), (Value.int 6 0), (Value.int 0 0), (Value.int 0 0), (Value.int 3 0), (Value.ref 209), (Value.bool Bool.true), (Value.int 181 0), (Value.ref 210), Value.none, (Value.ref 211), (Value.ref 212), (Value.ref 213), (Value.int 514 0), (Value.int 123 0), (Value.str (S "/claim/cut.py") 515)]) #[])) ::
(nat_lit 215, (Obj.mk (Value.type "function") none (Data.func fd215) #[])) ::
(nat_lit 216, (Obj.mk (Value.type "tuple") none (Data.seq #[] 0) #[])) ::
(nat_lit 218, (Obj.mk (Value.type "tuple") none (Data.seq #[(Value.str (S "self") 520), (Value.str (S "module") 521), (Value.str (S "names") 522), (Value.str (S "spot") 523), (Value.str (S "here") 524), (Value.str (S "at") 525)] 0) #[])) ::
(nat_lit 219, (Obj.mk (Value.type "tuple") none (Data.seq #[] 0) #[])) ::
(nat_lit 221, (Obj.mk (Value.type "code") none (Data.fields #[(Value.str (S "begin") 517), (Value.str (S "Modules.begin") 518), (Value.str (S "/claim/cut.py") 519), (Value.int 135 0), (Value.int 4 0), (Value.int 0 0), (Value.int 0 0), (Value.int 3 0), (Value.ref 216), (Value.bool Bool.true), (Value.int 181 0), (Value.ref 217), Value.none, (Value.ref 218), (Value.ref 219), (Value.ref 220), (Value.int 526 0), (Value.int 135 0), (Value.str (S "/claim/cut.py") 527)]) #[])) ::
(nat_lit 222, (Obj.mk (Value.type "function") none (Data.func fd222) #[])) ::
(nat_lit 223, (Obj.mk (Value.type "tuple") none (Data.seq #[] 0) #[])) ::
(nat_lit 225, (Obj.mk (Value.type "tuple") none (Data.seq #[(Value.str (S "self") 532), (Value.str (S "module") 533), (Value.str (S "here") 534), (Value.str (S "name") 535), (Value.str (S "space") 536), (Value.str (S "spot") 537), (Value.str (S "seen") 538), (Value.str (S "found") 539)] 0) #[])) ::
(nat_lit 226, (Obj.mk (Value.type "tuple") none (Data.seq #[] 0) #[])) ::
(nat_lit 228, (Obj.mk (Value.type "code") none (Data.fields #[(Value.str (S "step") 529), (Value.str (S "Modules.step") 530), (Value.str (S "/claim/cut.py") 531), (Value.int 149 0), (Value.int 7 0), (Value.int 0 0), (Value.int 0 0), (Value.int 3 0), (Value.ref 223), (Value.bool Bool.true), (Value.int 181 0), (Value.ref 224), Value.none, (Value.ref 225), (Value.ref 226), (Value.ref 227), (Value.int 540 0), (Value.int 149 0), (Value.str (S "/claim/cut.py") 541)]) #[])) ::
(nat_lit 229, (Obj.mk (Value.type "function") none (Data.func fd229) #[])) ::
(nat_lit 230, (Obj.mk (Value.type "tuple") none (Data.seq #[] 0) #[])) ::
(nat_lit 232, (Obj.mk (Value.type "tuple") none (Data.seq #[(Value.str (S "self") 546), (Value.str (S "asker") 547), (Value.str (S "owner") 548), (Value.str (S "name") 549), (Value.str (S "space") 550), (Value.str (S "spot") 551), (Value.str (S "seen") 552), (Value.str (S "path") 553), (Value.str (S "table") 554), (Value.str (S "use") 555)] 0) #[])) ::
(nat_lit 233, (Obj.mk (Value.type "tuple") none (Data.seq #[] 0) #[])) ::
(nat_lit 235, (Obj.mk (Value.type "code") none (Data.fields #[(Value.str (S "look") 543), (Value.str (S "Modules.look") 544), (Value.str (S "/claim/cut.py") 545), (Value.int 157 0), (Value.int 7 0), (Value.int 0 0), (Value.int 0 0), (Value.int 3 0), (Value.ref 230), (Value.bool Bool.true), (Value.int 181 0), (Value.ref 231), Value.none, (Value.ref 232), (Value.ref 233), (Value.ref 234), (Value.int 556 0), (Value.int 157 0), (Value.str (S "/claim/cut.py") 557)]) #[])) ::
(nat_lit 236, (Obj.mk (Value.type "function") none (Data.func fd236) #[])) ::
(nat_lit 237, (Obj.mk (Value.type "tuple") none (Data.seq #[] 0) #[])) ::
(nat_lit 239, (Obj.mk (Value.type "tuple") none (Data.seq #[(Value.str (S "self") 562), (Value.str (S "owner") 563), (Value.str (S "name") 564), (Value.str (S "use") 565), (Value.str (S "space") 566), (Value.str (S "seen") 567), (Value.str (S "found") 568)] 0) #[])) ::
(nat_lit 240, (Obj.mk (Value.type "tuple") none (Data.seq #[] 0) #[])) ::
(nat_lit 242, (Obj.mk (Value.type "code") none (Data.fields #[(Value.str (S "follow") 559), (Value.str (S "Modules.follow") 560), (Value.str (S "/claim/cut.py") 561), (Value.int 176 0), (Value.int 6 0), (Value.int 0 0), (Value.int 0 0), (Value.int 3 0), (Value.ref 237), (Value.bool Bool.true), (Value.int 181 0), (Value.ref 238), Value.none, (Value.ref 239), (Value.ref 240), (Value.ref 241), (Value.int 569 0), (Value.int 176 0), (Value.str (S "/claim/cut.py") 570)]) #[])) ::
(nat_lit 243, (Obj.mk (Value.type "function") none (Data.func fd243) #[])) ::
(nat_lit 244, (Obj.mk (Value.type "tuple") none (Data.seq #[(Value.int 0 572)] 0) #[])) ::
(nat_lit 245, (Obj.mk (Value.type "tuple") none (Data.seq #[] 0) #[])) ::
(nat_lit 247, (Obj.mk (Value.type "tuple") none (Data.seq #[(Value.str (S "self") 576), (Value.str (S "module") 577), (Value.str (S "names") 578), (Value.str (S "spot") 579)] 0) #[])) ::
(nat_lit 248, (Obj.mk (Value.type "tuple") none (Data.seq #[] 0) #[])) ::
(nat_lit 250, (Obj.mk (Value.type "code") none (Data.fields #[(Value.str (S "find_prefix") 573), (Value.str (S "Modules.find_prefix") 574), (Value.str (S "/claim/cut.py") 575), (Value.int 185 0), (Value.int 4 0), (Value.int 0 0), (Value.int 0 0), (Value.int 3 0), (Value.ref 245), (Value.bool Bool.true), (Value.int 181 0), (Value.ref 246), Value.none, (Value.ref 247), (Value.ref 248), (Value.ref 249), (Value.int 580 0), (Value.int 185 0), (Value.str (S "/claim/cut.py") 581)]) #[])) ::
(nat_lit 251, (Obj.mk (Value.type "function") none (Data.func fd251) #[])) ::
(nat_lit 252, (Obj.mk (Value.type "tuple") none (Data.seq #[] 0) #[])) ::
(nat_lit 254, (Obj.mk (Value.type "tuple") none (Data.seq #[(Value.str (S "self") 586)] 0) #[])) ::
(nat_lit 255, (Obj.mk (Value.type "tuple") none (Data.seq #[] 0) #[])) ::
(nat_lit 257, (Obj.mk (Value.type "code") none (Data.fields #[(Value.str (S "checked_uses") 583), (Value.str (S "Modules.checked_uses") 584), (Value.str (S "/claim/cut.py") 585), (Value.int 188 0), (Value.int 1 0), (Value.int 0 0), (Value.int 0 0), (Value.int 3 0), (Value.ref 252), (Value.bool Bool.true), (Value.int 181 0), (Value.ref 253), Value.none, (Value.ref 254), (Value.ref 255), (Value.ref 256), (Value.int 587 0), (Value.int 188 0), (Value.str (S "/claim/cut.py") 588)]) #[])) ::
(nat_lit 258, (Obj.mk (Value.type "function") none (Data.func fd258) #[])) ::
(nat_lit 259, (Obj.mk (Value.type "tuple") none (Data.seq #[] 0) #[])) ::
(nat_lit 261, (Obj.mk (Value.type "tuple") none (Data.seq #[(Value.str (S "self") 593)] 0) #[])) ::
(nat_lit 262, (Obj.mk (Value.type "tuple") none (Data.seq #[] 0) #[])) ::
(nat_lit 264, (Obj.mk (Value.type "code") none (Data.fields #[(Value.str (S "checked_publics") 590), (Value.str (S "Modules.checked_publics") 591), (Value.str (S "/claim/cut.py") 592), (Value.int 191 0), (Value.int 1 0), (Value.int 0 0), (Value.int 0 0), (Value.int 3 0), (Value.ref 259), (Value.bool Bool.true), (Value.int 181 0), (Value.ref 260), Value.none, (Value.ref 261), (Value.ref 262), (Value.ref 263), (Value.int 594 0), (Value.int 191 0), (Value.str (S "/claim/cut.py") 595)]) #[])) ::
(nat_lit 265, (Obj.mk (Value.type "function") none (Data.func fd265) #[])) ::
(nat_lit 266, (Obj.mk (Value.type "tuple") none (Data.seq #[] 0) #[])) ::
(nat_lit 268, (Obj.mk (Value.type "tuple") none (Data.seq #[(Value.str (S "self") 600), (Value.str (S "module") 601), (Value.str (S "use") 602)] 0) #[])) ::
(nat_lit 269, (Obj.mk (Value.type "tuple") none (Data.seq #[] 0) #[])) ::
(nat_lit 271, (Obj.mk (Value.type "code") none (Data.fields #[(Value.str (S "may_tell_on") 597), (Value.str (S "Modules.may_tell_on") 598), (Value.str (S "/claim/cut.py") 599), (Value.int 194 0), (Value.int 3 0), (Value.int 0 0), (Value.int 0 0), (Value.int 3 0), (Value.ref 266), (Value.bool Bool.true), (Value.int 181 0), (Value.ref 267), Value.none, (Value.ref 268), (Value.ref 269), (Value.ref 270), (Value.int 603 0), (Value.int 194 0), (Value.str (S "/claim/cut.py") 604)]) #[])) ::
(nat_lit 272, (Obj.mk (Value.type "function") none (Data.func fd272) #[])) ::
(nat_lit 273, (Obj.mk (Value.type "tuple") none (Data.seq #[(Value.str (S "generics") 606), (Value.str (S "items") 607), (Value.str (S "kept") 608), (Value.str (S "kinds") 609), (Value.str (S "publics") 610), (Value.str (S "tables") 611)] 0) #[])) ::
(nat_lit 274, (Obj.mk (Value.type "dict") none (Data.dict #[(en P "__module__" 403 (Value.str (S "lendcore.modules") 270)), (en P "__firstlineno__" 407 (Value.int 46 406)), (en P "__init__" 419 (Value.ref 160)), (en P "enter" 431 (Value.ref 167)), (en P "declare" 447 (Value.ref 174)), (en P "declare_type" 453 (Value.ref 179)), (en P "enter_variants" 463 (Value.ref 186)), (en P "enter_use" 478 (Value.ref 193)), (en P "can_see" 488 (Value.ref 200)), (en P "find" 500 (Value.ref 208)), (en P "walk" 516 (Value.ref 215)), (en P "begin" 528 (Value.ref 222)), (en P "step" 542 (Value.ref 229)), (en P "look" 558 (Value.ref 236)), (en P "follow" 571 (Value.ref 243)), (en P "find_prefix" 582 (Value.ref 251)), (en P "checked_uses" 589 (Value.ref 258)), (en P "checked_publics" 596 (Value.ref 265)), (en P "may_tell_on" 605 (Value.ref 272)), (en P "__static_attributes__" 612 (Value.ref 273)), (en P "__dict__" 614 (Value.ref 276)), (en P "__weakref__" 616 (Value.ref 277)), (en P "__doc__" 617 Value.none)] 4) #[])) ::
(nat_lit 275, (Obj.mk (Value.type "type") none (Data.cls (ClassData.mk (S "Modules") [(Value.type "object")] [(Value.ref 275), (Value.type "object")] 274 (S "Modules") Bool.true [] [] Bool.false none Bool.false)) #[none, none, (some (Value.str (S "Modules") 396)), (some (Value.str (S "Modules") 404)), (some (Value.builtin "object.__new__")), (some (Value.bool Bool.true))])) ::
(nat_lit 276, (Obj.mk (Value.type "getset_descriptor") none (Data.fields #[(Value.str (S "__dict__") 613), (Value.ref 275), (Value.builtin "function.__dict__"), (Value.builtin "function.__dict__#set")]) #[])) ::
(nat_lit 277, (Obj.mk (Value.type "getset_descriptor") none (Data.fields #[(Value.str (S "__weakref__") 615), (Value.ref 275), (Value.builtin "ExceptionGroup.__weakref__"), Value.none]) #[])) ::
(nat_lit 280, (Obj.mk (Value.type "tuple") none (Data.seq #[] 0) #[])) ::
(nat_lit 282, (Obj.mk (Value.type "tuple") none (Data.seq #[(Value.str (S "script") 625), (Value.str (S "cell") 626), (Value.str (S "great") 627)] 0) #[])) ::
(nat_lit 283, (Obj.mk (Value.type "tuple") none (Data.seq #[] 0) #[])) ::
(nat_lit 285, (Obj.mk (Value.type "code") none (Data.fields #[(Value.str (S "_law_pool") 622), (Value.str (S "_law_pool") 623), (Value.str (S "/claim/cut.py") 624), (Value.int 197 0), (Value.int 1 0), (Value.int 0 0), (Value.int 0 0), (Value.int 3 0), (Value.ref 280), (Value.bool Bool.true), (Value.int 181 0), (Value.ref 281), Value.none, (Value.ref 282), (Value.ref 283), (Value.ref 284), (Value.int 628 0), (Value.int 197 0), (Value.str (S "/claim/cut.py") 629)]) #[])) ::
(nat_lit 286, (Obj.mk (Value.type "function") none (Data.func fd286) #[])) ::
(nat_lit 287, (Obj.mk (Value.type "tuple") none (Data.seq #[] 0) #[])) ::
(nat_lit 289, (Obj.mk (Value.type "tuple") none (Data.seq #[(Value.str (S "source") 634), (Value.str (S "top") 635), (Value.str (S "drawn") 636)] 0) #[])) ::
(nat_lit 290, (Obj.mk (Value.type "tuple") none (Data.seq #[] 0) #[])) ::
(nat_lit 292, (Obj.mk (Value.type "code") none (Data.fields #[(Value.str (S "_law_take") 631), (Value.str (S "_law_take") 632), (Value.str (S "/claim/cut.py") 633), (Value.int 201 0), (Value.int 2 0), (Value.int 0 0), (Value.int 0 0), (Value.int 3 0), (Value.ref 287), (Value.bool Bool.true), (Value.int 181 0), (Value.ref 288), Value.none, (Value.ref 289), (Value.ref 290), (Value.ref 291), (Value.int 637 0), (Value.int 201 0), (Value.str (S "/claim/cut.py") 638)]) #[])) ::
(nat_lit 293, (Obj.mk (Value.type "function") none (Data.func fd293) #[])) ::
(nat_lit 294, (Obj.mk (Value.type "tuple") none (Data.seq #[] 0) #[])) ::
(nat_lit 296, (Obj.mk (Value.type "tuple") none (Data.seq #[(Value.str (S "source") 643), (Value.str (S "things") 644)] 0) #[])) ::
(nat_lit 297, (Obj.mk (Value.type "tuple") none (Data.seq #[] 0) #[])) ::
(nat_lit 299, (Obj.mk (Value.type "code") none (Data.fields #[(Value.str (S "_law_one") 640), (Value.str (S "_law_one") 641), (Value.str (S "/claim/cut.py") 642), (Value.int 208 0), (Value.int 2 0), (Value.int 0 0), (Value.int 0 0), (Value.int 3 0), (Value.ref 294), (Value.bool Bool.true), (Value.int 181 0), (Value.ref 295), Value.none, (Value.ref 296), (Value.ref 297), (Value.ref 298), (Value.int 645 0), (Value.int 208 0), (Value.str (S "/claim/cut.py") 646)]) #[])) ::
(nat_lit 300, (Obj.mk (Value.type "function") none (Data.func fd300) #[])) ::
(nat_lit 301, (Obj.mk (Value.type "tuple") none (Data.seq #[] 0) #[])) ::
(nat_lit 303, (Obj.mk (Value.type "tuple") none (Data.seq #[(Value.str (S "owner") 651), (Value.str (S "seen") 652), (Value.str (S "is_turned") 653), (Value.str (S "found") 654), (Value.str (S "path") 655)] 0) #[])) ::
(nat_lit 304, (Obj.mk (Value.type "tuple") none (Data.seq #[] 0) #[])) ::
(nat_lit 306, (Obj.mk (Value.type "code") none (Data.fields #[(Value.str (S "_law_items") 648), (Value.str (S "_law_items") 649), (Value.str (S "/claim/cut.py") 650), (Value.int 210 0), (Value.int 3 0), (Value.int 0 0), (Value.int 0 0), (Value.int 3 0), (Value.ref 301), (Value.bool Bool.true), (Value.int 181 0), (Value.ref 302), Value.none, (Value.ref 303), (Value.ref 304), (Value.ref 305), (Value.int 656 0), (Value.int 210 0), (Value.str (S "/claim/cut.py") 657)]) #[])) ::
(nat_lit 307, (Obj.mk (Value.type "function") none (Data.func fd307) #[])) ::
(nat_lit 308, (Obj.mk (Value.type "tuple") none (Data.seq #[] 0) #[])) ::
(nat_lit 310, (Obj.mk (Value.type "tuple") none (Data.seq #[(Value.str (S "asker") 662), (Value.str (S "names") 663), (Value.str (S "here") 664), (Value.str (S "left") 665)] 0) #[])) ::
(nat_lit 311, (Obj.mk (Value.type "tuple") none (Data.seq #[] 0) #[])) ::
(nat_lit 313, (Obj.mk (Value.type "code") none (Data.fields #[(Value.str (S "_law_begin") 659), (Value.str (S "_law_begin") 660), (Value.str (S "/claim/cut.py") 661), (Value.int 218 0), (Value.int 2 0), (Value.int 0 0), (Value.int 0 0), (Value.int 3 0), (Value.ref 308), (Value.bool Bool.true), (Value.int 181 0), (Value.ref 309), Value.none, (Value.ref 310), (Value.ref 311), (Value.ref 312), (Value.int 666 0), (Value.int 218 0), (Value.str (S "/claim/cut.py") 667)]) #[])) ::
(nat_lit 314, (Obj.mk (Value.type "function") none (Data.func fd314) #[])) ::
(nat_lit 315, (Obj.mk (Value.type "tuple") none (Data.seq #[] 0) #[])) ::
(nat_lit 317, (Obj.mk (Value.type "tuple") none (Data.seq #[(Value.str (S "asker") 672), (Value.str (S "names") 673), (Value.str (S "seen") 674), (Value.str (S "first") 675), (Value.str (S "here") 676), (Value.str (S "left") 677), (Value.str (S "at") 678), (Value.str (S "name") 679)] 0) #[])) ::
(nat_lit 318, (Obj.mk (Value.type "tuple") none (Data.seq #[] 0) #[])) ::
(nat_lit 320, (Obj.mk (Value.type "code") none (Data.fields #[(Value.str (S "_law_due") 669), (Value.str (S "_law_due") 670), (Value.str (S "/claim/cut.py") 671), (Value.int 228 0), (Value.int 3 0), (Value.int 0 0), (Value.int 0 0), (Value.int 3 0), (Value.ref 315), (Value.bool Bool.true), (Value.int 181 0), (Value.ref 316), Value.none, (Value.ref 317), (Value.ref 318), (Value.ref 319), (Value.int 680 0), (Value.int 228 0), (Value.str (S "/claim/cut.py") 681)]) #[])) ::
(nat_lit 321, (Obj.mk (Value.type "function") none (Data.func fd321) #[])) ::
(nat_lit 322, (Obj.mk (Value.type "tuple") none (Data.seq #[] 0) #[])) ::
(nat_lit 324, (Obj.mk (Value.type "tuple") none (Data.seq #[(Value.str (S "modules") 686), (Value.str (S "asker") 687), (Value.str (S "names") 688)] 0) #[])) ::
(nat_lit 325, (Obj.mk (Value.type "tuple") none (Data.seq #[] 0) #[])) ::
(nat_lit 327, (Obj.mk (Value.type "code") none (Data.fields #[(Value.str (S "_law_found") 683), (Value.str (S "_law_found") 684), (Value.str (S "/claim/cut.py") 685), (Value.int 240 0), (Value.int 3 0), (Value.int 0 0), (Value.int 0 0), (Value.int 3 0), (Value.ref 322), (Value.bool Bool.true), (Value.int 181 0), (Value.ref 323), Value.none, (Value.ref 324), (Value.ref 325), (Value.ref 326), (Value.int 689 0), (Value.int 240 0), (Value.str (S "/claim/cut.py") 690)]) #[])) ::
(nat_lit 328, (Obj.mk (Value.type "function") none (Data.func fd328) #[])) ::
(nat_lit 329, (Obj.mk (Value.type "tuple") none (Data.seq #[] 0) #[])) ::
(nat_lit 332, (Obj.mk (Value.type "code") none (Data.fields #[(Value.str (S "law") 692), (Value.str (S "law") 693), (Value.str (S "/claim/cut.py") 694), (Value.int 247 0), (Value.int 1 0), (Value.int 0 0), (Value.int 0 0), (Value.int 3 0), (Value.ref 329), (Value.bool Bool.true), (Value.int 181 0), (Value.ref 330), Value.none, Value.none, Value.none, (Value.ref 331), (Value.int 695 0), (Value.int 247 0), (Value.str (S "/claim/cut.py") 696)]) #[])) ::
(nat_lit 333, (Obj.mk (Value.type "function") none (Data.func fd333) #[])) :: []
noncomputable def heap_39 : Params → Frag := by
  refine (?f : (K : Params → Frag) → (∀ P, raw P = K P) → (Params → Frag)) ?K ?h
  case f => exact fun K _ => K
  case h =>
    intro P
    delta raw S en fd21 fd36 fd78 fd85 fd92 fd106 fd127 fd134 fd139 fd160 fd167 fd174 fd179 fd186 fd193 fd200 fd208 fd215 fd222 fd229 fd236 fd243 fd251 fd258 fd265 fd272 fd286 fd293 fd300 fd307 fd314 fd321 fd328 fd333
    exact rfl
noncomputable def pick : List Nat → List Stmt → List Stmt
  | [], _ => []
  | i :: r, l => nth i l :: pick r l
noncomputable def view_39 : Program := by
  refine (?f : (K : Program) → ({ Challenge.pw_up0052_01 with main := { Challenge.pw_up0052_01.main with body := pick [0, 2, 3, 4, 5, 7, 8, 9, 10, 11, 12, 13, 14, 15, 16, 18, 19, 20, 21, 22, 23, 24, 25] Challenge.pw_up0052_01.main.body } } : Program) = K → Program) ?K ?h
  case f => exact fun K _ => K
  case h =>
    dsimp only [pick, nth, Challenge.pw_up0052_01]
    exact rfl
end Mine.hd
namespace Mine.hd
abbrev loose : List Str := [Str.ofString "LendError", Str.ofString "PLAIN_NAMES"]
abbrev lv : List (Str × WData) := [(Str.ofString "PLAIN_NAMES", WData.tuple [WData.str ⟨#[105, 56]⟩, WData.str ⟨#[105, 49, 54]⟩, WData.str ⟨#[105, 51, 50]⟩, WData.str ⟨#[105, 54, 52]⟩, WData.str ⟨#[117, 56]⟩, WData.str ⟨#[117, 49, 54]⟩, WData.str ⟨#[117, 51, 50]⟩, WData.str ⟨#[117, 54, 52]⟩, WData.str ⟨#[117, 115, 105, 122, 101]⟩, WData.str ⟨#[98, 111, 111, 108]⟩, WData.str ⟨#[66, 111, 120]⟩])]
noncomputable def addrs : List Addr := [2, 3, 15, 17, 18, 20, 21, 22, 29, 30, 32, 33, 35, 36, 37, 38, 39, 40, 43, 50, 51, 52, 55, 62, 63, 64, 68, 69, 71, 72, 74, 75, 77, 78, 79, 81, 82, 84, 85, 86, 88, 89, 91, 92, 100, 102, 103, 105, 106, 107, 108, 109, 110, 111, 121, 123, 124, 126, 127, 128, 130, 131, 133, 134, 135, 138, 139, 140, 141, 142, 143, 144, 154, 156, 157, 159, 160, 161, 163, 164, 166, 167, 168, 170, 171, 173, 174, 175, 178, 179, 180, 182, 183, 185, 186, 187, 189, 190, 192, 193, 194, 196, 197, 199, 200, 201, 202, 204, 205, 207, 208, 209, 211, 212, 214, 215, 216, 218, 219, 221, 222, 223, 225, 226, 228, 229, 230, 232, 233, 235, 236, 237, 239, 240, 242, 243, 244, 245, 247, 248, 250, 251, 252, 254, 255, 257, 258, 259, 261, 262, 264, 265, 266, 268, 269, 271, 272, 273, 274, 275, 276, 277, 280, 282, 283, 285, 286, 287, 289, 290, 292, 293, 294, 296, 297, 299, 300, 301, 303, 304, 306, 307, 308, 310, 311, 313, 314, 315, 317, 318, 320, 321, 322, 324, 325, 327, 328, 329, 332, 333]
theorem addrs_eq : ∀ P, addrs = (heap_39 P).map (·.1) := fun _ => by kernel_rfl
noncomputable abbrev hook : Hook := kHook heap_39 addrs addrs_eq
abbrev row : RowW := OpenRow.toRowW (OpenLaw.row Challenge.rw_up0052_01)
noncomputable abbrev xt (s : Shared) : Bool := xlAt view_39 lv s && recOk row.records s
theorem said : OpenLaw.wellSaid Challenge.rw_up0052_01 = true := by kernel_rfl
theorem left : LeftO row.prog view_39 loose xt hook.obs hook.val 5038 := by intro w; kernel_rfl
end Mine.hd
namespace Mine
/- DI -/
section
/-- a plain dict of the heap, by its entries -/
noncomputable def RawDict (h : Heap) (d : Addr) (es : Array DictEntry) (ep : Nat) : Prop := ∃ o, h.get? d = some o ∧ o.ExactDict ∧ o.data = .dict es ep
section
variable {prog : Program} {w : World} {A : Around} {E : Value → Shared → Prop} {s : Shared} {d it : Addr} {es : Array DictEntry} {ep i : Nat}
theorem RawDict.typeIs (x : RawDict s.heap d es ep) : s.TypeIs (.ref d) "dict" := let ⟨o, ho, hc, _⟩ := x; ⟨o, ho, hc.1⟩

theorem raw_iter {Q : Value → Shared → Prop} (hd : (d == sysModules) = false) (hm : RawDict s.heap d es ep)
    (hQ : Q (.ref s.heap.objs.size) { s with heap := s.heap.push { cls := .type "dict_keyiterator", data := .fields #[.ref d, .int 0 0, .int es.size 0, .int ep 0] } }) :
    wpAny (model prog w) A (pyIter (.ref d)) Q E s := by
  have hT := hm.typeIs
  obtain ⟨o, ho, hc, hdat⟩ := hm
  refine wpAny_pyIter_slot hT F.slot_dict_iter (wpAny_call_entry F.slot_dict_iter hT F.entry_dict_iter ?_ (F.args_dict_iter_1 _))
  unfold Builtin.«dict.__iter__»
  refine wpAny_bind ?_
  unfold Builtin.Dict.dictSlotNone
  refine wpAny_bind (wpAny_notOrdered_dict hT ?_)
  show wpAny _ _ (pure (Value.ref d)) _ _ s
  refine wpAny_pure ?_
  show wpAny _ _ (Builtin.Dict.showsAll d >>= _) _ _ s
  unfold Builtin.Dict.showsAll
  rw [if_neg (by rw [hd]; exact Bool.false_ne_true)]
  refine wpAny_bind (wpAny_pure ?_)
  refine wpAny_bind (wpAny_dictEntries ho hdat ?_)
  refine wpAny_bind (wpAny_dictEpoch ho hdat ?_)
  refine wpAny_bind (wpAny_newObj_type (wpAny_pure ⟨_, rfl, "dict_keyiterator", _, ⟨_, Heap.get?_push_size _ rfl, rfl⟩, F.slot_dict_keyiterator_next.lookup, ?_⟩))
  simpa [rawInt] using hQ

theorem raw_next_item {e : DictEntry} {Q : Option Value → Shared → Prop} (hit : s.heap.IsKeyIter it d i es.size ep)
    (hm : RawDict s.heap d es ep) (hx : es[i]? = some e)
    (hQ : ∀ h', h'.IsKeyIter it d (i + 1) es.size ep → Heap.SameBut it s.heap h' → Q (some e.key) { s with heap := h' }) :
    wpAny (model prog w) A (pyNext (.ref it)) Q E s := by
  have hT := hit.typeIs
  obtain ⟨o, ho, hc, hd⟩ := hit
  obtain ⟨od, hod, hcd, hdd⟩ := hm
  unfold pyNext
  refine wpAny_bind (wpAny_attempt (wpAny_callSpecial?_slot (name := Str.ofString "__next__") hT F.slot_dict_keyiterator_next
    (wpAny_call_entry F.slot_dict_keyiterator_next hT F.entry_dict_keyiterator_next ?_ (F.args_dict_keyiterator_next_1 _))))
  refine wpAny_bind (wpAny_pure ?_)
  refine wpAny_bind ?_
  refine wpAny_bind ?_
  first | refine wpAny_bind (wpAny_typeNameOfWhole_keyiter hT (wpAny_pure ?_)) | refine wpAny_bind (wpAny_typeNameOf_keyiter hT (wpAny_pure ?_))
  refine wpAny_bind (wpAny_fieldsOf ho hd ?_)
  have hown : Builtin.Dict_items.ownsTuple "dict_keyiterator" = false := by decide
  rw [hown, if_neg Bool.false_ne_true]
  show wpAny _ _ (if (Value.ref d == Value.none) = true then _ else _) _ _ s
  rw [if_neg (show ¬ ((Value.ref d == Value.none) = true) from Bool.false_ne_true)]
  refine wpAny_bind (wpAny_pure ?_)
  refine wpAny_bind (wpAny_dictEntries hod hdd ?_)
  rw [if_neg (by simp)]
  refine wpAny_bind (wpAny_pure ?_)
  refine wpAny_bind (wpAny_dictEpoch hod hdd ?_)
  rw [if_neg (by simp)]
  refine wpAny_pure ?_
  dsimp only
  rw [if_neg (show ¬ ((i : Int) < 0) from by omega), Int.toNat_natCast, hx]
  dsimp only
  refine wpAny_bind ?_
  first | refine wpAny_bind (wpAny_typeNameOfWhole_keyiter hT (wpAny_pure ?_)) | refine wpAny_bind (wpAny_typeNameOf_keyiter hT (wpAny_pure ?_))
  refine wpAny_bind (wpAny_isOneOf_keyiter hT ?_)
  show wpAny _ _ (setField (.ref it) 1 (rawInt ((i : Int) + 1)) >>= _) _ _ s
  refine wpAny_bind (wpAny_setField ho hd (by simp) ?_)
  have hit' : (s.heap.update it (Obj.mapFields (·.setIfInBounds 1 (rawInt ((i : Int) + 1))))).IsKeyIter it d (i + 1) es.size ep :=
    ⟨_, Heap.get?_update_self _ ho (Obj.isFreed_of_fields (Obj.data_mapFields hd _)), (Obj.cls_mapFields ..).trans hc, by rw [Obj.data_mapFields hd]; simp [rawInt]⟩
  refine wpAny_bind (wpAny_holding ?_)
  refine wpAny_bind (wpAny_isOneOf_keyiter (s := { s with heap := s.heap.update it (Obj.mapFields (·.setIfInBounds 1 (rawInt ((i : Int) + 1)))) }) hit'.typeIs ?_)
  show wpAny _ _ (pure e.key) _ _ _
  exact wpAny_pure (wpAny_pure ⟨_, rfl, wpAny_pure (hQ _ hit' (Heap.SameBut.update ..))⟩)

theorem raw_next_end {Q : Option Value → Shared → Prop} (hh : A.handled = none) (hit : s.heap.IsKeyIter it d es.size es.size ep)
    (hm : RawDict s.heap d es ep)
    (hQ : ∀ h', Heap.ExtBut it s.heap h' → Q none { s with heap := h' }) : wpAny (model prog w) A (pyNext (.ref it)) Q E s := by
  have hT := hit.typeIs
  obtain ⟨o, ho, hc, hd⟩ := hit
  obtain ⟨od, hod, hcd, hdd⟩ := hm
  unfold pyNext
  refine wpAny_bind (wpAny_attempt (wpAny_callSpecial?_slot (name := Str.ofString "__next__") hT F.slot_dict_keyiterator_next
    (wpAny_call_entry F.slot_dict_keyiterator_next hT F.entry_dict_keyiterator_next ?_ (F.args_dict_keyiterator_next_1 _))))
  refine wpAny_bind (wpAny_pure ?_)
  refine wpAny_bind ?_
  refine wpAny_bind ?_
  first | refine wpAny_bind (wpAny_typeNameOfWhole_keyiter hT (wpAny_pure ?_)) | refine wpAny_bind (wpAny_typeNameOf_keyiter hT (wpAny_pure ?_))
  refine wpAny_bind (wpAny_fieldsOf ho hd ?_)
  have hown : Builtin.Dict_items.ownsTuple "dict_keyiterator" = false := by decide
  rw [hown, if_neg Bool.false_ne_true]
  show wpAny _ _ (if (Value.ref d == Value.none) = true then _ else _) _ _ s
  rw [if_neg (show ¬ ((Value.ref d == Value.none) = true) from Bool.false_ne_true)]
  refine wpAny_bind (wpAny_pure ?_)
  refine wpAny_bind (wpAny_dictEntries hod hdd ?_)
  rw [if_neg (by simp)]
  refine wpAny_bind (wpAny_pure ?_)
  refine wpAny_bind (wpAny_dictEpoch hod hdd ?_)
  rw [if_neg (by simp)]
  refine wpAny_pure ?_
  have hge : es[es.size]? = none := by simp
  dsimp only
  rw [if_neg (show ¬ ((es.size : Int) < 0) from by omega), Int.toNat_natCast, hge]
  dsimp only
  refine wpAny_bind ?_
  first | refine wpAny_bind (wpAny_typeNameOfWhole_keyiter hT (wpAny_pure ?_)) | refine wpAny_bind (wpAny_typeNameOf_keyiter hT (wpAny_pure ?_))
  show wpAny _ _ (setField (.ref it) 0 .none >>= _) _ _ s
  refine wpAny_bind (wpAny_setField ho hd (by simp) ?_)
  show wpAny _ _ (newExc (.type "StopIteration") [] >>= _) _ _ _
  refine wpAny_bind ?_
  simp only [newExc, newTuple]
  refine wpAny_bind (wpAny_newObj_type ?_ (by size_fits))
  refine wpAny_bind (m := firstArgMember _ _) (wpAny_of_eq (a := Value.none) (by first | rfl | (simp only [firstArgMember]; rfl)) ?_)
  refine wpAny_newObj_type ?_ (by size_fits)
  unfold raiseNew
  try dsimp only
  refine wpAny_bind (wpAny_handled ?_)
  rw [show A.in1.handled = none from hh]
  refine wpAny_bind (wpAny_pure (wpAny_throw ?_))
  refine wpAny_bind (wpAny_isInstance (T := "StopIteration") (b := true) ⟨_, Heap.get?_push_size _ rfl, rfl⟩ isSubtype_stop ?_)
  exact wpAny_pure (hQ _ (((Heap.SameBut.update ..).extBut.push _).push _))

theorem raw_walks (hh : A.handled = none) (I d : Addr) (hne : d ≠ I) (es : Array DictEntry) (ep : Nat) :
    Walks prog w A I [I, d] [I] es.size (fun i v => ∃ e, es[i]? = some e ∧ v = e.key) (fun i h => h.IsKeyIter I d i es.size ep ∧ RawDict h d es ep) where
  sub := fun b hb => by simp at hb; simp [hb]
  frame := fun _ _ _ st hk => ⟨st.1.at fun o e => hk I (by simp) o e, let ⟨o, ho, r⟩ := st.2; ⟨o, hk d (by simp) _ ho, r⟩⟩
  item := fun i s Q E hi st hQ => by
    obtain ⟨e, hx⟩ : ∃ e, es[i]? = some e := ⟨es[i], by simp [hi]⟩
    refine raw_next_item st.1 st.2 hx fun h' hit' hs' => ?_
    exact hQ e.key h' s.toks ⟨e, hx, rfl⟩ ⟨hit', let ⟨o, ho, r⟩ := st.2; ⟨o, hs'.extBut _ _ hne ho, r⟩⟩ fun b o hb e => hs'.extBut b o (fun h => hb (by simp [h])) e
  done := fun s Q E st hQ => raw_next_end hh st.1 st.2 fun h' he' => hQ h' s.toks fun b o hb e => he' b o (fun h => hb (by simp [h])) e
  self := fun _ _ _ _ st hQ => wpAny_pyIter_keyiter st.1 hQ

variable {env : Env} {h₀ : Heap} {target : PySem.Expr} {body : List Stmt} {Q : Flow → Shared → Prop}
/-- a for loop over a plain dict of the ledger: its keys, in their order -/
theorem raw_turns {od : Obj} {m₀ : Str → Option Value} {news : List (Addr × Obj)}
    (hh : A.handled = none) (F : Fr h₀ env.locals s.heap m₀) (N : News h₀ env.locals s.heap news) (hm : (d, od) ∈ news) (hc : od.ExactDict) (hd : od.data = .dict es ep) (lo : (d == sysModules) = false)
    (rest₀ : ∀ I : Addr, (∀ p ∈ news, p.1 < I) → ItemsRest prog w A E h₀ env target body Q s [(I, "dict_keyiterator")] [(d, od)] (es.toList.map fun e => Itm.val e.key) m₀ news) :
    wpAny (model prog w) A (pyIter (.ref d)) (fun it s₂ => TurnsAt prog w A h₀ env target body Q E it s₂) E s := by
  have hax := N _ hm
  have hR : RawDict s.heap d es ep := ⟨od, hax.1, hc, hd⟩
  have hne : d ≠ s.heap.objs.size := Nat.ne_of_lt (Heap.lt_size hax.1)
  refine raw_iter lo hR ?_
  refine ktu_core (tk0 := s.toks) (keep := [(d, od)]) (KTurns.ofWalks (raw_walks hh s.heap.objs.size d hne es ep) fun i v s Q E st q => letGo_keyiter st.1 q) (by simp) ?_ ?_ ?_ ?_ ?_ ?_ ?_ ?_ (F.push _) (fun p hp => ⟨Heap.get?_push_of_some _ (N p hp).1, (N p hp).2⟩) (And.intro hm trivial) (rest₀ _ fun p hp => Heap.lt_size (N p hp).1)
  · rintro i v h ⟨e, hx, rfl⟩
    exact ⟨.val e.key, by rw [List.getElem?_map, Array.getElem?_toList, hx]; rfl, rfl⟩
  · rintro i h ⟨⟨oi, g, c, _⟩, _⟩
    exact ⟨[(s.heap.objs.size, oi)], ⟨⟨rfl, c⟩, trivial⟩, fun p hp => by rw [List.mem_singleton.mp hp]; exact g⟩
  · intro b hb
    have hb' : b = s.heap.objs.size := by simpa using hb
    rw [hb']
    exact ⟨List.mem_cons_self .., next_is_new F⟩
  · intro b hb
    simpa using hb
  · intro b hb
    have hb' : b = s.heap.objs.size ∨ b = d := by simpa using hb
    rcases hb' with e | e
    · exact .inl (by simp [e])
    · exact .inr ⟨od, by simp [e]⟩
  · intro hI
    have hb' : env.locals = s.heap.objs.size ∨ env.locals = d := by simpa using hI
    rcases hb' with e | e
    · exact absurd F.ns.lt (e ▸ Nat.lt_irrefl _)
    · exact hax.2.1 e.symm
  · intro p hp hI
    exact absurd (Heap.lt_size (N p hp).1) ((List.mem_singleton.mp hI) ▸ Nat.lt_irrefl _)
  · exact ⟨⟨_, Heap.get?_push_size _ rfl, rfl, rfl⟩, ⟨od, Heap.get?_push_of_some _ hax.1, hc, hd⟩⟩
end
end

/- B0 -/
section

theorem fill (w : World) {P : Prop} (h : Mine.hd.heap_39 w.params = Mine.hd.heap_39 w.params → Challenge.rw_up0052_01 = Challenge.rw_up0052_01 → P) : P := h rfl rfl

structure BaseOk (w : World) (mean : ExcName → Option Value) (mg mb : Str → Option Value) (base : Heap) : Prop where
  XB : (Mine.hd.heap_39 w.params).In base
  TB : Top Mine.hd.view_39 (looseW Mine.hd.view_39 [Str.ofString "LendError", Str.ofString "PLAIN_NAMES"]) mean mg mb base

structure Here (w : World) (mean : ExcName → Option Value) (mg mb : Str → Option Value) (A₀ : Around) (base h₀ : Heap) (outer : List Env) : Prop where
  B : Below A₀ base outer h₀
  X : (Mine.hd.heap_39 w.params).In h₀
  T : Top Mine.hd.view_39 (looseW Mine.hd.view_39 [Str.ofString "LendError", Str.ofString "PLAIN_NAMES"]) mean mg mb h₀
  base : BaseOk w mean mg mb base

/-- what a call's end hands on -/
noncomputable abbrev Back (Q E : Value → Shared → Prop) (r : Result) (s' : Shared) : Prop := match r with | .ok (.ret v) => Q v s' | .ok _ => False | .error e => E e s'

/-- a contract of the def at f: from a ledger, for given arguments; d frames, u units of room -/
noncomputable def Spec (w : World) (f : Addr) (d u : Nat) (vs : List Value) (news : List (Addr × Obj)) (post : Value → List (Addr × Obj) → Prop) : Prop :=
  ∀ (mean : ExcName → Option Value) (mg mb : Str → Option Value) (dp un : Nat) (gd : Option (List Code)) (cn : Str) (cs : Scope) (a : Addr) (ccd : Value) (cl : List (Str × Addr)) (outer : List Env) (A₀ : Around) (base h₀ : Heap) (L : Addr) (m : Str → Option Value) (s : Shared)
    (Q E : Value → Shared → Prop),
    Here w mean mg mb A₀ base h₀ outer → Fr h₀ L s.heap m → News h₀ L s.heap news → cs.kind = .function → dp + d < recursionLimit → un + u < cLine →
    (∀ r h' tk' news', Fr h₀ L h' m → News h₀ L h' news' → post r news' → Q r { s with heap := h', toks := tk' }) →
    codeAny (model Challenge.rw_up0052_01.row.prog w) (ktrTop dp un gd cn cs L a ccd cl outer) (.call (.ref f) ⟨vs, []⟩) (Back Q E) s

/-- an identity that stops the beta step at the proof's end: what was generalized stays so -/
theorem lock {P : Prop} (h : P) : P := h

theorem updF_mem {d : Addr} {o : Obj} {l : List (Addr × Obj)} {g : Obj → List (Addr × Obj)} (U : UpdF d o l g) : (d, o) ∈ l := by
  obtain ⟨pre, post, rfl, _⟩ := U.split
  simp
theorem updF_upd {d : Addr} {o o' : Obj} {l : List (Addr × Obj)} {g : Obj → List (Addr × Obj)} (U : UpdF d o l g) : Upd d o o' l (g o') := by
  induction U with
  | head h => exact .head h
  | tail h _ ih => exact .tail h ih
theorem updF_mem' {d : Addr} {o o' : Obj} {l : List (Addr × Obj)} {g : Obj → List (Addr × Obj)} (U : UpdF d o l g) : (d, o') ∈ g o' := by
  obtain ⟨pre, post, _, h, _⟩ := U.split
  rw [h]; simp
theorem updF_again {d : Addr} {o o' : Obj} {l : List (Addr × Obj)} {g : Obj → List (Addr × Obj)} (U : UpdF d o l g) : UpdF d o' (g o') g := by
  induction U with
  | head h => exact .head h
  | tail h _ ih => exact .tail h ih

theorem lt_of_all {l : List (Addr × Obj)} {d e : Addr} {o : Obj} (h : ∀ p ∈ l, p.1 < d) (m : (e, o) ∈ l) : e < d := h _ m
theorem gt_ne {l : List (Addr × Obj)} {d e : Addr} {o : Obj} (h : ∀ p ∈ l, p.1 < d) (m : (e, o) ∈ l) : d ≠ e := Nat.ne_of_gt (h _ m)
theorem lt_ne {l : List (Addr × Obj)} {d e : Addr} {o : Obj} (h : ∀ p ∈ l, p.1 < d) (m : (e, o) ∈ l) : e ≠ d := Nat.ne_of_lt (h _ m)
theorem all_ne {l : List (Addr × Obj)} {d : Addr} (h : ∀ p ∈ l, p.1 < d) : ∀ p ∈ l, p.1 ≠ d := fun p m => Nat.ne_of_lt (h p m)
theorem allLt_upd {d e : Addr} {o o' : Obj} {l : List (Addr × Obj)} {g : Obj → List (Addr × Obj)} (U : UpdF d o l g) (h : ∀ p ∈ l, p.1 < e) : ∀ p ∈ g o', p.1 < e := by
  obtain ⟨pre, post, rfl, hg, _⟩ := U.split
  rw [hg]
  intro p hp
  rcases List.mem_append.mp hp with q | q
  · exact h p (List.mem_append_left _ q)
  · rcases List.mem_cons.mp q with rfl | q
    · exact h (d, o) (by simp)
    · exact h p (List.mem_append_right _ (.tail _ q))

noncomputable abbrev tupObj (vs : List Value) : Obj := { cls := .type "tuple", data := .seq vs.toArray }
noncomputable abbrev excObj (C : Addr) (od : Option Addr) (t : Addr) : Obj := { cls := .ref C, dict := od, data := .fields #[.ref t, .none, .none, .none, .bool false, .none] }
/-! the walk's steps with the state written out: what is not written anew at every depth -/
section
variable {prog : Program} {w : World} {M : Model} {A A₀ : Around} {E : Value → Shared → Prop} {h₀ h base : Heap} {s : Shared} {t : Nat} {L a : Addr} {m : Str → Option Value} {news : List (Addr × Obj)} {env : Env} {pos : Pos} {k : Nat} {K : Frag}
  {cn : Str} {cs : Scope} {ccd : Value} {cl : List (Str × Addr)}

theorem c_int {i : Int} {Q : Value → Shared → Prop} (hQ : Q (.int i t) ⟨h, s.gens, s.drawn, t + 1, s.os⟩) : wpAny M A (eval (.Constant (.int i) k pos) env) Q E ⟨h, s.gens, s.drawn, t, s.os⟩ := wpAny_Constant_int hQ
theorem c_str {x : Str} {Q : Value → Shared → Prop} (hQ : Q (.str x t) ⟨h, s.gens, s.drawn, t + 1, s.os⟩) : wpAny M A (eval (.Constant (.str x) k pos) env) Q E ⟨h, s.gens, s.drawn, t, s.os⟩ := Constant_str hQ
theorem store_L {x : Str} {v : Value} {Q : Unit → Shared → Prop} (F : Fr h₀ L h m) (N : News h₀ L h news)
    (hQ : ∀ h' t', Fr h₀ L h' (fun y => if y = x then some v else m y) → News h₀ L h' news → Q () ⟨h', s.gens, s.drawn, t', s.os⟩)
    (hk : cs.kind = .function) (hx : (envX cn cs L a ccd cl).kindOf x = some .local) : wpAny M A (storeName (envX cn cs L a ccd cl) x v) Q E ⟨h, s.gens, s.drawn, t, s.os⟩ :=
  storeX_L (s := (⟨h, s.gens, s.drawn, t, s.os⟩ : Shared)) F N (fun h' F' N' => hQ h' _ F' N') hk hx
theorem new_tuple {vs : List Value} {Q : Value → Shared → Prop} (F : Fr h₀ L h m) (N : News h₀ L h news)
    (hQ : ∀ D h' t', Fr h₀ L h' m → News h₀ L h' ((D, ({ cls := .type "tuple", data := .seq vs.toArray } : Obj)) :: news) → (∀ p ∈ news, p.1 < D) → Q (.ref D) ⟨h', s.gens, s.drawn, t', s.os⟩) (hz : vs.length ≤ sizeLine) : wpAny M A (newTuple vs) Q E ⟨h, s.gens, s.drawn, t, s.os⟩ :=
  kup_newTuple (s := (⟨h, s.gens, s.drawn, t, s.os⟩ : Shared)) F N (fun D h' F' N' l => hQ D h' _ F' N' l) hz
theorem new_list {vs : List Value} {Q : Value → Shared → Prop} (F : Fr h₀ L h m) (N : News h₀ L h news)
    (hQ : ∀ D h' t', Fr h₀ L h' m → News h₀ L h' ((D, listOf vs.toArray 0) :: news) → (∀ p ∈ news, p.1 < D) → Q (.ref D) ⟨h', s.gens, s.drawn, t', s.os⟩) (hz : vs.length ≤ sizeLine) : wpAny M A (newList vs) Q E ⟨h, s.gens, s.drawn, t, s.os⟩ :=
  newList_K (s := (⟨h, s.gens, s.drawn, t, s.os⟩ : Shared)) F N (fun D h' F' N' l => hQ D h' _ F' N' l) hz
theorem get_ownN {x C : Addr} {ox : Obj} {es : List DictEntry} {n : Nat} {name : Str} {v : Value} {expr : Bool} {Q : Value → Shared → Prop} {attr : Option Value} (F : Fr h₀ L h m) (X₀ : K.In h₀) (I : InstAt h x ox C (some (dictOf es n))) (hg : plainGet K C name = true) (hh : hasDictIn K C = true)
    (ha : findIn K (.ref C) name = some attr) (hn : noGet K attr = true) (hl : getL name es = some (some v)) (hv : handedIn v = true) (hQ : Q v ⟨h, s.gens, s.drawn, t + 1, s.os⟩) :
    wpAny (model prog w) A (getAttr (.ref x) name expr) Q E ⟨h, s.gens, s.drawn, t, s.os⟩ := get_own (s := (⟨h, s.gens, s.drawn, t, s.os⟩ : Shared)) F X₀ I hg hh ha hn hl hv hQ

theorem set_dictN {x C dx : Addr} {ox : Obj} {es es' : List DictEntry} {n n' : Nat} {news' : List (Addr × Obj)} {name : Str} {v : Value} {Q : Unit → Shared → Prop} (F : Fr h₀ L h m) (X₀ : K.In h₀) (N : News h₀ L h news) (I : InstAt h x ox C (some (dictOf es n))) (hd : ox.dict = some dx)
    (hs : findIn K (.ref C) "__setattr__" = some (some (.builtin "object.__setattr__"))) (hp : plainOver K C = true) (ht : takerIn K C name = some none) (hh : hasDictIn K C = true) (hl : (getL name es).isSome = true)
    (e : (putL name (PyData.keyHash w.params name) (.str name (t + 1)) v es, putN name es n) = (es', n')) (U : Upd dx (dictOf es n) (dictOf es' n') news news') (hz : es'.length ≤ 1000)
    (hQ : ∀ h' t', Fr h₀ L h' m → News h₀ L h' news' → Q () ⟨h', s.gens, s.drawn, t', s.os⟩) :
    wpAny (model prog w) A (setAttr (.ref x) name v) Q E ⟨h, s.gens, s.drawn, t, s.os⟩ :=
  set_dict (s := (⟨h, s.gens, s.drawn, t, s.os⟩ : Shared)) F X₀ N I hd hs hp ht hh hl e U hz fun h' F' N' => hQ h' _ F' N'
theorem new_dictN {Q : Value → Shared → Prop} (F : Fr h₀ L h m) (N : News h₀ L h news) (hbig : h₀.NoLimit)
    (hQ : ∀ d h' t' o, Fr h₀ L h' m → News h₀ L h' ((d, o) :: news) → (∀ p ∈ news, p.1 < d) → (d == sysModules) = false → o.IsDictOf (PySem.strKind prog w) [] → Q (.ref d) ⟨h', s.gens, s.drawn, t', s.os⟩) : wpAny (model prog w) A (eval (.Dict [] [] pos) env) Q E ⟨h, s.gens, s.drawn, t, s.os⟩ :=
  newDict_K (s := (⟨h, s.gens, s.drawn, t, s.os⟩ : Shared)) F N hbig fun d h' o F' N' l lo hs _ _ _ => hQ d h' _ o F' N' l lo hs
theorem kdn_strN {keys : List (Option PySem.Expr)} {values : List PySem.Expr} {Q : Value → Shared → Prop} (h0' : strLits keys = true) (F : Fr h₀ L h m) (N : News h₀ L h news) (hbig : h₀.NoLimit)
    (hall : keys.all (·.isSome) = true) (hl : keys.length = values.length) (h0 : keys ≠ []) (hlen : keys.length ≤ 15)
    (hQ : ∀ (d : Addr) h' t' o, Fr h₀ L h' m → News h₀ L h' ((d, o) :: news) → (∀ p ∈ news, p.1 < d) → (d == sysModules) = false → o.IsDictOf (PySem.strKind prog w) [] →
      wpAny (model prog w) A (evalPairs (pairTrees keys values env pos)) (fun vs s₁ => KdnMade prog w (PySem.strKind prog w) d Q vs s₁) E ⟨h', s.gens, s.drawn, t', s.os⟩) :
    wpAny (model prog w) A (eval (.Dict keys values pos) env) Q E ⟨h, s.gens, s.drawn, t, s.os⟩ :=
  kdn_str (s := (⟨h, s.gens, s.drawn, t, s.os⟩ : Shared)) h0' F N hbig hall hl h0 hlen fun d h' o F' N' l lo hs => hQ d h' _ o F' N' l lo hs
theorem kdn_madeN {vs : List (Value × Value)} {d : Addr} {o : Obj} {nf : Obj → List (Addr × Obj)} {Q : Value → Shared → Prop} (F : Fr h₀ L h m) (N : News h₀ L h news) (U : UpdF d o news nf) (hd : o.IsDictOf (PySem.strKind prog w) []) (hk : allStrKeys vs = true) (hn : ((strPairs vs).map (·.1)).Nodup)
    (hQ : ∀ h' o' t', Fr h₀ L h' m → News h₀ L h' (nf o') → o'.IsDictOf (PySem.strKind prog w) (strPairs vs) → Q (.ref d) ⟨h', s.gens, s.drawn, t', s.os⟩) : KdnMade prog w (PySem.strKind prog w) d Q vs ⟨h, s.gens, s.drawn, t, s.os⟩ :=
  kdn_made_str (s := (⟨h, s.gens, s.drawn, t, s.os⟩ : Shared)) F N U hd hk hn fun h' o' F' N' hd' => hQ h' o' _ F' N' hd'

theorem code_defT {p : Program} {loose : List Str} {mean : ExcName → Option Value} {mg mb : Str → Option Value} {outer : List Env} {R : Result → Shared → Prop} {name qual : Str} {params : Arguments} {body : List Stmt} {scope : Scope} {dV kV doc pm cdv ct oc : Value} {an od : Option Addr} {osl : Array (Option Value)} {f : Addr} {args : Args} {binds rb : List (Str × Value)}
    (hA : A.frames = some (env :: outer)) (hf : env.frame = some L) (hke : env.scope.kind = .function) (B : Below A₀ base outer h₀) (F : Fr h₀ L s.heap m) (X₀ : K.In h₀) (N : News h₀ L s.heap news) (T : Top p loose mean mg mb h₀)
    (ho : K.lookup f = some ⟨oc, od, .func (fnOf name qual params body scope dV kV doc pm an cdv ct), osl⟩) (hcd : codeIn K cdv qual = true) (hroom : A.depth < recursionLimit)
    (hbind : BindsTo s (fnOf name qual params body scope dV kV doc pm an cdv ct) args binds) (hrb : binds.reverse = rb) (hloc : ∀ y ∈ rb, scope.names.lookup y.1 = some .local)
    (hQ : ∀ g L' h₁ t, Fr h₀ L g m → Fr g L' h₁ (fun y => rb.lookup y) → News g L' h₁ news → Below A base (env :: outer) g → K.In g → Top p loose mean mg mb g →
      wpAny (model prog w) (A.deeper (envOf qual scope L' f cdv)) (execs body (envOf qual scope L' f cdv))
        (fun fl s' => LeaveK h₀ L m g R (match fl with | .ret v => v | _ => .none) s')
        (fun e s' => wpAny (model prog w) (A.deeper (envOf qual scope L' f cdv)) (leaving (envOf qual scope L' f cdv) e) (fun _ s'' => R (.error e) s'') (fun e' s'' => R (.error e') s'') s')
        ⟨h₁, s.gens, s.drawn, t, s.os⟩)
    (hco : scope.isCoroutine = false) (hgen : scope.isGenerator = false) (hk : scope.kind = .function)
    (hcell : ∀ x ∈ scope.names, x.2 ≠ .cell) : codeAny (model prog w) A (.call (.ref f) args) R s :=
  code_def B F X₀ N T hA hf hke ho hcd hroom hbind (fun y hy => hloc y (hrb ▸ List.mem_reverse.mpr hy))
    (fun g L' h₁ FG F' N' B' X' T' => hQ g L' h₁ _ FG (hrb ▸ F') N' B' X' T') hco hgen hk hcell
end
theorem eval_cutF {M : Model} {A : Around} {E : Value → Shared → Prop} {s : Shared} {hp : Heap} {tp : Nat} {e : PySem.Expr} {env : Env} {h₀ : Heap} {L : Addr} {m : Str → Option Value} {Q : Value → Shared → Prop} (_F : Fr h₀ L hp m) (J : Value → List (Addr × Obj) → Prop)
    (h1 : wpAny M A (eval e env) (fun v s' => ∃ h' tk l', s' = { s with heap := h', toks := tk } ∧ Fr h₀ L h' m ∧ News h₀ L h' l' ∧ J v l') E ⟨hp, s.gens, s.drawn, tp, s.os⟩) (h2 : ∀ v h' tk l', Fr h₀ L h' m → News h₀ L h' l' → J v l' → Q v ⟨h', s.gens, s.drawn, tk, s.os⟩) : wpAny M A (eval e env) Q E ⟨hp, s.gens, s.drawn, tp, s.os⟩ :=
  wpAny_mono h1 (fun v s' ⟨h', tk, l', e, a, b, j⟩ => by subst e; exact h2 v h' tk l' a b j) fun _ _ e => e
noncomputable def CutEnd (h₀ : Heap) (L : Addr) (m : Str → Option Value) (J : Value → List (Addr × Obj) → Prop) (s : Shared) (v : Value) (s' : Shared) : Prop := ∃ h' tk l', s' = { s with heap := h', toks := tk } ∧ Fr h₀ L h' m ∧ News h₀ L h' l' ∧ J v l'
theorem CutEnd.intro {h₀ : Heap} {L : Addr} {m : Str → Option Value} {J : Value → List (Addr × Obj) → Prop} {s : Shared} {v : Value} {h' : Heap} {tk : Nat} {l' : List (Addr × Obj)} (F : Fr h₀ L h' m) (N : News h₀ L h' l') (j : J v l') : CutEnd h₀ L m J s v ⟨h', s.gens, s.drawn, tk, s.os⟩ := ⟨h', tk, l', rfl, F, N, j⟩
theorem eval_cutE {M : Model} {A : Around} {E : Value → Shared → Prop} {s : Shared} {hp : Heap} {tp : Nat} {e : PySem.Expr} {env : Env} {h₀ : Heap} {L : Addr} {m : Str → Option Value} {Q : Value → Shared → Prop} (_F : Fr h₀ L hp m) (J : Value → List (Addr × Obj) → Prop)
    (h1 : wpAny M A (eval e env) (CutEnd h₀ L m J s) E ⟨hp, s.gens, s.drawn, tp, s.os⟩) (h2 : ∀ v h' tk l', Fr h₀ L h' m → News h₀ L h' l' → J v l' → Q v ⟨h', s.gens, s.drawn, tk, s.os⟩) : wpAny M A (eval e env) Q E ⟨hp, s.gens, s.drawn, tp, s.os⟩ := eval_cutF _F J h1 h2
end

local macro_rules | `(tactic| news_mem) => `(tactic| first | assumption | exact List.Mem.tail _ (by assumption) | exact List.Mem.tail _ (List.Mem.tail _ (by assumption)) | fail "news_mem")
local macro_rules | `(tactic| k_ne) => `(tactic| first | exact Nat.ne_of_gt (And.left (by assumption : _ ∧ AllLt _ _)) | exact gt_ne (by assumption) (by assumption) | exact lt_ne (by assumption) (by assumption))
local macro_rules | `(tactic| k_all) => `(tactic| first | assumption | exact all_ne (by assumption))
local macro_rules | `(tactic| k_updF) => `(tactic| first | assumption | exact updF_again (by assumption))
local macro_rules | `(tactic| k_upd) => `(tactic| first | exact updF_upd (by assumption) | exact updF_upd (updF_again (by assumption)))
local macro_rules | `(tactic| cell_enter) => `(tactic| (refine' code_defT (by exact rfl) (by exact rfl) (by assumption) (by k_asm) (by k_asm) (by k_asm) (by k_asm) (by k_asm) (by k_is) (by k_is) (by ktr_room) (by first | exact BindsTo.of_eq rfl | exact binds_K (by k_in) rfl (by k_is) rfl rfl rfl) (by first | exact (rfl : _ = [(_, _)]) | exact (rfl : _ = [(_, _), (_, _)]) | exact (rfl : _ = [(_, _), (_, _), (_, _)]) | exact (rfl : _ = [(_, _), (_, _), (_, _), (_, _)]) | exact (rfl : _ = [(_, _), (_, _), (_, _), (_, _), (_, _)]) | exact (rfl : _ = [(_, _), (_, _), (_, _), (_, _), (_, _), (_, _)]) | exact rfl) (by exact locs rfl) ?_ (by exact rfl) (by exact rfl) (by exact rfl) (by decide); k_whole; intro g' L' h' t' FG' F' N' B' X' T'; (try dsimp only); (try k_lift B'); (try k_fold)))
local macro_rules | `(tactic| walk_at "eval Constant int") => `(tactic| refine c_int ?_)
local macro_rules | `(tactic| walk_at "eval Constant str") => `(tactic| refine c_str ?_)
local macro_rules | `(tactic| walk_at "storeName") => `(tactic| (k_here; k_dflt (refine' store_L (by k_asm) (by k_asm) ?_ (by rfl) (by rfl)); k_whole; intro h' t' F' N'; (try k_sweep)))
local macro_rules | `(tactic| walk_at "newTuple") => `(tactic| (k_here; k_dflt (refine' new_tuple (by k_asm) (by k_asm) ?_ (by kmk_size)); intro D' h' t' F' N' l1; (try k_sweep)))
local macro_rules | `(tactic| walk_at "newList") => `(tactic| (k_here; k_dflt (refine' new_list (by k_asm) (by k_asm) ?_ (by size_fits)); k_whole; intro D' h' t' F' N' l1; (try k_sweep)))
local macro_rules | `(tactic| walk_at "getAttr ref") => `(tactic| (k_here; k_dflt (refine' get_ownN (by k_asm) (by k_asm) (by k_inst) (by k_is) (by k_is) (by k_is) (by k_is) (by k_get) (by k_handed) ?_); k_whole))

/- EX -/
section

structure EC (w : World) (h : Heap) (C : Addr) : Prop where
  call : Looks (model Challenge.rw_up0052_01.row.prog w) h (specialOf (.ref C) "__call__") (some (.builtin "type.__call__"))
  typ : Looks (model Challenge.rw_up0052_01.row.prog w) h (isInstance (.ref C) (.type "type")) true
  self : Looks (model Challenge.rw_up0052_01.row.prog w) h (isSubtype (.ref C) (.ref C)) true
  sE : Looks (model Challenge.rw_up0052_01.row.prog w) h (isSubtype (.ref C) (.type "Exception")) true
  sA : Looks (model Challenge.rw_up0052_01.row.prog w) h (isSubtype (.ref C) (.type "AttributeError")) false
  sN : Looks (model Challenge.rw_up0052_01.row.prog w) h (isSubtype (.ref C) (.type "NameError")) false
  sB : Looks (model Challenge.rw_up0052_01.row.prog w) h (isSubtype (.ref C) (.type "BaseException")) true
  hi : Looks (model Challenge.rw_up0052_01.row.prog w) h (typeLookup (.ref C) "__init__") (some (.ref 36))
  bf : ∀ self : Value, Looks (model Challenge.rw_up0052_01.row.prog w) h (bindSpecial (.ref 36) self) (.ref 36, [self])
  sO : Looks (model Challenge.rw_up0052_01.row.prog w) h (isSubtype (.ref C) (.type "object")) true
  sa : Looks (model Challenge.rw_up0052_01.row.prog w) h (typeLookup (.ref C) "__setattr__") (some (.builtin "object.__setattr__"))
  lm : Looks (model Challenge.rw_up0052_01.row.prog w) h (typeLookup (.ref C) "message") none
  ls : Looks (model Challenge.rw_up0052_01.row.prog w) h (typeLookup (.ref C) "spot") none
  hC : ∃ nm qn ns bs sn sub ab col dd k0 k1 k2 k3 k5, h.get? C = some (excClassObj nm qn C ns bs [.ref 39, .type "Exception", .type "BaseException", .type "object"] true sn sub ab col dd k0 k1 k2 k3 k5 "Exception.__new__")

theorem EC.keeps {w : World} {h h' : Heap} {C : Addr} (x : EC w h C) (k : ∀ b o, h.get? b = some o → h'.get? b = some o) : EC w h' C := by
  obtain ⟨a1, a2, a3, a4, a5, a6, a7, a8, a9, b1, b2, b3, b4, nm, qn, ns, bs, sn, sub, ab, col, dd, k0, k1, k2, k3, k5, hC⟩ := x
  exact ⟨a1.keeps k, a2.keeps k, a3.keeps k, a4.keeps k, a5.keeps k, a6.keeps k, a7.keeps k, a8.keeps k, fun self => (a9 self).keeps k, b1.keeps k, b2.keeps k, b3.keeps k, b4.keeps k, nm, qn, ns, bs, sn, sub, ab, col, dd, k0, k1, k2, k3, k5, k _ _ hC⟩
theorem ec52 {w : World} {h : Heap} (X : (Mine.hd.heap_39 w.params).In h) : EC w h 52 := by
  refine fill w ?_
  k_fill
  intro _ _
  exact ⟨looks_specialIn X (by k_is), looks_instIn X (by k_is), looks_mroIn X (by k_is), looks_mroIn X (by k_is), looks_mroIn X (by k_is), looks_mroIn X (by k_is), looks_mroIn X (by k_is), looks_findIn X (by k_is),
    fun self => bind_fn X (f := 36) self (by k_is), looks_mroIn X (by k_is), looks_findIn X (by k_is), looks_findIn X (by k_is), looks_findIn X (by k_is), ⟨_, _, _, _, _, _, _, _, _, _, _, _, _, _, X 52 _ rfl⟩⟩
theorem ec64 {w : World} {h : Heap} (X : (Mine.hd.heap_39 w.params).In h) : EC w h 64 := by
  refine fill w ?_
  k_fill
  intro _ _
  exact ⟨looks_specialIn X (by k_is), looks_instIn X (by k_is), looks_mroIn X (by k_is), looks_mroIn X (by k_is), looks_mroIn X (by k_is), looks_mroIn X (by k_is), looks_mroIn X (by k_is), looks_findIn X (by k_is),
    fun self => bind_fn X (f := 36) self (by k_is), looks_mroIn X (by k_is), looks_findIn X (by k_is), looks_findIn X (by k_is), looks_findIn X (by k_is), ⟨_, _, _, _, _, _, _, _, _, _, _, _, _, _, X 64 _ rfl⟩⟩

theorem exc_call {w : World} {A : Around} {R : Result → Shared → Prop} {h : Heap} {g : Array GenState} {d : Drawn} {t : Nat} {os : OsState} {C : Addr} (X : EC w h C) (rest : List Value) (hrest : rest.length ≤ sizeLine)
    (hq : codeAny (model Challenge.rw_up0052_01.row.prog w) (A.under (.builtin "type.__call__" ⟨.ref C :: rest, []⟩)) (.call (.ref 36) ⟨.ref (h.objs.size + 1) :: rest, []⟩) (InitBack (h.objs.size + 1) R) ⟨(h.push (tupObj rest)).push (excObj C none h.objs.size), g, d, t, os⟩) :
    codeAny (model Challenge.rw_up0052_01.row.prog w) A (.call (.ref C) ⟨rest, []⟩) R ⟨h, g, d, t, os⟩ := by
  obtain ⟨call, typ, self, sE, sA, sN, _, hi, bf, _, _, _, _, nm, qn, ns, bs, sn, sub, ab, col, dd, k0, k1, k2, k3, k5, hC⟩ := X
  refine codeAny_of_tree ?_
  show wpAny _ _ (callAny (.ref C) _) _ _ _
  refine nd_load hC ?_
  show wpAny _ _ (callAny.viaDunder (.ref C) _) _ _ _
  unfold callAny.viaDunder
  refine wpAny_bind (call.at ?_)
  dsimp only
  rw [tc_bind]
  refine wpAny_bind (wpAny_pure (wpAny_bind (wpAny_pure ?_)))
  refine wpAny_pure (a := Fin.again (.call (.builtin "type.__call__") ⟨.ref C :: rest, []⟩)) (And.intro rfl ?_)
  refine codeAny_call_builtin_at (Code.quiet_builtin _ (by decide +kernel)) entry_typeCall (check_slot tc_kind tc_split typ (tc_args _ _ _) ?_)
  unfold Builtin.«type.__call__»
  have hm : Looks (model Challenge.rw_up0052_01.row.prog w) h (mroOf (.ref C)) [.ref C, .ref 39, .type "Exception", .type "BaseException", .type "object"] := ((Looks.ld (part := none) hC).andThen .now).andThen .now
  repeat (first | with_reducible refine wpAny_call ?_ | lk)
  have Fn := PySem.F.excBase_Exception
  have made : Looks (model Challenge.rw_up0052_01.row.prog w) h (Bind.madeBy (.ref C)) (some "Exception.__new__") := fun A Q E s k q => wpAny_madeBy_exc (h := s.heap) (k _ _ hC) q
  have base : Looks (model Challenge.rw_up0052_01.row.prog w) h (Bind.staticBase (.ref C)) (.ref C) := fun A Q E s k q => wpAny_staticBase_exc (h := s.heap) (k _ _ hC) q
  have here : Looks (model Challenge.rw_up0052_01.row.prog w) h (Bind.madeHere "BaseException.__new__" (.ref C)) () := fun A Q E s k q => wpAny_madeHere_exc (h := s.heap) Fn.canon (k _ _ hC) q
  refine codeAny_call_builtin_code (Code.quiet_builtin _ Fn.quiet) ?_
  have hstar := Fn.noStar
  simp only [checkBuiltinCall, Fn.newKind, Fn.newSplit, Fn.newRow]
  repeat (first | simp only [bne_self_eq_false, Bool.false_eq_true, if_false] | lk)
  refine codeAny_builtinAt Fn.entry ?_
  unfold Builtin.«BaseException.__new__»
  refine PySem.wpAt_bind ?_
  show PySem.wpAt _ _ _ (stack >>= _) _ _ _
  refine PySem.wpAt_bind (PySem.wpAt_stack fun p below => PySem.wpAt_of_wpAny ?_)
  dsimp only
  rw [if_pos Fn.ends]
  refine wpAny_pure ?_
  refine PySem.wpAt_of_wpAny ?_
  rw [Fn.owner]
  repeat (first | simp only [bne_self_eq_false, Bool.false_eq_true, if_false] | lk)
  rw [if_neg (by simpa using hrest)]
  have hC1 := Heap.get?_push_of_some (tupObj rest) hC
  have hC2 := Heap.get?_push_of_some (excObj C none h.objs.size) hC1
  have k1 : ∀ b o, h.get? b = some o → (h.push (tupObj rest)).get? b = some o := fun b o e => Heap.get?_push_of_some _ e
  have k2 : ∀ b o, h.get? b = some o → ((h.push (tupObj rest)).push (excObj C none h.objs.size)).get? b = some o := fun b o e => Heap.get?_push_of_some _ (Heap.get?_push_of_some _ e)
  have sA1 := sA.keeps k2
  have sN1 := sN.keeps k2
  have hi1 := hi.keeps k2
  have self1 := self.keeps k2
  have b1 := (bf (.ref (h.objs.size + 1))).keeps k2
  repeat (first | simp only [Bool.false_eq_true, if_false] | lk)
  rw [Heap.size_push]
  have hx : ((h.push (tupObj rest)).push (excObj C none h.objs.size)).get? (h.objs.size + 1) = some (excObj C none h.objs.size) := by heap_get
  have t1 : Looks (model Challenge.rw_up0052_01.row.prog w) ((h.push (tupObj rest)).push (excObj C none h.objs.size)) (typeOf (.ref (h.objs.size + 1))) (.ref C) := (Looks.ld hx).andThen .now
  change wpAny _ _ _ _ _ (⟨(h.push (tupObj rest)).push (excObj C none h.objs.size), g, d, t, os⟩ : Shared)
  unfold callSpecial? specialOf
  repeat (first | with_reducible refine wpAny_call ?_ | lk)
  refine codeAny_mono hq fun r s' z => ?_
  rcases r with e | (v | _ | _ | _) <;> first | exact z | exact z.elim | skip
  obtain ⟨rfl, z⟩ := z
  exact wpAny_pure (wpAny_pure z)

theorem meta_exc : typeOf (.type "Exception") = pure (.type "type") := by first | rfl | kernel_rfl

theorem excInit_call {w : World} {A : Around} {C e t0 L : Addr} {od : Option Addr} {s : Shared} {h₀ : Heap} {m : Str → Option Value} {news : List (Addr × Obj)} {nf : Obj → List (Addr × Obj)} {v : Value} {Q E : Value → Shared → Prop}
    (F : Fr h₀ L s.heap m) (N : News h₀ L s.heap news) (Y : EC w h₀ C) (U : UpdF e (excObj C od t0) news nf)
    (h : ∀ t h', Fr h₀ L h' m → News h₀ L h' ((t, tupObj [v]) :: nf (excObj C od t)) → (∀ p ∈ news, p.1 < t) → Q .none { s with heap := h' }) :
    wpAny (model Challenge.rw_up0052_01.row.prog w) A (call (.builtin "Exception.__init__") [.ref e, v]) Q E s := by
  have Fn := PySem.F.excBase_Exception
  obtain ⟨pre, post, rfl, hnf, h1, h2⟩ := U.split
  have He := (N (e, excObj C od t0) (by simp)).1
  have sE := Y.sE.keeps F.keep
  have ti : Looks (model Challenge.rw_up0052_01.row.prog w) s.heap (isInstance (.ref e) (.type "Exception")) true := ((Looks.ld (part := none) He).andThen .now).andThen sE
  obtain ⟨hp, g, d, tk, os⟩ := s
  have He' : hp.get? e = some (excObj C od t0) := He
  have hstar := Fn.noStar
  refine wpAny_call (codeAny_call_builtin Fn.init.plain Fn.initEntry ?_)
  simp only [checkBuiltinCall, Fn.initKind, Fn.initSplit, Fn.initRow]
  refine wpAny_bind (ti.at ?_)
  obtain ⟨nm, qn, ns, bs, sn, sub, ab, col, dd, k0, k1, k2, k3, k5, hC⟩ := Y.hC
  have hC' : hp.get? C = _ := F.keep _ _ hC
  have He1 := Heap.get?_push_of_some (tupObj [v]) He'
  repeat (first | (refine wpAny_of_eq (check_star_args _ _ _ _ _ _) ?_) | lk)
  refine wpAny_update He1 ?_
  have N1 := N.push F (tupObj [v])
  have F1 := F.push (tupObj [v])
  obtain ⟨F2, N2⟩ := news_upd (pre := (hp.objs.size, tupObj [v]) :: pre) (f := Obj.mapFields fun x => x.setIfInBounds 0 (Value.ref hp.objs.size)) (o' := excObj C od hp.objs.size) F1 N1
    (fun p hp' => by
      rcases List.mem_cons.mp hp' with rfl | hp'
      · exact Nat.ne_of_gt (Heap.lt_size He')
      · exact h1 p hp') h2 rfl rfl
  have hq := h hp.objs.size _ F2 (by rw [hnf]; exact N2) (fun p hp' => Heap.lt_size (N p hp').1)
  repeat (first | with_reducible refine wpAny_letGo ?_ | lk)
  exact hq

noncomputable def NsO (o : Obj) (m : Str → Option Value) : Prop := ∃ es ep, o.data = .dict es ep ∧ StrKeys es ∧ UniqKeys es ∧ ∀ name, nsFind es name = m name
theorem NsO.at {o : Obj} {m : Str → Option Value} {h : Heap} {d : Addr} (x : NsO o m) (e : h.get? d = some o) : h.Ns1 d m := let ⟨es, ep, r⟩ := x; ⟨o, es, ep, e, r⟩
theorem NsO.of {m : Str → Option Value} {h : Heap} {d : Addr} (x : h.Ns1 d m) : ∃ o, h.get? d = some o ∧ NsO o m := let ⟨o, es, ep, e, r⟩ := x; ⟨o, e, es, ep, r⟩

/-- the store's road up to the object's own dict -/
theorem exc_store_open {w : World} {A : Around} {C e t : Addr} {od : Option Addr} {s : Shared} {name : Str} {v : Value} {Q : Unit → Shared → Prop} {E : Value → Shared → Prop}
    (Y : EC w s.heap C) (hl : Looks (model Challenge.rw_up0052_01.row.prog w) s.heap (typeLookup (.ref C) name) none) (He : s.heap.get? e = some (excObj C od t))
    (h : ∀ tk tk' b A', wpAny (model Challenge.rw_up0052_01.row.prog w) A' (Builtin.ObjectAttr.storeInOwnDict (.ref e) (.ref C) (.str name tk) name v b) (fun fin s' => match fin with | .done (.ret _) => Q () s' | _ => False) E { s with toks := tk' }) :
    wpAny (model Challenge.rw_up0052_01.row.prog w) A (setAttr (.ref e) name v) Q E s := by
  have SF := PySem.F.store_Exception
  have ty : Looks (model Challenge.rw_up0052_01.row.prog w) s.heap (typeOf (.ref e)) (.ref C) := (Looks.ld He).andThen .now
  have ti : Looks (model Challenge.rw_up0052_01.row.prog w) s.heap (isInstance (.ref e) (.type "object")) true := ty.andThen Y.sO
  obtain ⟨nm, qn, ns, bs, sn, sub, ab, col, dd, k0, k1, k2, k3, k5, hC⟩ := Y.hC
  have hm : Looks (model Challenge.rw_up0052_01.row.prog w) s.heap (mroOf (.ref C)) [.ref C, .ref 39, .type "Exception", .type "BaseException", .type "object"] := ((Looks.ld (part := none) hC).andThen .now).andThen .now
  have sa := Y.sa
  obtain ⟨hp, g, d, tk, os⟩ := s
  refine wpAny_bind (wpAny_mkText (wpAny_bind (wpAny_bind (wpAny_bind (ty _ _ _ _ (fun _ _ e => e) (sa _ _ _ _ (fun _ _ e => e) (wpAny_holding ?_)))))))
  rw [PySem.F.store_object.slot.bind]
  refine wpAny_bind (wpAny_pure (wpAny_bind (wpAny_call ?_)))
  show codeAny _ _ (.call (.builtin "object.__setattr__") ⟨[.ref e, .str name tk, v], []⟩) _ _
  refine codeAny_call_builtin SF.slot.plain SF.entry (@check_slot (model Challenge.rw_up0052_01.row.prog w) _ _ ⟨hp, g, d, tk + 1, os⟩ "object.__setattr__" "object" "__setattr__" (.ref e) [.str name tk, v] [] _ SF.kind SF.split ti (SF.args (.ref e) (.str name tk) v) ?_)
  rw [osa_eq, refuse_eq]
  refine wpAny_bind (wpAny_bind (ty.at (wpAny_bind (hm.at ?_))))
  rw [refuseLoop_ref, refuseLoop_ref, SF.passes]
  refine wpAny_pure (wpAny_bind (ty.at (wpAny_bind (hl.at (wpAny_bind (wpAny_pure ?_))))))
  refine wpAny_mono (h _ _ _ _) (fun fin s' z => ?_) fun _ _ z => z
  rcases fin with ((v | _ | _ | _) | c) <;> first | exact z.elim | skip
  exact wpAny_pure (wpAny_pure z)
end

/- EX2 -/
section
theorem NsO.of_at {m : Str → Option Value} {h : Heap} {d : Addr} {o : Obj} (x : h.Ns1 d m) (e : h.get? d = some o) : NsO o m := by
  obtain ⟨o', es, ep, e', r⟩ := x
  rw [e] at e'
  cases e'
  exact ⟨es, ep, r⟩

theorem exc_store_new {w : World} {A : Around} {C e t L : Addr} {s : Shared} {h₀ : Heap} {m : Str → Option Value} {news : List (Addr × Obj)} {nf : Obj → List (Addr × Obj)} {name : Str} {v : Value} {Q : Unit → Shared → Prop} {E : Value → Shared → Prop}
    (F : Fr h₀ L s.heap m) (N : News h₀ L s.heap news) (Y : EC w h₀ C) (hl : Looks (model Challenge.rw_up0052_01.row.prog w) h₀ (typeLookup (.ref C) name) none) (U : UpdF e (excObj C none t) news nf)
    (h : ∀ d oD h' tk', Fr h₀ L h' m → News h₀ L h' ((d, oD) :: nf (excObj C (some d) t)) → (∀ p ∈ nf (excObj C (some d) t), p.1 < d) → NsO oD (fun y => if y = name then some v else none) → Q () { s with heap := h', toks := tk' }) :
    wpAny (model Challenge.rw_up0052_01.row.prog w) A (setAttr (.ref e) name v) Q E s := by
  have U' := U
  obtain ⟨pre, post, rfl, hnf, h1, h2⟩ := U.split
  have He := (N (e, excObj C none t) (by simp)).1
  obtain ⟨nm, qn, ns, bs, sn, sub, ab, col, dd, k0, k1, k2, k3, k5, hC⟩ := Y.hC
  refine exc_store_open (Y.keeps F.keep) (hl.keeps F.keep) He fun tk tk' b A' => ?_
  have hC' := F.keep _ _ hC
  obtain ⟨hp, g, d, tk0, os⟩ := s
  have He' : hp.get? e = some (excObj C none t) := He
  have hC'' : hp.get? C = _ := hC'
  unfold Builtin.ObjectAttr.storeInOwnDict
  repeat lk
  have He1 := Heap.get?_push_of_some (h := hp) { cls := .type "dict", data := .dict #[] } He'
  refine wpAny_update He1 ?_
  refine wpAny_pure ?_
  have F0 : Fr h₀ L hp m := F
  have N0 : News h₀ L hp (pre ++ (e, excObj C none t) :: post) := N
  have N1 := N0.push F0 ({ cls := .type "dict", data := .dict #[] } : Obj)
  have F1 := F0.push ({ cls := .type "dict", data := .dict #[] } : Obj)
  obtain ⟨F2, N2⟩ := news_upd (pre := (hp.objs.size, _) :: pre) (f := fun o => { cls := o.cls, dict := some hp.objs.size, data := o.data, slots := o.slots }) (o' := excObj C (some hp.objs.size) t) F1 N1
    (fun p hp' => by
      rcases List.mem_cons.mp hp' with rfl | hp'
      · exact Nat.ne_of_gt (Heap.lt_size He')
      · exact h1 p hp') h2 rfl rfl
  have D := N2 (hp.objs.size, ({ cls := .type "dict", data := .dict #[] } : Obj)) (by simp)
  have hnd : Heap.Ns1 _ hp.objs.size (fun _ => none) := Heap.Ns1.of_empty ⟨_, #[], _, D.1, rfl, fun e he => absurd he (by simp), fun _ => rfl⟩
  show wpAny _ _ (Builtin.ObjectAttr.storeInDict hp.objs.size (.str name tk) name v) _ _ _
  unfold Builtin.ObjectAttr.storeInDict Builtin.ObjectAttr.newKeyGuard
  refine wpAny_bind (wpAny_pure (wpAny_bind (wpAny_nsSet1 hnd fun h' hn' hs => ?_)))
  obtain ⟨oD, esD, epD, hoD, hdD, hcD⟩ := hn'.count (Within.cons name v Within.nil)
  refine wpAny_bind (wpAny_lookBehind hoD (by rw [hdD]; exact pastItsLine_dict (Nat.le_trans hcD (by rw [List.length_cons, List.length_nil, sizeLine_eq]; omega))) ?_)
  refine wpAny_pure (h hp.objs.size oD h' _ (F2.change hs D.2.1 D.2.2) ?_ (allLt_upd U' fun p hp' => Heap.lt_size (N0 p hp').1) ?_)
  · rw [hnf]
    refine News.setIn (own := []) N2 (fun _ hp' => nomatch hp') ?_ hs hoD
    intro p hp'
    rcases List.mem_append.mp hp' with q | q
    · exact Nat.ne_of_lt (Heap.lt_size (N0 p (List.mem_append_left _ q)).1)
    · rcases List.mem_cons.mp q with rfl | q
      · exact Nat.ne_of_lt (Heap.lt_size He')
      · exact Nat.ne_of_lt (Heap.lt_size (N0 p (List.mem_append_right _ (.tail _ q))).1)
  · exact NsO.of_at hn' hoD

theorem exc_store_old {w : World} {A : Around} {C e t L d : Addr} {s : Shared} {h₀ : Heap} {m : Str → Option Value} {news : List (Addr × Obj)} {nf : Obj → List (Addr × Obj)} {name : Str} {v : Value} {oD : Obj} {mA : Str → Option Value} {ns : List Str} {Q : Unit → Shared → Prop} {E : Value → Shared → Prop}
    (F : Fr h₀ L s.heap m) (N : News h₀ L s.heap news) (Y : EC w h₀ C) (hl : Looks (model Challenge.rw_up0052_01.row.prog w) h₀ (typeLookup (.ref C) name) none) (hm : (e, excObj C (some d) t) ∈ news) (U : UpdF d oD news nf)
    (hD : NsO oD mA) (hw : Within mA ns) (hz : ns.length ≤ 100)
    (h : ∀ oD' h' tk', Fr h₀ L h' m → News h₀ L h' (nf oD') → NsO oD' (fun y => if y = name then some v else mA y) → Q () { s with heap := h', toks := tk' }) :
    wpAny (model Challenge.rw_up0052_01.row.prog w) A (setAttr (.ref e) name v) Q E s := by
  obtain ⟨pre, post, rfl, hnf, h1, h2⟩ := U.split
  have He := (N _ hm).1
  have Dd := N (d, oD) (by simp)
  obtain ⟨nm, qn, ns', bs, sn, sub, ab, col, dd, k0, k1, k2, k3, k5, hC⟩ := Y.hC
  refine exc_store_open (Y.keeps F.keep) (hl.keeps F.keep) He fun tk tk' b A' => ?_
  have hC' := F.keep _ _ hC
  obtain ⟨hp, g, dr, tk0, os⟩ := s
  have He' : hp.get? e = some (excObj C (some d) t) := He
  have hC'' : hp.get? C = _ := hC'
  have F0 : Fr h₀ L hp m := F
  have N0 : News h₀ L hp (pre ++ (d, oD) :: post) := N
  unfold Builtin.ObjectAttr.storeInOwnDict
  repeat (first | ((fail_if_success (with_reducible show wpAny _ _ (Builtin.ObjectAttr.storeInDict _ _ _ _) _ _ _)); lk))
  show wpAny _ _ (Builtin.ObjectAttr.storeInDict d (.str name tk) name v) _ _ _
  unfold Builtin.ObjectAttr.storeInDict Builtin.ObjectAttr.newKeyGuard
  refine wpAny_bind (wpAny_pure (wpAny_bind (wpAny_nsSet1 (hD.at Dd.1) fun h' hn' hs => ?_)))
  obtain ⟨oD', esD, epD, hoD, hdD, hcD⟩ := hn'.count (Within.cons name v hw)
  refine wpAny_bind (wpAny_lookBehind hoD (by rw [hdD]; exact pastItsLine_dict (Nat.le_trans hcD (by rw [List.length_cons, sizeLine_eq]; omega))) ?_)
  refine wpAny_pure (h oD' h' _ (F0.change hs Dd.2.1 Dd.2.2) ?_ (NsO.of_at hn' hoD))
  rw [hnf]
  exact News.setIn N0 h1 h2 hs hoD


theorem init_spec (w : World) (C e t0 : Addr) (ms : Str) (t1 : Tok) (sp : Int) (t2 : Tok) (news : List (Addr × Obj)) (nf : Obj → List (Addr × Obj)) (hC : C = 52 ∨ C = 64)
    (U : UpdF e (excObj C none t0) news nf) :
    Spec w 36 1 8 [.ref e, .str ms t1, .int sp t2] news (fun r news' => ∃ d t oD, news' = (d, oD) :: (t, tupObj [.str ms t1]) :: nf (excObj C (some d) t) ∧ r = .none ∧ ∀ p ∈ news, p.1 < t) := by
  unfold Spec
  refine fill w ?_
  k_fill
  intro _ _
  intro mean mg mb dp un gd cn cs a ccd cl outer A₀ base h₀ L m s Q E H F N hk hd hu hret
  obtain ⟨B, X, T, BO⟩ := H
  have hm := updF_mem U
  k_dflt cell_enter
  have Y0 : ∀ h, (Mine.hd.heap_39 w.params).In h → EC w h C := fun h X => by rcases hC with rfl | rfl; exact ec52 X; exact ec64 X
  rename Frag.In _ _ => X1
  have Y := Y0 _ X1
  repeat' (first | (k_unfold; (try dsimp only)) | (k_end; kc_close) | (first | ((with_reducible show wpAny _ _ (setAttr (Value.ref _) _ _) _ _ _); (k_here; k_dflt (refine' exc_store_new (by k_asm) (by k_asm) (by assumption) (Mine.EC.lm (by assumption)) (by k_updF) ?_; k_whole; intro z_d' z_o' z_h' z_tk' z_F' z_N' z_l1 z_D'; (have l2 := all_ne z_l1); (try dsimp only at z_N' l2); (try k_sweep)))) | ((with_reducible show wpAny _ _ (setAttr (Value.ref _) _ _) _ _ _); (k_here; k_dflt (refine' exc_store_old (by k_asm) (by k_asm) (by assumption) (Mine.EC.ls (by assumption)) (by first | exact List.Mem.tail _ (List.Mem.tail _ (updF_mem' (by assumption)))) (by exact UpdF.head (by assumption)) (by assumption) (Within.cons _ _ Within.nil) (Nat.le_of_ble_eq_true rfl) ?_; k_whole; intro z_o' z_h' z_tk' z_F' z_N' z_D'; (try k_sweep)))) | ((with_reducible show wpAny _ _ (call (Value.builtin "Exception.__init__") _) _ _ _); (k_here; k_dflt (refine' excInit_call (by k_asm) (by k_asm) (by assumption) (by k_updF) ?_; k_whole; intro z_t' z_h' z_F' z_N' z_l1; (try k_lt z_l1); (try k_sweep)))) | ((with_reducible show wpAny _ _ (getMethod (Value.type _) _ _) _ _ _); (k_here; refine' method_type (by k_asm) (by k_asm) (by exact meta_exc) (by decide +kernel) (by k_dflt k_is) (by k_handed) ?_)) | walk1) | (dsimp only; walk1) | (leave1; (try dsimp only)) | fail "no step")
  all_goals exact hret _ _ _ _ (by k_asm) (by k_asm) ⟨_, _, _, rfl, rfl, by assumption⟩
end

/- EX3 -/
section

theorem exc_make {w : World} {mean : ExcName → Option Value} {mg mb : Str → Option Value} {dp un : Nat} {gd : Option (List Code)} {cn : Str} {cs : Scope} {a : Addr} {ccd : Value} {cl : List (Str × Addr)} {outer : List Env} {A₀ : Around} {base h₀ : Heap} {L : Addr} {m : Str → Option Value} {s : Shared} {hp : Heap} {tk : Nat}
    {Q E : Value → Shared → Prop} {news : List (Addr × Obj)} {C : Addr} {ms : Str} {t1 t2 : Tok} {sp : Int} (hC : C = 52 ∨ C = 64)
    (B : Below A₀ base outer h₀) (X : (Mine.hd.heap_39 w.params).In h₀) (T : Top Mine.hd.view_39 (looseW Mine.hd.view_39 [Str.ofString "LendError", Str.ofString "PLAIN_NAMES"]) mean mg mb h₀) (BO : BaseOk w mean mg mb base)
    (F : Fr h₀ L hp m) (N : News h₀ L hp news) (hk : cs.kind = .function) (hd : dp + 2 < recursionLimit) (hu : un + 16 < cLine)
    (h : ∀ e t d oD h' tk', Fr h₀ L h' m → News h₀ L h' ((d, oD) :: (t, tupObj [.str ms t1]) :: (e, excObj C (some d) t) :: news) → (∀ p ∈ news, p.1 < e) → (∀ p ∈ news, p.1 < t) → e ≠ t → Q (.ref e) ⟨h', s.gens, s.drawn, tk', s.os⟩) :
    wpAny (model Challenge.rw_up0052_01.row.prog w) (ktrTop dp un gd cn cs L a ccd cl outer) (call (.ref C) [.str ms t1, .int sp t2]) Q E ⟨hp, s.gens, s.drawn, tk, s.os⟩ := by
  have Y0 : ∀ h, (Mine.hd.heap_39 w.params).In h → EC w h C := fun h X => by rcases hC with rfl | rfl; exact ec52 X; exact ec64 X
  have F0 : Fr h₀ L hp m := F
  have N0 : News h₀ L hp news := N
  refine wpAny_call (exc_call (Y0 _ (X.keeps F.keep)) _ (by rw [sizeLine_eq]; exact Nat.le_of_ble_eq_true rfl) ?_)
  have N1 := (N0.push F0 (tupObj [.str ms t1, .int sp t2])).push (F0.push _) (excObj C none hp.objs.size)
  rw [Heap.size_push] at N1
  have F1 := (F0.push (tupObj [.str ms t1, .int sp t2])).push (excObj C none hp.objs.size)
  have hne : ∀ p ∈ ((hp.objs.size, tupObj [.str ms t1, .int sp t2]) :: news : List (Addr × Obj)), p.1 ≠ hp.objs.size + 1 := by
    intro p hp'
    rcases List.mem_cons.mp hp' with rfl | hp'
    · exact Nat.ne_of_lt (Nat.lt_succ_self _)
    · exact Nat.ne_of_lt (Nat.lt_succ_of_lt (Heap.lt_size (N0 p hp').1))
  have S := init_spec w C (hp.objs.size + 1) hp.objs.size ms t1 sp t2 _ _ hC (UpdF.head (o := excObj C none hp.objs.size) hne)
  refine codeAny_mono (S mean mg mb (dp + 1) (un + 1) _ cn cs a ccd cl outer A₀ base h₀ L m ⟨(hp.push (tupObj [.str ms t1, .int sp t2])).push (excObj C none hp.objs.size), s.gens, s.drawn, tk, s.os⟩ (fun v s' => v = .none ∧ Q (.ref (hp.objs.size + 1)) s') E ⟨B, X, T, BO⟩ F1 N1 hk (by omega) (by omega) ?_) ?_
  · rintro r h' tk' news' F' N' ⟨d', t', oD', rfl, rfl, hlt⟩
    refine ⟨rfl, h _ t' d' oD' h' tk' F' (fun p hp' => N' p ?_) (fun p hp' => Nat.lt_succ_of_lt (Heap.lt_size (N0 p hp').1)) (fun p hp' => hlt p (.tail _ (.tail _ hp'))) (Nat.ne_of_lt (hlt _ (.head _)))⟩
    simp only [List.mem_cons] at hp' ⊢
    rcases hp' with h1 | h1 | h1 | h1 <;> simp [h1]
  · intro r s' z
    rcases r with e | (v | _ | _ | _) <;> exact z

noncomputable def RaiseOut (w : World) (E : Value → Shared → Prop) (v : Value) (s : Shared) : Prop := ∃ e t C od, v = .ref e ∧ s.heap.get? e = some (excObj C od t) ∧ EC w s.heap C ∧ E (.ref e) s

theorem raise_open {w : World} {A : Around} {s : Shared} {env : Env} {ex : PySem.Expr} {pos : Pos} {Q : Flow → Shared → Prop} {E : Value → Shared → Prop} (hh : A.handled = none)
    (h : wpAny (model Challenge.rw_up0052_01.row.prog w) A (eval ex env) (fun v s₁ => RaiseOut w E v s₁) E s) :
    wpAny (model Challenge.rw_up0052_01.row.prog w) A (exec (.Raise (some ex) none pos) env) Q E s := by
  rw [arm_exec_Raise]
  refine wpAny_bind (wpAny_standAt ?_)
  unfold raiseStmt
  refine wpAny_bind ?_
  refine wpAny_bind (wpAny_mono h (fun v s₁ h₁ => ?_) fun _ _ x => x)
  refine wpAny_bind (wpAny_standAt (wpAny_pure ?_))
  obtain ⟨e, t, C, od, rfl, he, Y, hE⟩ := h₁
  have tB : Looks (model Challenge.rw_up0052_01.row.prog w) s₁.heap (isInstance (.ref e) (.type "BaseException")) true := ((Looks.ld (part := none) he).andThen .now).andThen Y.sB
  obtain ⟨nm, qn, ns, bs, sn, sub, ab, col, dd, k0, k1, k2, k3, k5, hC⟩ := Y.hC
  obtain ⟨hp, g, d, tk, os⟩ := s₁
  have he' : hp.get? e = some (excObj C od t) := he
  have hC' : hp.get? C = _ := hC
  repeat (first | ((fail_if_success (with_reducible show wpAny _ _ (raiseNew _) _ _ _)); lk))
  exact wpAny_raiseNew_none hh hE

theorem leave_raise {M : Model} {A : Around} {E : Value → Shared → Prop} {s' : Shared} {base g : Heap} {outer : List Env} {L a e t d C : Addr} {oD : Obj} {m : Str → Option Value} {name : Str} {scope : Scope} {cd : Value} {Q : Unit → Shared → Prop} {news : List (Addr × Obj)} {vs : List Value}
    (K : Below A base outer g) (F : Fr g L s'.heap m) (N : News g L s'.heap ((d, oD) :: (t, tupObj vs) :: (e, excObj C (some d) t) :: news)) (le : ∀ p ∈ news, p.1 < e) (lt : ∀ p ∈ news, p.1 < t)
    (hQ : ∀ h', RaisedS base g outer e (.ref C) t vs news h' → RaisedK base outer e (.ref C) t vs news h' → g.UpToSlots h' → Q () { s' with heap := h' }) (hk : scope.kind = .function := by rfl) :
    wpAny M (A.deeper (envOf name scope L a cd)) (leaving (envOf name scope L a cd) (.ref e)) Q E s' := by
  have K' := K.push (name := name) (a := a) (cd := cd) F hk
  have Ne := N (e, excObj C (some d) t) (by simp)
  have Nt := N (t, tupObj vs) (by simp)
  have fe : base.get? e = none := fresh_of_stays K.stays Ne.2.2
  have ft : base.get? t = none := fresh_of_stays K.stays Nt.2.2
  have hin : ∀ env ∈ (envOf name scope L a cd :: outer), ∀ b, env.frame = some b → b ∈ (envOf name scope L a cd :: outer).filterMap (·.frame) ++ [e, t] := fun env he b hb => List.mem_append_left _ (List.mem_filterMap.mpr ⟨env, he, hb⟩)
  have hout : ∀ b, b ∉ (envOf name scope L a cd :: outer).filterMap (·.frame) → b ≠ e → b ≠ t → b ∉ (envOf name scope L a cd :: outer).filterMap (·.frame) ++ [e, t] := fun b h1 h2 h3 hm => by
    rcases List.mem_append.mp hm with q | q
    · exact h1 q
    · rcases List.mem_cons.mp q with q | q
      · exact h2 q
      · rcases List.mem_cons.mp q with q | q
        · exact h3 q
        · cases q
  have st : base.StaysIn (hideAll s'.heap ((envOf name scope L a cd :: outer).filterMap (·.frame) ++ [e, t])) := fun b o q => hideAll_get _ (K'.stays b o q) (hout b (fun hm => by
    rw [(K'.frames.mem hm).1] at q; cases q) (fun z => by rw [z, fe] at q; cases q) (fun z => by rw [z, ft] at q; cases q))
  have sg : ∀ b o, g.get? b = some o → b ∉ outer.filterMap (·.frame) → (hideAll s'.heap ((envOf name scope L a cd :: outer).filterMap (·.frame) ++ [e, t])).get? b = some o := fun b o q nm => hideAll_get _ (F.keep b o q) (hout b (fun hm => by
    rcases kts_mem hm with z | z
    · rw [z, kts_self F] at q
      cases q
    · exact nm z) (fun z => by rw [z, Ne.2.2] at q; cases q) (fun z => by rw [z, Nt.2.2] at q; cases q))
  have hl : ∀ q ∈ news, (hideAll s'.heap ((envOf name scope L a cd :: outer).filterMap (·.frame) ++ [e, t])).get? q.1 = some q.2 ∧ g.get? q.1 = none ∧ base.get? q.1 = none := fun q hq => by
    have Nq := N q (.tail _ (.tail _ (.tail _ hq)))
    refine ⟨hideAll_get _ Nq.1 (hout _ (fun hm => ?_) (Nat.ne_of_lt (le q hq)) (Nat.ne_of_lt (lt q hq))), Nq.2.2, fresh_of_stays K.stays Nq.2.2⟩
    obtain ⟨env, he, hf⟩ := List.mem_filterMap.mp hm
    rcases List.mem_cons.mp he with rfl | he
    · exact Nq.2.1 (Option.some.inj hf).symm
    · obtain ⟨o, ho, _⟩ := (K.frames.mem (List.mem_filterMap.mpr ⟨env, he, hf⟩)).2
      rw [Nq.2.2] at ho; cases ho
  refine wpAny_leaving_firstW (a0 := .ref t) K'.stack (funFrames_hide K'.frames hin) rfl Ne.1 (fun b o q => of_hideAll _ q) (hideAll_none _ (by simp)) rfl rfl rfl fun h' hL => ?_
  obtain ⟨k1, ⟨_, _, k2⟩, k3, k4⟩ := hL
  have R : RaisedS base g outer e (.ref C) t vs news h' := ⟨⟨_, st, sg, hl, ⟨k1, hideAll_none _ (by simp), k2, k3⟩, hideAll_none _ (by simp)⟩, Heap.TupAt.of_slots ⟨_, _, Nt.1, rfl, rfl⟩ k4⟩
  exact hQ h' R R.toK ((Heap.UpToSlots.of_keeps F.keep).trans k4)

theorem raiseOut_of {w : World} {E : Value → Shared → Prop} {e t C L : Addr} {od : Option Addr} {s : Shared} {h₀ : Heap} {news : List (Addr × Obj)} (N : News h₀ L s.heap news) (hm : (e, excObj C od t) ∈ news) (Y : EC w s.heap C) (h : E (.ref e) s) : RaiseOut w E (.ref e) s :=
  ⟨e, t, C, od, rfl, (N _ hm).1, Y, h⟩
theorem leave_onR {M : Model} {A : Around} {E : Value → Shared → Prop} {s' : Shared} {base g g₂ : Heap} {outer : List Env} {L a e t : Addr} {m : Str → Option Value} {name : Str} {scope : Scope} {cd : Value} {Q : Unit → Shared → Prop} {news : List (Addr × Obj)} {cls : Value} {vs : List Value}
    (R : RaisedS base g₂ (envOf name scope L a cd :: outer) e cls t vs news s'.heap) (K : Below A base outer g) (hsm : g₂.UpToSlots s'.heap) (F : Fr g L g₂ m)
    (hQ : ∀ h', RaisedS base g outer e cls t vs news h' → RaisedK base outer e cls t vs news h' → g.UpToSlots h' → Q () { s' with heap := h' }) :
    wpAny M (A.deeper (envOf name scope L a cd)) (leaving (envOf name scope L a cd) (.ref e)) Q E s' := leave_onS K F R hsm hQ
end

/- F1 -/
section

noncomputable def withinF (md ow : Str) : Bool := ow == Str.ofString "" || md == ow || Txt.startswith md (ow ++ Str.ofString "::")
noncomputable def joinedF (md nm : Str) : Str := if md == Str.ofString "" then nm else md ++ Str.ofString "::" ++ nm
noncomputable def parentF (md : Str) : Str := if Txt.rfind md (Str.ofString "::") < 0 then Str.ofString "" else Txt.slice md none (some (Txt.rfind md (Str.ofString "::")))

theorem within_spec (w : World) (md ow : Str) (t1 t2 : Tok) (news : List (Addr × Obj)) (ho : ow.length ≤ 100) :
    Spec w 92 1 8 [.str md t1, .str ow t2] news (fun r news' => news' = news ∧ r = .bool (withinF md ow)) := by
  unfold Spec
  refine fill w ?_
  k_fill
  intro _ _
  intro mean mg mb dp un gd cn cs a ccd cl outer A₀ base h₀ L m s Q E H F N hk hd hu hret
  obtain ⟨B, X, T, BO⟩ := H
  k_dflt cell_enter
  k_steps
  all_goals refine hret _ _ _ _ (by k_asm) (by k_asm) ⟨rfl, ?_⟩
  all_goals (simp_all [withinF]; done)

theorem joined_spec (w : World) (md nm : Str) (t1 t2 : Tok) (news : List (Addr × Obj)) (hm : md.length ≤ 100) (ho : nm.length ≤ 100) :
    Spec w 78 1 8 [.str md t1, .str nm t2] news (fun r news' => news' = news ∧ ∃ tk, r = .str (joinedF md nm) tk) := by
  unfold Spec
  refine fill w ?_
  k_fill
  intro _ _
  intro mean mg mb dp un gd cn cs a ccd cl outer A₀ base h₀ L m s Q E H F N hk hd hu hret
  obtain ⟨B, X, T, BO⟩ := H
  k_dflt cell_enter
  k_steps
  all_goals refine hret _ _ _ _ (by k_asm) (by k_asm) ⟨rfl, ?_⟩
  all_goals (unfold joinedF; simp_all; done)

theorem parent_spec (w : World) (md : Str) (t1 : Tok) (news : List (Addr × Obj)) (hm : md.length ≤ 100) :
    Spec w 85 1 8 [.str md t1] news (fun r news' => news' = news ∧ ∃ tk, r = .str (parentF md) tk) := by
  unfold Spec
  refine fill w ?_
  k_fill
  intro _ _
  intro mean mg mb dp un gd cn cs a ccd cl outer A₀ base h₀ L m s Q E H F N hk hd hu hret
  obtain ⟨B, X, T, BO⟩ := H
  k_dflt cell_enter
  k_steps
  all_goals refine hret _ _ _ _ (by k_asm) (by k_asm) ⟨rfl, ?_⟩
  all_goals (unfold parentF; first | (rw [if_pos (by omega)]; exact ⟨_, rfl⟩) | (rw [if_neg (by omega)]; exact ⟨_, rfl⟩))
end

local macro_rules | `(tactic| k_room) => `(tactic| ktr_room)
local macro_rules | `(tactic| k_units) => `(tactic| ktr_units)
local macro_rules | `(tactic| walk_at "exec Raise some none") => `(tactic| (k_here; (with_unfolding_all refine raise_open (by first | rfl | assumption) ?_)))
local macro_rules | `(tactic| walk_at "RaiseOut") => `(tactic| (k_here; (first | (refine raiseOut_of (C := 64) (by k_asm) (List.Mem.tail _ (List.Mem.tail _ (List.Mem.head _))) (ec64 (by k_in)) ?_) | (refine raiseOut_of (C := 52) (by k_asm) (List.Mem.tail _ (List.Mem.tail _ (List.Mem.head _))) (ec52 (by k_in)) ?_))))
local macro_rules | `(tactic| walk_at "call ref") => `(tactic| (k_here; k_dflt (refine' exc_make (by first | exact .inl rfl | exact .inr rfl) (by k_asm) (by k_asm) (by k_asm) (by k_asm) (by k_asm) (by k_asm) (by first | exact rfl | assumption) (by ktr_room) (by ktr_units) ?_; k_whole; intro e9 t9 d9 o9 h9 tk9 F9 N9 le9 lt9 ne9; (try k_sweep); (try k_fold))))
local macro_rules | `(tactic| walk_at "leaving ref") => `(tactic| (k_here; (refine' leave_raise (by assumption) (by k_asm) (by k_asm) (by assumption) (by assumption) ?_; k_whole; intro h9 R9 RK9 U9; (try dsimp only at R9 RK9 U9 ⊢))))
local macro_rules | `(tactic| walk_at "leaving ref") => `(tactic| (k_here; (refine' leave_onR (by assumption) (by assumption) (by assumption) (by assumption) ?_; k_whole; intro h9 R9 RK9 U9; (try dsimp only at R9 RK9 U9 ⊢))))
local macro_rules | `(tactic| k_mem) => `(tactic| first | assumption | exact List.Mem.tail _ (by assumption) | exact List.Mem.tail _ (List.Mem.tail _ (by assumption)) | fail "k_mem")

/- F2 -/
section

theorem Spec.use {w : World} {f : Addr} {d u : Nat} {vs : List Value} {news : List (Addr × Obj)} {post : Value → List (Addr × Obj) → Prop} (S : Spec w f d u vs news post)
    {mean : ExcName → Option Value} {mg mb : Str → Option Value} {dp un : Nat} {gd : Option (List Code)} {cn : Str} {cs : Scope} {a : Addr} {ccd : Value} {cl : List (Str × Addr)} {outer : List Env} {A₀ : Around} {base h₀ : Heap} {L : Addr} {m : Str → Option Value} {s : Shared} {h9 : Heap} {t9 : Nat} {Q E : Value → Shared → Prop}
    (B : Below A₀ base outer h₀) (F : Fr h₀ L h9 m) (X : (Mine.hd.heap_39 w.params).In h₀) (N : News h₀ L h9 news) (T : Top Mine.hd.view_39 (looseW Mine.hd.view_39 [Str.ofString "LendError", Str.ofString "PLAIN_NAMES"]) mean mg mb h₀) (BO : BaseOk w mean mg mb base)
    (hk : cs.kind = .function) (hd : dp + d < recursionLimit) (hu : un + u < cLine)
    (ret : ∀ r h' tk' news', Fr h₀ L h' m → News h₀ L h' news' → post r news' → Q r ⟨h', s.gens, s.drawn, tk', s.os⟩) :
    wpAny (model Challenge.rw_up0052_01.row.prog w) (ktrTop dp un gd cn cs L a ccd cl outer) (call (.ref f) vs) Q E ⟨h9, s.gens, s.drawn, t9, s.os⟩ :=
  wpAny_call (S mean mg mb dp un gd cn cs a ccd cl outer A₀ base h₀ L m ⟨h9, s.gens, s.drawn, t9, s.os⟩ Q E ⟨B, X, T, BO⟩ F N hk hd hu ret)

theorem Spec.use2 {w : World} {f : Addr} {d u : Nat} {vs : List Value} {news : List (Addr × Obj)} {post : Value → List (Addr × Obj) → Prop}
    {mean : ExcName → Option Value} {mg mb : Str → Option Value} {dp un : Nat} {gd : Option (List Code)} {cn : Str} {cs : Scope} {a : Addr} {ccd : Value} {cl : List (Str × Addr)} {outer : List Env} {A₀ : Around} {base h₀ : Heap} {L : Addr} {m : Str → Option Value} {s : Shared} {h9 : Heap} {t9 : Nat} {Q E : Value → Shared → Prop}
    (B : Below A₀ base outer h₀) (F : Fr h₀ L h9 m) (X : (Mine.hd.heap_39 w.params).In h₀) (N : News h₀ L h9 news) (T : Top Mine.hd.view_39 (looseW Mine.hd.view_39 [Str.ofString "LendError", Str.ofString "PLAIN_NAMES"]) mean mg mb h₀) (BO : BaseOk w mean mg mb base)
    (hk : cs.kind = .function) (hd : dp + d < recursionLimit) (hu : un + u < cLine)
    (S : Spec w f d u vs news post) (ret : ∀ r h' tk' news', Fr h₀ L h' m → News h₀ L h' news' → post r news' → Q r ⟨h', s.gens, s.drawn, tk', s.os⟩) :
    wpAny (model Challenge.rw_up0052_01.row.prog w) (ktrTop dp un gd cn cs L a ccd cl outer) (call (.ref f) vs) Q E ⟨h9, s.gens, s.drawn, t9, s.os⟩ :=
  S.use B F X N T BO hk hd hu ret

/-- a contract that may raise one of the two own exceptions: exc C news' -/
noncomputable def SpecE (w : World) (f : Addr) (d u : Nat) (vs : List Value) (news : List (Addr × Obj)) (post : Value → List (Addr × Obj) → Prop) (exc : Addr → List (Addr × Obj) → Prop) : Prop :=
  ∀ (mean : ExcName → Option Value) (mg mb : Str → Option Value) (dp un : Nat) (gd : Option (List Code)) (cn : Str) (cs : Scope) (a : Addr) (ccd : Value) (cl : List (Str × Addr)) (outer : List Env) (A₀ : Around) (base h₀ : Heap) (L : Addr) (m : Str → Option Value) (s : Shared)
    (Q E : Value → Shared → Prop),
    Here w mean mg mb A₀ base h₀ outer → Fr h₀ L s.heap m → News h₀ L s.heap news → cs.kind = .function → dp + d < recursionLimit → un + u < cLine →
    (∀ r h' tk' news', Fr h₀ L h' m → News h₀ L h' news' → post r news' → Q r { s with heap := h', toks := tk' }) →
    (∀ G C e t vs' h' tk' news', Fr h₀ L G m → RaisedS base G (envX cn cs L a ccd cl :: outer) e (.ref C) t vs' news' h' → G.UpToSlots h' → exc C news' → E (.ref e) { s with heap := h', toks := tk' }) →
    codeAny (model Challenge.rw_up0052_01.row.prog w) (ktrTop dp un gd cn cs L a ccd cl outer) (.call (.ref f) ⟨vs, []⟩) (Back Q E) s

theorem SpecE.use {w : World} {f : Addr} {d u : Nat} {vs : List Value} {news : List (Addr × Obj)} {post : Value → List (Addr × Obj) → Prop} {exc : Addr → List (Addr × Obj) → Prop} (S : SpecE w f d u vs news post exc)
    {mean : ExcName → Option Value} {mg mb : Str → Option Value} {dp un : Nat} {gd : Option (List Code)} {cn : Str} {cs : Scope} {a : Addr} {ccd : Value} {cl : List (Str × Addr)} {outer : List Env} {A₀ : Around} {base h₀ : Heap} {L : Addr} {m : Str → Option Value} {s : Shared} {h9 : Heap} {t9 : Nat} {Q E : Value → Shared → Prop}
    (B : Below A₀ base outer h₀) (F : Fr h₀ L h9 m) (X : (Mine.hd.heap_39 w.params).In h₀) (N : News h₀ L h9 news) (T : Top Mine.hd.view_39 (looseW Mine.hd.view_39 [Str.ofString "LendError", Str.ofString "PLAIN_NAMES"]) mean mg mb h₀) (BO : BaseOk w mean mg mb base)
    (hk : cs.kind = .function) (hd : dp + d < recursionLimit) (hu : un + u < cLine)
    (ret : ∀ r h' tk' news', Fr h₀ L h' m → News h₀ L h' news' → post r news' → Q r ⟨h', s.gens, s.drawn, tk', s.os⟩)
    (raise : ∀ G C e t vs' h' tk' news', Fr h₀ L G m → RaisedS base G (envX cn cs L a ccd cl :: outer) e (.ref C) t vs' news' h' → G.UpToSlots h' → exc C news' → E (.ref e) ⟨h', s.gens, s.drawn, tk', s.os⟩) :
    wpAny (model Challenge.rw_up0052_01.row.prog w) (ktrTop dp un gd cn cs L a ccd cl outer) (call (.ref f) vs) Q E ⟨h9, s.gens, s.drawn, t9, s.os⟩ :=
  wpAny_call (S mean mg mb dp un gd cn cs a ccd cl outer A₀ base h₀ L m ⟨h9, s.gens, s.drawn, t9, s.os⟩ Q E ⟨B, X, T, BO⟩ F N hk hd hu ret raise)

theorem SpecE.use2 {w : World} {f : Addr} {d u : Nat} {vs : List Value} {news : List (Addr × Obj)} {post : Value → List (Addr × Obj) → Prop} {exc : Addr → List (Addr × Obj) → Prop}
    {mean : ExcName → Option Value} {mg mb : Str → Option Value} {dp un : Nat} {gd : Option (List Code)} {cn : Str} {cs : Scope} {a : Addr} {ccd : Value} {cl : List (Str × Addr)} {outer : List Env} {A₀ : Around} {base h₀ : Heap} {L : Addr} {m : Str → Option Value} {s : Shared} {h9 : Heap} {t9 : Nat} {Q E : Value → Shared → Prop}
    (B : Below A₀ base outer h₀) (F : Fr h₀ L h9 m) (X : (Mine.hd.heap_39 w.params).In h₀) (N : News h₀ L h9 news) (T : Top Mine.hd.view_39 (looseW Mine.hd.view_39 [Str.ofString "LendError", Str.ofString "PLAIN_NAMES"]) mean mg mb h₀) (BO : BaseOk w mean mg mb base)
    (hk : cs.kind = .function) (hd : dp + d < recursionLimit) (hu : un + u < cLine)
    (S : SpecE w f d u vs news post exc) (ret : ∀ r h' tk' news', Fr h₀ L h' m → News h₀ L h' news' → post r news' → Q r ⟨h', s.gens, s.drawn, tk', s.os⟩)
    (raise : ∀ G C e t vs' h' tk' news', Fr h₀ L G m → RaisedS base G (envX cn cs L a ccd cl :: outer) e (.ref C) t vs' news' h' → G.UpToSlots h' → exc C news' → E (.ref e) ⟨h', s.gens, s.drawn, tk', s.os⟩) :
    wpAny (model Challenge.rw_up0052_01.row.prog w) (ktrTop dp un gd cn cs L a ccd cl outer) (call (.ref f) vs) Q E ⟨h9, s.gens, s.drawn, t9, s.os⟩ :=
  S.use B F X N T BO hk hd hu ret raise

noncomputable abbrev eAt (w : World) (n : String) (tk : Tok) (v : Value) : DictEntry := ⟨PyData.keyHash w.params (Str.ofString n), .str (Str.ofString n) tk, v⟩
noncomputable abbrev modsDict (w : World) (k1 k2 k3 k4 k5 k6 : Tok) (ka pa ta ga ia ke : Addr) : List DictEntry :=
  [eAt w "kinds" k1 (.ref ka), eAt w "publics" k2 (.ref pa), eAt w "tables" k3 (.ref ta), eAt w "generics" k4 (.ref ga), eAt w "items" k5 (.ref ia), eAt w "kept" k6 (.ref ke)]
noncomputable abbrev tabDict (w : World) (k1 k2 k3 : Tok) (ty va us : Addr) : List DictEntry := [eAt w "types" k1 (.ref ty), eAt w "values" k2 (.ref va), eAt w "uses" k3 (.ref us)]

inductive StrDict (w : World) (news : List (Addr × Obj)) (d : Addr) (kvs : List (Str × Value)) : Prop
  | mk : ∀ o, ((d, o) ∈ news) → ((d == sysModules) = false) → (o.IsDictOf (PySem.strKind Challenge.rw_up0052_01.row.prog w) kvs) → StrDict w news d kvs
inductive TableAt (w : World) (news : List (Addr × Obj)) (tb : Addr) (kvT kvV : List (Str × Value)) : Prop
  | mk : ∀ td ty va us k1 k2 k3 n, ((tb, instObj 142 td) ∈ news) → ((td, dictOf (tabDict w k1 k2 k3 ty va us) n) ∈ news) → (StrDict w news ty kvT) → (StrDict w news va kvV) → (StrDict w news us []) → TableAt w news tb kvT kvV
inductive ModAt (w : World) (news : List (Addr × Obj)) (mo dx ka pa ta : Addr) : Prop
  | mk : ∀ k1 k2 k3 k4 k5 k6 ga ia ke n, ((mo, instObj 275 dx) ∈ news) → ((dx, dictOf (modsDict w k1 k2 k3 k4 k5 k6 ka pa ta ga ia ke) n) ∈ news) → ModAt w news mo dx ka pa ta

noncomputable def LookOk (opt : Option (Str × Tok)) (vis : Bool) (r : Value) : Prop := match opt with | none => r = .none | some x => vis = true ∧ ∃ tk, r = .str x.1 tk

inductive LookHyp (w : World) (news : List (Addr × Obj)) (mo dx : Addr) (ow nm : Str) (ty : Bool) (opt : Option (Str × Tok)) (b : Bool) : Prop
  | mk : ∀ ka pa ta tb kvK kvB kvT kvV kvP tk0, (ModAt w news mo dx ka pa ta) → (StrDict w news ka kvK) → (StrDict w news ta kvB) → (StrDict w news pa kvP) → (TableAt w news tb kvT kvV) → (valueAt kvK ow = some (.str (Str.ofString "mod") tk0)) → (valueAt kvB ow = some (.ref tb)) → (ow.length ≤ 100) → (valueAt (if ty then kvT else kvV) nm = (opt.map fun x => Value.str x.1 x.2)) → (∀ p tk, opt = some (p, tk) → p.length ≤ 100 ∧ valueAt kvP p = some (.bool b)) → LookHyp w news mo dx ow nm ty opt b

theorem space_spec (w : World) (tb td tya va us d : Addr) (k1 k2 k3 : Tok) (n : Nat) (ty : Bool) (spS : Str) (t : Tok) (news : List (Addr × Obj)) (hsp : spS = if ty then Str.ofString "type" else Str.ofString "value") (hd : d = if ty then tya else va)
    (htb : (tb, instObj 142 td) ∈ news) (htd : (td, dictOf (tabDict w k1 k2 k3 tya va us) n) ∈ news) :
    Spec w 134 1 8 [.ref tb, .str spS t] news (fun r news' => news' = news ∧ r = .ref d) := by
  subst hsp hd
  unfold Spec
  refine fill w ?_
  k_fill
  intro _ _
  intro mean mg mb dp un gd cn cs a ccd cl outer A₀ base h₀ L m s Q E H F N hk hd hu hret
  obtain ⟨B, X, T, BO⟩ := H
  cases ty <;> simp only [if_true, if_false, Bool.false_eq_true]
  all_goals
    k_dflt cell_enter
    k_steps
  all_goals exact hret _ _ _ _ (by k_asm) (by k_asm) ⟨rfl, rfl⟩

theorem look_spec (w : World) (mo dx sl : Addr) (as ow nm : Str) (t1 t2 t3 t4 t5 : Tok) (sp : Int) (news : List (Addr × Obj)) (ty : Bool) (spS : Str) (opt : Option (Str × Tok)) (b : Bool) (hsp : spS = if ty then Str.ofString "type" else Str.ofString "value")
    (LH : LookHyp w news mo dx ow nm ty opt b) :
    SpecE w 236 4 40 [.ref mo, .str as t1, .str ow t2, .str nm t3, .str spS t4, .int sp t5, .ref sl] news
      (fun r news' => news' = news ∧ LookOk opt (b || withinF as ow) r)
      (fun C news' => news' = news ∧ C = 64 ∧ opt.isSome = true ∧ (b || withinF as ow) = false) := by
  obtain ⟨ka, pa, ta, tb, kvK, kvB, kvT, kvV, kvP, tk0, M, DK, DB, DP, TA, hK, hB, ho, hv, hp⟩ := LH
  obtain ⟨k1, k2, k3, k4, k5, k6, ga, ia, ke, nM, hmo, hdx⟩ := M
  obtain ⟨oK, hoK, lK, dK⟩ := DK
  obtain ⟨oB, hoB, lB, dB⟩ := DB
  obtain ⟨oP, hoP, lP, dP⟩ := DP
  obtain ⟨td, tya, va, us, q1, q2, q3, nT, htb, htd, DT, DV, ⟨oU, hoU, lU, dU⟩⟩ := TA
  obtain ⟨dsp, kvS, hdsp, DS, hv⟩ : ∃ dsp kvS, dsp = (if ty then tya else va) ∧ StrDict w news dsp kvS ∧ valueAt kvS nm = opt.map fun x => Value.str x.1 x.2 := by
    cases ty with
    | true => exact ⟨tya, kvT, rfl, DT, hv⟩
    | false => exact ⟨va, kvV, rfl, DV, hv⟩
  clear DT DV
  obtain ⟨oS, hoS, lS, dS⟩ := DS
  unfold SpecE
  refine fill w ?_
  k_fill
  intro _ _
  intro mean mg mb dp un gd cn cs a ccd cl outer A₀ base h₀ L m s Q E H F N hk hd hu hret hexc
  obtain ⟨B, X, T, BO⟩ := H
  cases opt with
  | none =>
    simp only [Option.map_none] at hv
    k_dflt cell_enter
    repeat' (first | (k_unfold; (try dsimp only)) | (k_end; kc_close) | (first | ((with_reducible show wpAny _ _ (call (Value.builtin "dict.get") _) _ _ _); (k_here; k_dflt (first | refine kdg_get1 (knd := PySem.strKind _ _) (by k_asm) (by assumption) (by assumption) (by assumption) (strKind_is _ _ _ _) _ (by assumption) ?_ | refine kdg_get1 (knd := PySem.strKind _ _) (by k_asm) (by assumption) (by assumption) (by assumption) (strKind_is _ _ _ _) none (by rfl) ?_); (try dsimp only [Option.getD]))) | ((with_reducible show wpAny _ _ (getMethod (Value.ref _) _ _) _ _ _); (k_here; (with_reducible show wpAny _ _ (getMethod (Value.ref _) (Str.ofString "get") _) _ _ _); k_dflt (refine kdg_method (knd := PySem.strKind _ _) (by k_asm) (by assumption) (by assumption) ?_))) | ((with_reducible show wpAny _ _ (subscriptTail _ _ _ _) _ _ _); (k_here; (with_reducible show wpAny _ _ (subscriptTail _ _ (Value.ref _) (Value.str _ _)) _ _ _); k_dflt (refine kda_item (knd := PySem.strKind _ _) (by k_asm) (by assumption) (by assumption) (strKind_is _ _ _ _) (by assumption) ?_))) | ((with_reducible show wpAny _ _ (call (Value.ref _) _) _ _ _); (k_here; k_dflt (refine' Spec.use2 (by k_asm) (by k_asm) (by k_asm) (by k_asm) (by k_asm) (by k_asm) (by first | exact rfl | assumption) (by ktr_room) (by ktr_units) (space_spec _ _ _ _ _ _ _ _ _ _ _ _ _ _ _ (by assumption) (by assumption) (by k_mem) (by k_mem)) ?_; k_whole; intro z_r9 z_h9 z_tk9 z_n9 z_F9 z_N9 z_P9; obtain ⟨z_e9, z_e8⟩ := z_P9; subst z_e9 z_e8; (try dsimp only); (try k_sweep); (try k_fold)))) | ((with_reducible show wpAny _ _ (call (Value.ref _) _) _ _ _); (k_here; k_dflt (refine' Spec.use2 (by k_asm) (by k_asm) (by k_asm) (by k_asm) (by k_asm) (by k_asm) (by first | exact rfl | assumption) (by ktr_room) (by ktr_units) (within_spec _ _ _ _ _ _ (by assumption)) ?_; k_whole; intro z_r9 z_h9 z_tk9 z_n9 z_F9 z_N9 z_P9; obtain ⟨z_e9, z_e8⟩ := z_P9; subst z_e9 z_e8; (try dsimp only); (try k_sweep); (try k_fold)))) | walk1) | (dsimp only; walk1) | (leave1; (try dsimp only)) | fail "no step")
    all_goals exact hret _ _ _ _ (by k_asm) (by k_asm) ⟨rfl, rfl⟩
  | some x =>
    obtain ⟨p, tk⟩ := x
    obtain ⟨hpl, hpp⟩ := hp p tk rfl
    simp only [Option.map_some] at hv
    k_dflt cell_enter
    repeat' (first | (k_unfold; (try dsimp only)) | (k_end; kc_close) | (first | ((with_reducible show wpAny _ _ (call (Value.builtin "dict.get") _) _ _ _); (k_here; k_dflt (first | refine kdg_get1 (knd := PySem.strKind _ _) (by k_asm) (by assumption) (by assumption) (by assumption) (strKind_is _ _ _ _) _ (by assumption) ?_ | refine kdg_get1 (knd := PySem.strKind _ _) (by k_asm) (by assumption) (by assumption) (by assumption) (strKind_is _ _ _ _) none (by rfl) ?_); (try dsimp only [Option.getD]))) | ((with_reducible show wpAny _ _ (getMethod (Value.ref _) _ _) _ _ _); (k_here; (with_reducible show wpAny _ _ (getMethod (Value.ref _) (Str.ofString "get") _) _ _ _); k_dflt (refine kdg_method (knd := PySem.strKind _ _) (by k_asm) (by assumption) (by assumption) ?_))) | ((with_reducible show wpAny _ _ (subscriptTail _ _ _ _) _ _ _); (k_here; (with_reducible show wpAny _ _ (subscriptTail _ _ (Value.ref _) (Value.str _ _)) _ _ _); k_dflt (refine kda_item (knd := PySem.strKind _ _) (by k_asm) (by assumption) (by assumption) (strKind_is _ _ _ _) (by assumption) ?_))) | ((with_reducible show wpAny _ _ (call (Value.ref _) _) _ _ _); (k_here; k_dflt (refine' Spec.use2 (by k_asm) (by k_asm) (by k_asm) (by k_asm) (by k_asm) (by k_asm) (by first | exact rfl | assumption) (by ktr_room) (by ktr_units) (space_spec _ _ _ _ _ _ _ _ _ _ _ _ _ _ _ (by assumption) (by assumption) (by k_mem) (by k_mem)) ?_; k_whole; intro z_r9 z_h9 z_tk9 z_n9 z_F9 z_N9 z_P9; obtain ⟨z_e9, z_e8⟩ := z_P9; subst z_e9 z_e8; (try dsimp only); (try k_sweep); (try k_fold)))) | ((with_reducible show wpAny _ _ (call (Value.ref _) _) _ _ _); (k_here; k_dflt (refine' Spec.use2 (by k_asm) (by k_asm) (by k_asm) (by k_asm) (by k_asm) (by k_asm) (by first | exact rfl | assumption) (by ktr_room) (by ktr_units) (within_spec _ _ _ _ _ _ (by assumption)) ?_; k_whole; intro z_r9 z_h9 z_tk9 z_n9 z_F9 z_N9 z_P9; obtain ⟨z_e9, z_e8⟩ := z_P9; subst z_e9 z_e8; (try dsimp only); (try k_sweep); (try k_fold)))) | walk1) | (dsimp only; walk1) | (leave1; (try dsimp only)) | fail "no step")
    all_goals first
      | exact hret _ _ _ _ (by k_asm) (by k_asm) ⟨rfl, by simp [*], _, rfl⟩
      | exact hexc _ _ _ _ _ _ _ _ (by assumption) (by assumption) (by assumption) ⟨rfl, rfl, rfl, by simp [*]⟩
end

/- F3 -/
section
noncomputable abbrev preludeL : List Str := ["Clone", "Copy", "Default", "Drop", "Err", "None", "Ok", "Option", "Range8", "Result", "Some", "Vec8", "swapped"]
noncomputable abbrev waysL : List Str := ["crate", "self", "super"]
noncomputable abbrev plainL : List Str := ["i8", "i16", "i32", "i64", "u8", "u16", "u32", "u64", "usize", "bool", "Box"]

theorem in_top_tuple {prog : Program} {w : World} {A : Around} {s : Shared} {E : Value → Shared → Prop} {K : Frag} {a : Addr} {o : Obj} {vs : Array Value} {n : Nat} {ys : List Str} {x : Str} {u : Tok} {b : Bool} {Q : Value → Shared → Prop}
    (X : K.In s.heap) (hl : K.lookup a = some o) (hc : o.cls = .type "tuple") (hd : o.data = .seq vs n) (hs : StrsAre vs.toList ys) (hb : ys.any (· == x) = b) (h : Q (.bool b) s) :
    wpAny (model prog w) A (compareOp .In (.str x u) (.ref a)) Q E s :=
  in_tuple_strs ⟨o, X _ _ hl, hc, n, hd⟩ hs (by rw [hb]; exact h)



theorem step_some (w : World) (mo dx sl : Addr) (as ow nm : Str) (t1 t2 t3 t4 t5 : Tok) (sp : Int) (news : List (Addr × Obj)) (ty : Bool) (spS : Str) (opt : Option (Str × Tok)) (b : Bool) (hsp : spS = if ty then Str.ofString "type" else Str.ofString "value")
    (LH : LookHyp w news mo dx ow nm ty opt b) :
    SpecE w 229 6 60 [.ref mo, .str as t1, .str ow t2, .str nm t3, .str spS t4, .int sp t5, .ref sl] news
      (fun r news' => news' = news ∧ LookOk opt (b || withinF as ow) r)
      (fun C news' => news' = news ∧ C = 64 ∧ opt.isSome = true ∧ (b || withinF as ow) = false) := by
  have LH0 := LH
  obtain ⟨ka, pa, ta, tb, kvK, kvB, kvT, kvV, kvP, tk0, M, DK, DB, DP, TA, hK, hB, ho, hv, hp⟩ := LH0
  unfold SpecE
  refine fill w ?_
  k_fill
  intro _ _
  intro mean mg mb dp un gd cn cs a ccd cl outer A₀ base h₀ L m s Q E H F N hk hd hu hret hexc
  obtain ⟨B, X, T, BO⟩ := H
  obtain ⟨k1, k2, k3, k4, k5, k6, ga, ia, ke, nM, hmo, hdx⟩ := M
  cases opt with
  | none =>
    k_dflt cell_enter
    repeat' (first | (k_unfold; (try dsimp only)) | (k_end; kc_close) | (first | ((with_reducible show wpAny _ _ (compareOp CmpOp.In (Value.str _ _) (Value.ref _)) _ _ _); (k_here; k_dflt (refine' in_top_tuple (ys := preludeL) (by k_in) (by k_is) (by exact rfl) (by exact rfl) (by repeat constructor) (by assumption) ?_; k_whole))) | ((with_reducible show wpAny _ _ (call (Value.ref _) _) _ _ _); (k_here; k_dflt (refine' SpecE.use2 (by k_asm) (by k_asm) (by k_asm) (by k_asm) (by k_asm) (by k_asm) (by first | exact rfl | assumption) (by ktr_room) (by ktr_units) (look_spec _ _ _ _ _ _ _ _ _ _ _ _ _ _ _ _ _ _ (by assumption) (by assumption)) ?_ ?_; k_whole); all_goals (first | (intro z_r9 z_h9 z_tk9 z_n9 z_F9 z_N9 z_P9; obtain ⟨z_e9, z_P8⟩ := z_P9; subst z_e9; (try dsimp only [LookOk] at z_P8); first | (subst z_P8; (try dsimp only); (try k_sweep); (try k_fold)) | (obtain ⟨z_P7, z_tk8, z_P6⟩ := z_P8; subst z_P6; (try dsimp only); (try k_sweep); (try k_fold))) | (intro z_G9 z_C9 z_e9 z_t9 z_vs9 z_h9 z_tk9 z_n9 z_FG9 z_R9 z_U9 z_P9; obtain ⟨z_e8, z_e7, z_P8, z_P7⟩ := z_P9; subst z_e8 z_e7; (try dsimp only); (try k_fold))))) | walk1) | (dsimp only; walk1) | (leave1; (try dsimp only)) | fail "no step")
    all_goals first
      | exact hret _ _ _ _ (by k_asm) (by k_asm) ⟨rfl, rfl⟩
      | exact hexc _ _ _ _ _ _ _ _ (by assumption) (by assumption) (by assumption) ⟨rfl, rfl, by assumption, by assumption⟩
  | some x =>
    obtain ⟨p, tk⟩ := x
    k_dflt cell_enter
    repeat' (first | (k_unfold; (try dsimp only)) | (k_end; kc_close) | (first | ((with_reducible show wpAny _ _ (compareOp CmpOp.In (Value.str _ _) (Value.ref _)) _ _ _); (k_here; k_dflt (refine' in_top_tuple (ys := preludeL) (by k_in) (by k_is) (by exact rfl) (by exact rfl) (by repeat constructor) (by assumption) ?_; k_whole))) | ((with_reducible show wpAny _ _ (call (Value.ref _) _) _ _ _); (k_here; k_dflt (refine' SpecE.use2 (by k_asm) (by k_asm) (by k_asm) (by k_asm) (by k_asm) (by k_asm) (by first | exact rfl | assumption) (by ktr_room) (by ktr_units) (look_spec _ _ _ _ _ _ _ _ _ _ _ _ _ _ _ _ _ _ (by assumption) (by assumption)) ?_ ?_; k_whole); all_goals (first | (intro z_r9 z_h9 z_tk9 z_n9 z_F9 z_N9 z_P9; obtain ⟨z_e9, z_P8⟩ := z_P9; subst z_e9; (try dsimp only [LookOk] at z_P8); first | (subst z_P8; (try dsimp only); (try k_sweep); (try k_fold)) | (obtain ⟨z_P7, z_tk8, z_P6⟩ := z_P8; subst z_P6; (try dsimp only); (try k_sweep); (try k_fold))) | (intro z_G9 z_C9 z_e9 z_t9 z_vs9 z_h9 z_tk9 z_n9 z_FG9 z_R9 z_U9 z_P9; obtain ⟨z_e8, z_e7, z_P8, z_P7⟩ := z_P9; subst z_e8 z_e7; (try dsimp only); (try k_fold))))) | walk1) | (dsimp only; walk1) | (leave1; (try dsimp only)) | fail "no step")
    all_goals first
      | exact hret _ _ _ _ (by k_asm) (by k_asm) ⟨rfl, by assumption, _, rfl⟩
      | exact hexc _ _ _ _ _ _ _ _ (by assumption) (by assumption) (by assumption) ⟨rfl, rfl, by assumption, by assumption⟩
theorem step_none (w : World) (mo dx sl : Addr) (as nm : Str) (t1 t3 t4 t5 : Tok) (sp : Int) (news : List (Addr × Obj)) (ty : Bool) (spS : Str) (opt : Option (Str × Tok)) (b : Bool) (hsp : spS = if ty then Str.ofString "type" else Str.ofString "value")
    (LH : LookHyp w news mo dx as nm ty opt b) (hn : preludeL.any (· == nm) = false) :
    SpecE w 229 6 60 [.ref mo, .str as t1, .none, .str nm t3, .str spS t4, .int sp t5, .ref sl] news
      (fun r news' => news' = news ∧ LookOk opt (b || withinF as as) r)
      (fun C news' => news' = news ∧ C = 64 ∧ opt.isSome = true ∧ (b || withinF as as) = false) := by
  have LH0 := LH
  obtain ⟨ka, pa, ta, tb, kvK, kvB, kvT, kvV, kvP, tk0, M, DK, DB, DP, TA, hK, hB, ho, hv, hp⟩ := LH0
  unfold SpecE
  refine fill w ?_
  k_fill
  intro _ _
  intro mean mg mb dp un gd cn cs a ccd cl outer A₀ base h₀ L m s Q E H F N hk hd hu hret hexc
  obtain ⟨B, X, T, BO⟩ := H
  obtain ⟨k1, k2, k3, k4, k5, k6, ga, ia, ke, nM, hmo, hdx⟩ := M
  cases opt with
  | none =>
    k_dflt cell_enter
    repeat' (first | (k_unfold; (try dsimp only)) | (k_end; kc_close) | (first | ((with_reducible show wpAny _ _ (compareOp CmpOp.In (Value.str _ _) (Value.ref _)) _ _ _); (k_here; k_dflt (refine' in_top_tuple (ys := preludeL) (by k_in) (by k_is) (by exact rfl) (by exact rfl) (by repeat constructor) (by assumption) ?_; k_whole))) | ((with_reducible show wpAny _ _ (call (Value.ref _) _) _ _ _); (k_here; k_dflt (refine' SpecE.use2 (by k_asm) (by k_asm) (by k_asm) (by k_asm) (by k_asm) (by k_asm) (by first | exact rfl | assumption) (by ktr_room) (by ktr_units) (look_spec _ _ _ _ _ _ _ _ _ _ _ _ _ _ _ _ _ _ (by assumption) (by assumption)) ?_ ?_; k_whole); all_goals (first | (intro z_r9 z_h9 z_tk9 z_n9 z_F9 z_N9 z_P9; obtain ⟨z_e9, z_P8⟩ := z_P9; subst z_e9; (try dsimp only [LookOk] at z_P8); first | (subst z_P8; (try dsimp only); (try k_sweep); (try k_fold)) | (obtain ⟨z_P7, z_tk8, z_P6⟩ := z_P8; subst z_P6; (try dsimp only); (try k_sweep); (try k_fold))) | (intro z_G9 z_C9 z_e9 z_t9 z_vs9 z_h9 z_tk9 z_n9 z_FG9 z_R9 z_U9 z_P9; obtain ⟨z_e8, z_e7, z_P8, z_P7⟩ := z_P9; subst z_e8 z_e7; (try dsimp only); (try k_fold))))) | walk1) | (dsimp only; walk1) | (leave1; (try dsimp only)) | fail "no step")
    all_goals first
      | exact hret _ _ _ _ (by k_asm) (by k_asm) ⟨rfl, rfl⟩
      | exact hexc _ _ _ _ _ _ _ _ (by assumption) (by assumption) (by assumption) ⟨rfl, rfl, by assumption, by assumption⟩
  | some x =>
    obtain ⟨p, tk⟩ := x
    k_dflt cell_enter
    repeat' (first | (k_unfold; (try dsimp only)) | (k_end; kc_close) | (first | ((with_reducible show wpAny _ _ (compareOp CmpOp.In (Value.str _ _) (Value.ref _)) _ _ _); (k_here; k_dflt (refine' in_top_tuple (ys := preludeL) (by k_in) (by k_is) (by exact rfl) (by exact rfl) (by repeat constructor) (by assumption) ?_; k_whole))) | ((with_reducible show wpAny _ _ (call (Value.ref _) _) _ _ _); (k_here; k_dflt (refine' SpecE.use2 (by k_asm) (by k_asm) (by k_asm) (by k_asm) (by k_asm) (by k_asm) (by first | exact rfl | assumption) (by ktr_room) (by ktr_units) (look_spec _ _ _ _ _ _ _ _ _ _ _ _ _ _ _ _ _ _ (by assumption) (by assumption)) ?_ ?_; k_whole); all_goals (first | (intro z_r9 z_h9 z_tk9 z_n9 z_F9 z_N9 z_P9; obtain ⟨z_e9, z_P8⟩ := z_P9; subst z_e9; (try dsimp only [LookOk] at z_P8); first | (subst z_P8; (try dsimp only); (try k_sweep); (try k_fold)) | (obtain ⟨z_P7, z_tk8, z_P6⟩ := z_P8; subst z_P6; (try dsimp only); (try k_sweep); (try k_fold))) | (intro z_G9 z_C9 z_e9 z_t9 z_vs9 z_h9 z_tk9 z_n9 z_FG9 z_R9 z_U9 z_P9; obtain ⟨z_e8, z_e7, z_P8, z_P7⟩ := z_P9; subst z_e8 z_e7; (try dsimp only); (try k_fold))))) | walk1) | (dsimp only; walk1) | (leave1; (try dsimp only)) | fail "no step")
    all_goals first
      | exact hret _ _ _ _ (by k_asm) (by k_asm) ⟨rfl, by assumption, _, rfl⟩
      | exact hexc _ _ _ _ _ _ _ _ (by assumption) (by assumption) (by assumption) ⟨rfl, rfl, by assumption, by assumption⟩

theorem step_any (w : World) (mo dx sl : Addr) (as ow nm : Str) (hv : Value) (t1 t3 t4 t5 : Tok) (sp : Int) (news : List (Addr × Obj)) (ty : Bool) (spS : Str) (opt : Option (Str × Tok)) (b : Bool) (hsp : spS = if ty then Str.ofString "type" else Str.ofString "value")
    (LH : LookHyp w news mo dx ow nm ty opt b) (hn : preludeL.any (· == nm) = false) (hh : (hv = .none ∧ ow = as) ∨ ∃ t, hv = .str ow t) :
    SpecE w 229 6 60 [.ref mo, .str as t1, hv, .str nm t3, .str spS t4, .int sp t5, .ref sl] news
      (fun r news' => news' = news ∧ LookOk opt (b || withinF as ow) r)
      (fun C news' => news' = news ∧ C = 64 ∧ opt.isSome = true ∧ (b || withinF as ow) = false) := by
  rcases hh with ⟨rfl, rfl⟩ | ⟨t, rfl⟩
  · exact step_none w mo dx sl _ nm t1 t3 t4 t5 sp news ty spS opt b hsp LH hn
  · exact step_some w mo dx sl as ow nm t1 t t3 t4 t5 sp news ty spS opt b hsp LH
end

/- TP -/
section

inductive StrTup (news : List (Addr × Obj)) (a : Addr) (ns : List Str) : Prop
  | mk : ∀ vs, ((a, tupObj vs) ∈ news) → (StrsAre vs ns) → StrTup news a ns

theorem strsAre_get : ∀ {vs : List Value} {ns : List Str}, StrsAre vs ns → ∀ {k : Nat} {x : Str}, ns[k]? = some x → ∃ tk, vs[k]? = some (.str x tk)
  | _, _, .cons y t h, 0, x, e => ⟨t, by simp at e; subst e; rfl⟩
  | _, _, .cons y t h, k + 1, x, e => by
    obtain ⟨tk, h'⟩ := strsAre_get h (k := k) (x := x) (by simpa using e)
    exact ⟨tk, by simpa using h'⟩
theorem strsAre_len {vs : List Value} {ns : List Str} (h : StrsAre vs ns) : vs.length = ns.length := by
  induction h with
  | nil => rfl
  | cons _ _ _ ih => simp [ih]
theorem strsAre_append {vs us : List Value} {ns ms : List Str} (h : StrsAre vs ns) (g : StrsAre us ms) : StrsAre (vs ++ us) (ns ++ ms) := by
  induction h with
  | nil => exact g
  | cons y t _ ih => exact .cons y t ih
theorem strsAre_take {vs : List Value} {ns : List Str} (h : StrsAre vs ns) : ∀ k, StrsAre (vs.take k) (ns.take k) := by
  induction h with
  | nil => intro k; simp; exact .nil
  | cons y t _ ih => intro k; cases k with
    | zero => exact .nil
    | succ k => exact .cons y t (ih k)
theorem strsAre_drop {vs : List Value} {ns : List Str} (h : StrsAre vs ns) : ∀ k, StrsAre (vs.drop k) (ns.drop k) := by
  induction h with
  | nil => intro k; simp; exact .nil
  | cons y t r ih => intro k; cases k with
    | zero => exact .cons y t r
    | succ k => exact ih k
theorem listEq_range : ∀ (ns ms : List Str), ((List.range (min ns.length ms.length)).all (fun j => ns.getD j Str.empty == ms.getD j Str.empty) && ns.length == ms.length) = decide (ns = ms) := by
  intro ns ms
  by_cases h : ns = ms
  · subst h; simp
  · rw [decide_eq_false h, Bool.and_eq_false_iff]
    by_cases hl : ns.length = ms.length
    · left
      rw [← Bool.not_eq_true, List.all_eq_true]
      intro hall
      apply h
      apply List.ext_getElem hl
      intro i h1 h2
      have := hall i (by simp; omega)
      simp [List.getD, List.getElem?_eq_getElem h1, List.getElem?_eq_getElem h2] at this
      exact this
    · right; simpa using hl

section
variable {prog : Program} {w : World} {A : Around} {s : Shared} {E : Value → Shared → Prop} {h₀ : Heap} {L a b : Addr} {news : List (Addr × Obj)} {vs us : List Value} {ns ms : List Str} {Q : Value → Shared → Prop}

theorem strsAre_eqAt (s1 : StrsAre vs ns) (s2 : StrsAre us ms) {A : Around} : ∀ j (h1 : j < vs.toArray.size) (h2 : j < us.toArray.size), PySem.SeqAt.EqAt A s vs.toArray[j] us.toArray[j] (ns.getD j Str.empty == ms.getD j Str.empty) := by
  intro j h1 h2
  have l1 := strsAre_len s1
  have l2 := strsAre_len s2
  simp only [List.size_toArray] at h1 h2
  obtain ⟨t1, e1⟩ := strsAre_get s1 (List.getElem?_eq_getElem (by omega : j < ns.length))
  obtain ⟨t2, e2⟩ := strsAre_get s2 (List.getElem?_eq_getElem (by omega : j < ms.length))
  rw [List.getElem?_eq_getElem h1] at e1
  rw [List.getElem?_eq_getElem h2] at e2
  simp only [List.getElem_toArray, Option.some.inj e1, Option.some.inj e2]
  have g1 : ns.getD j Str.empty = ns[j] := by simp [List.getD, List.getElem?_eq_getElem (by omega : j < ns.length)]
  have g2 : ms.getD j Str.empty = ms[j] := by simp [List.getD, List.getElem?_eq_getElem (by omega : j < ms.length)]
  rw [g1, g2]
  exact (eqGives_str _ _ _ _).at _ _

theorem eq_strTups (N : News h₀ L s.heap news) (h1 : (a, tupObj vs) ∈ news) (h2 : (b, tupObj us) ∈ news) (s1 : StrsAre vs ns) (s2 : StrsAre us ms) (hu : A.units < cLine) (h : Q (.bool (decide (ns = ms))) s) :
    wpAny (model prog w) A (compareOp .Eq (.ref a) (.ref b)) Q E s := by
  refine PySem.SeqAt.eq_tupleAt (e := fun j => ns.getD j Str.empty == ms.getD j Str.empty) ⟨_, (N _ h1).1, rfl, _, rfl⟩ ⟨_, (N _ h2).1, rfl, _, rfl⟩ hu (strsAre_eqAt s1 s2) ?_
  have e := listEq_range ns ms
  simp only [List.size_toArray, strsAre_len s1, strsAre_len s2]
  rw [e]
  exact h
theorem ne_strTups (N : News h₀ L s.heap news) (h1 : (a, tupObj vs) ∈ news) (h2 : (b, tupObj us) ∈ news) (s1 : StrsAre vs ns) (s2 : StrsAre us ms) (hu : A.units < cLine) (h : Q (.bool (!decide (ns = ms))) s) :
    wpAny (model prog w) A (compareOp .NotEq (.ref a) (.ref b)) Q E s := by
  refine PySem.SeqAt.RcNeAt.tuples (e := fun j => ns.getD j Str.empty == ms.getD j Str.empty) ⟨_, (N _ h1).1, rfl, _, rfl⟩ ⟨_, (N _ h2).1, rfl, _, rfl⟩ hu (strsAre_eqAt s1 s2) prog w E Q ?_
  have e := listEq_range ns ms
  simp only [List.size_toArray, strsAre_len s1, strsAre_len s2]
  rw [e]
  exact h

theorem item_strs {value slice : PySem.Expr} {i : Int} {k : Nat} {u : Tok} {x : Str} (N : News h₀ L s.heap news) (hm : (a, tupObj vs) ∈ news) (hs : StrsAre vs ns) (hi : i = (k : Int)) (hx : ns[k]? = some x) (hz : ns.length ≤ 100) (h : ∀ tk, Q (.str x tk) s)
    (hsub : subscripted slice false (.ref a) (.int i u) = operate [.ref a, .int i u] (getItem (.ref a) (.int i u)) := by with_unfolding_all rfl) :
    wpAny (model prog w) A (subscriptTail value slice (.ref a) (.int i u)) Q E s := by
  obtain ⟨tk, hv⟩ := strsAre_get hs hx
  have hk : k < vs.length := (List.getElem?_eq_some_iff.mp hv).1
  have hl := strsAre_len hs
  refine item_tupleT (j := k) ⟨_, (N _ hm).1, rfl, _, rfl⟩ (by omega) (by omega) ?_ ?_ (h tk) hsub
  · subst hi
    have e : ¬ ((k : Int) < 0) := by omega
    simp [seqIndex?, e, hk]
  · simpa using hv
theorem len_strs {hp : Heap} {tp : Nat} (N : News h₀ L hp news) (hm : (a, tupObj vs) ∈ news) (hs : StrsAre vs ns) (hz : ns.length ≤ 100) (h : Q (.int (ns.length : Nat) (tp + 1)) ⟨hp, s.gens, s.drawn, tp + 1 + 1, s.os⟩) :
    wpAny (model prog w) A (call (.builtin "len") [.ref a]) Q E ⟨hp, s.gens, s.drawn, tp, s.os⟩ := by
  have hl := strsAre_len hs
  refine kun_lenT (s := (⟨hp, s.gens, s.drawn, tp, s.os⟩ : Shared)) ⟨_, (N _ hm).1, rfl, _, rfl⟩ (k := (ns.length : Nat)) (by simp [hl]) (by omega) h
end

theorem notin_top_tuple {prog : Program} {w : World} {A : Around} {s : Shared} {E : Value → Shared → Prop} {K : Frag} {a : Addr} {o : Obj} {vs : Array Value} {n : Nat} {ys : List Str} {x : Str} {u : Tok} {b : Bool} {Q : Value → Shared → Prop}
    (X : K.In s.heap) (hl : K.lookup a = some o) (hc : o.cls = .type "tuple") (hd : o.data = .seq vs n) (hs : StrsAre vs.toList ys) (hb : ys.any (· == x) = b) (h : Q (.bool (!b)) s) :
    wpAny (model prog w) A (compareOp .NotIn (.str x u) (.ref a)) Q E s :=
  notin_tuple_strs ⟨o, X _ _ hl, hc, n, hd⟩ hs (by rw [hb]; exact h)
end

local macro_rules | `(tactic| kde_strs) => `(tactic| first | assumption | (repeat' (first | assumption | constructor)))
local macro_rules | `(tactic| walk_at "compareOp Eq ref ref") => `(tactic| (k_here; k_dflt (refine' eq_strTups (by k_asm) (by k_mem) (by k_mem) (by kde_strs) (by kde_strs) (by ktr_units) ?_; k_whole)))
local macro_rules | `(tactic| walk_at "compareOp NotEq ref ref") => `(tactic| (k_here; k_dflt (refine' ne_strTups (by k_asm) (by k_mem) (by k_mem) (by kde_strs) (by kde_strs) (by ktr_units) ?_; k_whole)))
local macro_rules | `(tactic| walk_at "call builtin:len") => `(tactic| (k_here; (with_reducible show wpAny _ _ (call (Value.builtin "len") [Value.ref _]) _ _ _); k_dflt (refine' len_strs (by k_asm) (by k_mem) (by kde_strs) (by assumption) ?_; k_whole)))
local macro_rules | `(tactic| walk_at "subscriptTail") => `(tactic| (k_here; (with_reducible show wpAny _ _ (subscriptTail _ _ (Value.ref _) (Value.int _ _)) _ _ _); k_dflt (refine' item_strs (by k_asm) (by k_mem) (by kde_strs) (by first | assumption | exact rfl) (by first | assumption | exact rfl) (by assumption) ?_; k_whole); intro _))
local macro_rules | `(tactic| ktr_step) => `(tactic| repeat' (first | ((fail_if_success (with_reducible show wpAny _ _ (exec (Stmt.While _ _ _ _) _) _ _ _)); (fail_if_success (with_reducible show wpAny _ _ (exec (Stmt.For _ _ _ _ _) _) _ _ _)); (first | ((with_reducible show wpAny _ _ (exec _ _) _ _ _); k_fold) | (k_unfold; (try dsimp only)) | (k_end; wrow_close) | walk1 | (dsimp only; walk1) | (leave1; try dsimp only)))))

/- F4 -/
section

noncomputable def supS : Str → List Str → Option (Str × Nat)
  | h, [] => some (h, 0)
  | h, x :: r => if x = Str.ofString "super" then (if h = Str.ofString "" then none else (supS (parentF h) r).map fun y => (y.1, y.2 + 1)) else some (h, 0)

noncomputable def beginS (md : Str) : List Str → Option (Option Str × Nat)
  | [] => none
  | x :: r => if x = Str.ofString "crate" then some (some (Str.ofString ""), 1) else if waysL.any (· == x) = false then some (none, 0)
      else if x = Str.ofString "self" then (supS md r).map fun y => (some y.1, y.2 + 1) else (supS md (x :: r)).map fun y => (some y.1, y.2)


theorem ways_cases (x : Str) : x = Str.ofString "crate" ∨ x = Str.ofString "self" ∨ x = Str.ofString "super" ∨ waysL.any (· == x) = false := by
  by_cases h1 : x = Str.ofString "crate"
  · exact .inl h1
  by_cases h2 : x = Str.ofString "self"
  · exact .inr (.inl h2)
  by_cases h3 : x = Str.ofString "super"
  · exact .inr (.inr (.inl h3))
  refine .inr (.inr (.inr ?_))
  simp [Ne.symm h1, Ne.symm h2, Ne.symm h3]

theorem ways_three (x : Str) : x = Str.ofString "crate" ∨ (x = Str.ofString "self" ∨ x = Str.ofString "super") ∨ waysL.any (· == x) = false := by
  rcases ways_cases x with h | h | h | h
  · exact .inl h
  · exact .inr (.inl (.inl h))
  · exact .inr (.inl (.inr h))
  · exact .inr (.inr h)

theorem supS_step {h z : Str} {r : List Str} {k : Nat} (hz : (z == Str.ofString "super") = true) (hh : (h == Str.ofString "") = false) :
    (supS h (z :: r)).map (fun y => (some y.1, y.2 + k)) = (supS (parentF h) r).map (fun y => (some y.1, y.2 + (k + 1))) := by
  have h1 : z = Str.ofString "super" := beq_iff_eq.mp hz
  have h2 : ¬ h = Str.ofString "" := fun e => by rw [e] at hh; simp at hh
  rw [supS, if_pos h1, if_neg h2, Option.map_map]
  congr 1
  funext y
  simp only [Function.comp]
  rw [Nat.add_assoc, Nat.add_comm 1 k]

noncomputable def BeginOk (o : Option (Option Str × Nat)) (hv : Value) (k : Int) : Prop := match o with
  | none => False
  | some (none, j) => hv = .none ∧ k = (j : Int)
  | some (some h, j) => (∃ t, hv = .str h t) ∧ k = (j : Int)

theorem news_drop2 {h₀ h : Heap} {L : Addr} {p q : Addr × Obj} {l : List (Addr × Obj)} (N : News h₀ L h (p :: q :: l)) : News h₀ L h (p :: l) := fun x hx => by
  rcases List.mem_cons.mp hx with rfl | hx
  · exact N _ (.head _)
  · exact N _ (.tail _ (.tail _ hx))
theorem news_sub {h₀ h : Heap} {L : Addr} {l l' : List (Addr × Obj)} (N : News h₀ L h l) (hs : ∀ p ∈ l', p ∈ l) : News h₀ L h l' := fun p hp => N p (hs p hp)
theorem news_head {h₀ h : Heap} {L : Addr} {p : Addr × Obj} {l l' : List (Addr × Obj)} (N : News h₀ L h (p :: l)) (hs : ∀ p ∈ l', p ∈ l) : News h₀ L h (p :: l') := fun x hx => by
  rcases List.mem_cons.mp hx with rfl | hx
  · exact N _ (.head _)
  · exact N _ (.tail _ (hs _ hx))
theorem raised_sub {base G h : Heap} {l : List Env} {e t : Addr} {cls : Value} {vs : List Value} {news news' : List (Addr × Obj)} (R : RaisedS base G l e cls t vs news h) (hs : ∀ p ∈ news', p ∈ news) : RaisedS base G l e cls t vs news' h := by
  obtain ⟨⟨B, a, b, c, d⟩, r⟩ := R
  exact ⟨⟨B, a, b, fun q hq => c q (hs q hq), d⟩, r⟩
theorem news_tail {h₀ h : Heap} {L : Addr} {p : Addr × Obj} {l : List (Addr × Obj)} (N : News h₀ L h (p :: l)) : News h₀ L h l := fun x hx => N x (.tail _ hx)

theorem parentF_le (m : Str) : (parentF m).length ≤ m.length := by
  unfold parentF
  split
  · exact Nat.zero_le _
  · exact Txt.slice_le _ _ _

inductive BeginJ (md : Str) (full : List Str) (m : Str → Option Value) (nw : List (Addr × Obj)) (n : Nat) (m₁ : Str → Option Value) (n₁ : List (Addr × Obj)) : Prop
  | mk : ∀ (h : Str) (t : Tok) (k : Nat) (tk : Tok), (h.length ≤ 100) → (full.length + 1 - k ≤ n) → (k ≤ full.length) → (m₁ = (fun y => if y = Str.ofString "here" then some (.str h t) else if y = Str.ofString "at" then some (.int (k : Int) tk) else m y)) → (n₁ = nw) → (beginS md full = (supS h (full.drop k)).map fun y => (some y.1, y.2 + k)) → BeginJ md full m nw n m₁ n₁

theorem over_self {m : Str → Option Value} {a b : Str} {v u : Value} (h1 : m a = some v) (h2 : m b = some u) : m = fun y => if y = a then some v else if y = b then some u else m y := by
  funext y
  by_cases e1 : y = a
  · rw [if_pos e1, e1]; exact h1
  · rw [if_neg e1]
    by_cases e2 : y = b
    · rw [if_pos e2, e2]; exact h2
    · rw [if_neg e2]
theorem over_turn {m : Str → Option Value} {a b : Str} {v u v' : Value} {i j : Int} {tk : Tok} (hij : i = j) :
    (fun y => if y = a then some v' else if y = b then some (.int i tk) else (if y = a then some v else if y = b then some u else m y)) = fun y => if y = a then some v' else if y = b then some (.int j tk) else m y := by
  subst hij
  funext y
  by_cases e1 : y = a
  · simp [e1]
  · by_cases e2 : y = b
    · simp [e2]
    · simp [e1, e2]

theorem While_at {prog : Program} {w : World} {A : Around} {E : Value → Shared → Prop} {Q : Flow → Shared → Prop} {s : Shared} {hp : Heap} {tk : Nat} {env : Env} {h₀ : Heap} {L : Addr} {test : PySem.Expr} {body : List Stmt} {pos : Pos} {m : Str → Option Value} {news : List (Addr × Obj)}
    (J : (Str → Option Value) → List (Addr × Obj) → Nat → (Str → Option Value) → List (Addr × Obj) → Prop) (n₀ : Nat)
    (F : Fr h₀ L hp m) (N : News h₀ L hp news) (hJ : J m news n₀ m news)
    (turn : ∀ n m₁ news₁ h₁ tk₁, Fr h₀ L h₁ m₁ → News h₀ L h₁ news₁ → J m news n m₁ news₁ →
      wpAny (model prog w) A (isTrue test env (eval test env)) (fun b s₂ =>
        if b = true then wpAny (model prog w) A (execs body env) (WhileStep2 h₀ L s (J m news) Q n) E s₂ else Q .next s₂) E ⟨h₁, s.gens, s.drawn, tk₁, s.os⟩)
    (hE : PassesOwn (model prog w) A env E) :
    wpAny (model prog w) A (exec (.While test body [] pos) env) Q E ⟨hp, s.gens, s.drawn, tk, s.os⟩ := While_inv2 (s := (⟨hp, s.gens, s.drawn, tk, s.os⟩ : Shared)) (J m news) F N hJ turn hE

theorem begin_spec (w : World) (mo dx na : Addr) (md : Str) (t1 t3 : Tok) (sp : Int) (ns : List Str) (news : List (Addr × Obj))
    (hmo : (mo, instObj 275 dx) ∈ news) (es : List DictEntry) (nM : Nat) (k1 k2 k3 k4 k5 k6 : Tok) (ka pa ta ga ia ke : Addr) (hdx : (dx, dictOf (modsDict w k1 k2 k3 k4 k5 k6 ka pa ta ga ia ke) nM) ∈ news)
    (hmd : md.length ≤ 100) (hns : StrTup news na ns) (hne : ns ≠ []) (hz : ns.length ≤ 100) :
    SpecE w 222 4 40 [.ref mo, .str md t1, .ref na, .int sp t3] news
      (fun r news' => ∃ D hv k tk, news' = (D, tupObj [hv, .int k tk]) :: news ∧ r = .ref D ∧ BeginOk (beginS md ns) hv k)
      (fun C news' => news' = news ∧ C = 52 ∧ beginS md ns = none) := by
  obtain ⟨vs, hna, hvs⟩ := hns
  unfold SpecE
  refine fill w ?_
  k_fill
  intro _ _
  intro mean mg mb dp un gd cn cs a ccd cl outer A₀ base h₀ L m s Q E H F N hk hd hu hret hexc
  obtain ⟨B, X, T, BO⟩ := H
  cases hvs with
  | nil => exact absurd rfl hne
  | @cons x u vs' ns' hvs' =>
  have hnn : ¬ (x :: ns' = []) := fun e => by cases e
  obtain ⟨full, hfull⟩ : ∃ full, full = x :: ns' := ⟨_, rfl⟩
  have hsup : Str.ofString "here" ≠ Str.ofString "at" := by decide +kernel
  rcases ways_three x with rfl | hss | hx
  · k_dflt cell_enter
    repeat' (first | ((fail_if_success (with_reducible show wpAny _ _ (exec (Stmt.While _ _ _ _) _) _ _ _)); (fail_if_success (with_reducible show wpAny _ _ (exec (Stmt.For _ _ _ _ _) _) _ _ _)); (first | ((with_reducible show wpAny _ _ (exec _ _) _ _ _); k_fold) | (k_unfold; (try dsimp only)) | (k_end; wrow_close) | (first | ((with_reducible show wpAny _ _ (compareOp CmpOp.NotIn (Value.str _ _) (Value.ref _)) _ _ _); (k_here; k_dflt (refine' notin_top_tuple (ys := waysL) (by k_in) (by k_is) (by exact rfl) (by exact rfl) (by repeat constructor) (by first | assumption | exact rfl) ?_; k_whole))) | ((with_reducible show wpAny _ _ (call (Value.ref _) _) _ _ _); (k_here; k_dflt (refine' Spec.use2 (by k_asm) (by k_asm) (by k_asm) (by k_asm) (by k_asm) (by k_asm) (by first | exact rfl | assumption) (by ktr_room) (by ktr_units) (parent_spec _ _ _ _ (by assumption)) ?_; k_whole; intro z_r9 z_h9 z_tk9 z_n9 z_F9 z_N9 z_P9; obtain ⟨z_e9, z_tk8, z_e8⟩ := z_P9; subst z_e9 z_e8; (try dsimp only); (try k_sweep); (try k_fold)))) | walk1) | (dsimp only; walk1) | (leave1; (try dsimp only)))))
    all_goals exact hret _ _ _ _ (by k_asm) (news_head (by k_asm) (by ktd_sub)) ⟨_, _, _, _, rfl, rfl, ⟨_, rfl⟩, rfl⟩
  · have hx1 : (x == Str.ofString "crate") = false := by rcases hss with rfl | rfl <;> decide +kernel
    have hx2 : waysL.any (· == x) = true := by rcases hss with rfl | rfl <;> decide +kernel
    k_dflt cell_enter
    repeat' (first | ((fail_if_success (with_reducible show wpAny _ _ (eval (PySem.Expr.IfExp _ _ _ _) _) _ _ _)); (first | (k_unfold; (try dsimp only)) | (k_end; wrow_close) | (first | ((with_reducible show wpAny _ _ (compareOp CmpOp.NotIn (Value.str _ _) (Value.ref _)) _ _ _); (k_here; k_dflt (refine' notin_top_tuple (ys := waysL) (by k_in) (by k_is) (by exact rfl) (by exact rfl) (by repeat constructor) (by first | assumption | exact rfl) ?_; k_whole))) | ((with_reducible show wpAny _ _ (call (Value.ref _) _) _ _ _); (k_here; k_dflt (refine' Spec.use2 (by k_asm) (by k_asm) (by k_asm) (by k_asm) (by k_asm) (by k_asm) (by first | exact rfl | assumption) (by ktr_room) (by ktr_units) (parent_spec _ _ _ _ (by assumption)) ?_; k_whole; intro z_r9 z_h9 z_tk9 z_n9 z_F9 z_N9 z_P9; obtain ⟨z_e9, z_tk8, z_e8⟩ := z_P9; subst z_e9 z_e8; (try dsimp only); (try k_sweep); (try k_fold)))) | walk1) | (dsimp only; walk1) | (leave1; try dsimp only))))
    rename Fr _ _ _ _ => lF
    rename News _ _ _ _ => lN
    refine eval_cutE lF (fun v l' => ∃ (k : Nat) (tk : Tok), v = .int (k : Int) tk ∧ k ≤ full.length ∧ (beginS md full = (supS md (full.drop k)).map fun y => (some y.1, y.2 + k)) ∧ ∀ q ∈ news, q ∈ l') ?i1 ?i2
    case i1 =>
      rcases hss with rfl | rfl
      · repeat' (first | ((fail_if_success (with_reducible show wpAny _ _ (exec (Stmt.While _ _ _ _) _) _ _ _)); (fail_if_success (with_reducible show wpAny _ _ (exec (Stmt.For _ _ _ _ _) _) _ _ _)); (first | ((with_reducible show wpAny _ _ (exec _ _) _ _ _); k_fold) | (k_unfold; (try dsimp only)) | (k_end; wrow_close) | (first | ((with_reducible show wpAny _ _ (compareOp CmpOp.NotIn (Value.str _ _) (Value.ref _)) _ _ _); (k_here; k_dflt (refine' notin_top_tuple (ys := waysL) (by k_in) (by k_is) (by exact rfl) (by exact rfl) (by repeat constructor) (by first | assumption | exact rfl) ?_; k_whole))) | ((with_reducible show wpAny _ _ (call (Value.ref _) _) _ _ _); (k_here; k_dflt (refine' Spec.use2 (by k_asm) (by k_asm) (by k_asm) (by k_asm) (by k_asm) (by k_asm) (by first | exact rfl | assumption) (by ktr_room) (by ktr_units) (parent_spec _ _ _ _ (by assumption)) ?_; k_whole; intro z_r9 z_h9 z_tk9 z_n9 z_F9 z_N9 z_P9; obtain ⟨z_e9, z_tk8, z_e8⟩ := z_P9; subst z_e9 z_e8; (try dsimp only); (try k_sweep); (try k_fold)))) | walk1) | (dsimp only; walk1) | (leave1; (try dsimp only)))))
        rename Fr _ _ _ _ => lF
        rename News _ _ _ _ => lN
        exact CutEnd.intro lF lN ⟨1, _, rfl, by rw [hfull]; exact Nat.succ_le_succ (Nat.zero_le _), by rw [hfull]; rfl, fun q hq => by repeat (first | exact hq | apply List.Mem.tail)⟩
      · repeat' (first | ((fail_if_success (with_reducible show wpAny _ _ (exec (Stmt.While _ _ _ _) _) _ _ _)); (fail_if_success (with_reducible show wpAny _ _ (exec (Stmt.For _ _ _ _ _) _) _ _ _)); (first | ((with_reducible show wpAny _ _ (exec _ _) _ _ _); k_fold) | (k_unfold; (try dsimp only)) | (k_end; wrow_close) | (first | ((with_reducible show wpAny _ _ (compareOp CmpOp.NotIn (Value.str _ _) (Value.ref _)) _ _ _); (k_here; k_dflt (refine' notin_top_tuple (ys := waysL) (by k_in) (by k_is) (by exact rfl) (by exact rfl) (by repeat constructor) (by first | assumption | exact rfl) ?_; k_whole))) | ((with_reducible show wpAny _ _ (call (Value.ref _) _) _ _ _); (k_here; k_dflt (refine' Spec.use2 (by k_asm) (by k_asm) (by k_asm) (by k_asm) (by k_asm) (by k_asm) (by first | exact rfl | assumption) (by ktr_room) (by ktr_units) (parent_spec _ _ _ _ (by assumption)) ?_; k_whole; intro z_r9 z_h9 z_tk9 z_n9 z_F9 z_N9 z_P9; obtain ⟨z_e9, z_tk8, z_e8⟩ := z_P9; subst z_e9 z_e8; (try dsimp only); (try k_sweep); (try k_fold)))) | walk1) | (dsimp only; walk1) | (leave1; (try dsimp only)))))
        rename Fr _ _ _ _ => lF
        rename News _ _ _ _ => lN
        exact CutEnd.intro lF lN ⟨0, _, rfl, Nat.zero_le _, by rw [hfull]; rfl, fun q hq => by repeat (first | exact hq | apply List.Mem.tail)⟩
    case i2 =>
    intro v5 h5 tk5 l5 lF5 lN5 hJ5
    obtain ⟨k5, u5, rfl, hk5, hb5, hs5⟩ := hJ5
    have lN6 := news_sub lN5 hs5
    clear lF lN lN5 hs5
    repeat' (first | ((fail_if_success (with_reducible show wpAny _ _ (exec (Stmt.While _ _ _ _) _) _ _ _)); (fail_if_success (with_reducible show wpAny _ _ (exec (Stmt.For _ _ _ _ _) _) _ _ _)); (first | ((with_reducible show wpAny _ _ (exec _ _) _ _ _); k_fold) | (k_unfold; (try dsimp only)) | (k_end; wrow_close) | (first | ((with_reducible show wpAny _ _ (compareOp CmpOp.NotIn (Value.str _ _) (Value.ref _)) _ _ _); (k_here; k_dflt (refine' notin_top_tuple (ys := waysL) (by k_in) (by k_is) (by exact rfl) (by exact rfl) (by repeat constructor) (by first | assumption | exact rfl) ?_; k_whole))) | ((with_reducible show wpAny _ _ (call (Value.ref _) _) _ _ _); (k_here; k_dflt (refine' Spec.use2 (by k_asm) (by k_asm) (by k_asm) (by k_asm) (by k_asm) (by k_asm) (by first | exact rfl | assumption) (by ktr_room) (by ktr_units) (parent_spec _ _ _ _ (by assumption)) ?_; k_whole; intro z_r9 z_h9 z_tk9 z_n9 z_F9 z_N9 z_P9; obtain ⟨z_e9, z_tk8, z_e8⟩ := z_P9; subst z_e9 z_e8; (try dsimp only); (try k_sweep); (try k_fold)))) | walk1) | (dsimp only; walk1) | (leave1; (try dsimp only)))))
    rename Fr _ _ _ _ => lF
    rename News _ _ _ _ => lN
    refine While_at (BeginJ md full) (full.length + 1) lF lN ?start ?turn ?pass
    case pass => passes_own
    case start => exact ⟨md, t1, k5, _, hmd, Nat.sub_le _ _, hk5, over_self rfl rfl, rfl, hb5⟩
    case turn =>
      intro n m₁ news₁ h₁ tk₁ lF1 lN1 hJ0
      try k_fold
      obtain ⟨h, t, k, tk, hh, hn9, hk9, rfl, rfl, hb⟩ := hJ0
      clear lF lN
      cases hr : full.drop k with
      | nil =>
        have hlen : full.length ≤ k := by simpa using hr
        have hlt : ¬ ((k : Int) < (full.length : Nat)) := by omega
        rw [hr] at hb
        rw [hfull] at hlt
        repeat' (first | ((fail_if_success (with_reducible show wpAny _ _ (exec (Stmt.While _ _ _ _) _) _ _ _)); (fail_if_success (with_reducible show wpAny _ _ (exec (Stmt.For _ _ _ _ _) _) _ _ _)); (first | ((with_reducible show wpAny _ _ (exec _ _) _ _ _); k_fold) | (k_unfold; (try dsimp only)) | (k_end; wrow_close) | (first | ((with_reducible show wpAny _ _ (compareOp CmpOp.NotIn (Value.str _ _) (Value.ref _)) _ _ _); (k_here; k_dflt (refine' notin_top_tuple (ys := waysL) (by k_in) (by k_is) (by exact rfl) (by exact rfl) (by repeat constructor) (by first | assumption | exact rfl) ?_; k_whole))) | ((with_reducible show wpAny _ _ (call (Value.ref _) _) _ _ _); (k_here; k_dflt (refine' Spec.use2 (by k_asm) (by k_asm) (by k_asm) (by k_asm) (by k_asm) (by k_asm) (by first | exact rfl | assumption) (by ktr_room) (by ktr_units) (parent_spec _ _ _ _ (by assumption)) ?_; k_whole; intro z_r9 z_h9 z_tk9 z_n9 z_F9 z_N9 z_P9; obtain ⟨z_e9, z_tk8, z_e8⟩ := z_P9; subst z_e9 z_e8; (try dsimp only); (try k_sweep); (try k_fold)))) | walk1) | (dsimp only; walk1) | (leave1; (try dsimp only)))))
        all_goals exact hret _ _ _ _ (by k_asm) (news_head (by k_asm) (by ktd_sub)) ⟨_, _, _, _, rfl, rfl, by rw [← hfull, hb]; exact ⟨⟨_, rfl⟩, by simp [supS]⟩⟩
      | cons z r =>
        have hx : full[k]? = some z := by
          have := congrArg (fun l => l[0]?) hr
          simpa using this
        have hlt0 : k < full.length := (List.getElem?_eq_some_iff.mp hx).1
        have hlt : ((k : Int) < (full.length : Nat)) := by omega
        have hr' : full.drop (k + 1) = r := by rw [← List.drop_drop, hr]; rfl
        rw [hr] at hb
        rw [hfull] at hlt hx
        have hpl := Nat.le_trans (parentF_le h) hh
        repeat' (first | ((fail_if_success (with_reducible show wpAny _ _ (exec (Stmt.While _ _ _ _) _) _ _ _)); (fail_if_success (with_reducible show wpAny _ _ (exec (Stmt.For _ _ _ _ _) _) _ _ _)); (first | ((with_reducible show wpAny _ _ (exec _ _) _ _ _); k_fold) | (k_unfold; (try dsimp only)) | (k_end; wrow_close) | (first | ((with_reducible show wpAny _ _ (compareOp CmpOp.NotIn (Value.str _ _) (Value.ref _)) _ _ _); (k_here; k_dflt (refine' notin_top_tuple (ys := waysL) (by k_in) (by k_is) (by exact rfl) (by exact rfl) (by repeat constructor) (by first | assumption | exact rfl) ?_; k_whole))) | ((with_reducible show wpAny _ _ (call (Value.ref _) _) _ _ _); (k_here; k_dflt (refine' Spec.use2 (by k_asm) (by k_asm) (by k_asm) (by k_asm) (by k_asm) (by k_asm) (by first | exact rfl | assumption) (by ktr_room) (by ktr_units) (parent_spec _ _ _ _ (by assumption)) ?_; k_whole; intro z_r9 z_h9 z_tk9 z_n9 z_F9 z_N9 z_P9; obtain ⟨z_e9, z_tk8, z_e8⟩ := z_P9; subst z_e9 z_e8; (try dsimp only); (try k_sweep); (try k_fold)))) | walk1) | (dsimp only; walk1) | (leave1; (try dsimp only)))))
        all_goals first
          | exact hexc _ _ _ _ _ _ _ _ (by assumption) (raised_sub (by assumption) (by ktd_sub)) (by assumption) ⟨rfl, rfl, by rw [← hfull, hb]; simp_all [supS]⟩
          | exact hret _ _ _ _ (by k_asm) (news_head (by k_asm) (by ktd_sub)) ⟨_, _, _, _, rfl, rfl, by rw [← hfull, hb]; simp_all [supS, BeginOk]⟩
          | (unfold WhileStep2; exact ⟨_, _, _, _, n - 1, rfl, by k_asm, news_sub (by k_asm) (by ktd_sub), by omega, parentF h, _, k + 1, _, hpl, by omega, by omega, over_turn (by omega), rfl, by rw [hb, hr']; exact supS_step (by assumption) (by assumption)⟩)
  · have hx1 : (x == Str.ofString "crate") = false := by
      cases e : (x == Str.ofString "crate") with
      | false => rfl
      | true => rw [beq_iff_eq.mp e] at hx; cases hx
    k_dflt cell_enter
    repeat' (first | ((fail_if_success (with_reducible show wpAny _ _ (exec (Stmt.While _ _ _ _) _) _ _ _)); (fail_if_success (with_reducible show wpAny _ _ (exec (Stmt.For _ _ _ _ _) _) _ _ _)); (first | ((with_reducible show wpAny _ _ (exec _ _) _ _ _); k_fold) | (k_unfold; (try dsimp only)) | (k_end; wrow_close) | (first | ((with_reducible show wpAny _ _ (compareOp CmpOp.NotIn (Value.str _ _) (Value.ref _)) _ _ _); (k_here; k_dflt (refine' notin_top_tuple (ys := waysL) (by k_in) (by k_is) (by exact rfl) (by exact rfl) (by repeat constructor) (by first | assumption | exact rfl) ?_; k_whole))) | ((with_reducible show wpAny _ _ (call (Value.ref _) _) _ _ _); (k_here; k_dflt (refine' Spec.use2 (by k_asm) (by k_asm) (by k_asm) (by k_asm) (by k_asm) (by k_asm) (by first | exact rfl | assumption) (by ktr_room) (by ktr_units) (parent_spec _ _ _ _ (by assumption)) ?_; k_whole; intro z_r9 z_h9 z_tk9 z_n9 z_F9 z_N9 z_P9; obtain ⟨z_e9, z_tk8, z_e8⟩ := z_P9; subst z_e9 z_e8; (try dsimp only); (try k_sweep); (try k_fold)))) | walk1) | (dsimp only; walk1) | (leave1; (try dsimp only)))))
    all_goals exact hret _ _ _ _ (by k_asm) (news_head (by k_asm) (by ktd_sub)) ⟨_, _, _, _, rfl, rfl, by simp_all [beginS, BeginOk]⟩
end

/- MD -/
section

noncomputable abbrev Path := List Str
noncomputable abbrev Seen := List (Path × Bool)
noncomputable def pth (p : Path) : Str := p.foldl joinedF (Str.ofString "")
theorem pth_snoc (p : Path) (n : Str) : pth (p ++ [n]) = joinedF (pth p) n := by simp [pth]
noncomputable def isFn (p : Path) : Bool := p.getLast? == some (Str.ofString "f")
noncomputable def seenAt (S : Seen) (p : Path) : Option Bool := (S.find? fun x => decide (x.1 = p)).map (·.2)
noncomputable def isMod (S : Seen) (p : Path) : Prop := p = [] ∨ ((seenAt S p).isSome = true ∧ isFn p = false)
noncomputable def nextP (S : Seen) (p : Path) (n : Str) (ty : Bool) : Option Bool := if (n == Str.ofString "f") == ty then none else seenAt S (p ++ [n])

inductive Res | ok (p : Path) | names | vis

noncomputable def goP (S : Seen) (asker : Path) : Path → List Str → Res
  | p, [] => .ok p
  | p, n :: r => match nextP S p n (!r.isEmpty) with
    | none => .names
    | some b => if b || withinF (pth asker) (pth p) then goP S asker (p ++ [n]) r else .vis

noncomputable def supP : Path → List Str → Option (Path × List Str)
  | p, [] => some (p, [])
  | p, x :: r => if x = Str.ofString "super" then (if p = [] then none else supP p.dropLast r) else some (p, x :: r)
noncomputable def beginP (asker : Path) : List Str → Option (Path × List Str)
  | [] => none
  | x :: r => if x = Str.ofString "crate" then some ([], r) else if waysL.any (· == x) = false then some (asker, x :: r)
      else if x = Str.ofString "self" then supP asker r else supP asker (x :: r)
noncomputable def findP (S : Seen) (asker : Path) (ns : List Str) : Res := match beginP asker ns with
  | none => .names
  | some (p, left) => goP S asker p left

inductive Mods (w : World) (news : List (Addr × Obj)) (mo dx : Addr) (S : Seen) : Prop
  | mk : ∀ ka pa ta kvK kvB kvP, (ModAt w news mo dx ka pa ta) → (StrDict w news ka kvK) → (StrDict w news ta kvB) → (StrDict w news pa kvP) → ((∀ p, isMod S p → (∃ tk, valueAt kvK (pth p) = some (.str (Str.ofString "mod") tk)) ∧ (pth p).length ≤ 100 ∧ ∃ tb kvT kvV, valueAt kvB (pth p) = some (.ref tb) ∧ TableAt w news tb kvT kvV ∧
      ∀ n ty, ∃ tk, valueAt (if ty then kvT else kvV) n = (nextP S p n ty).map fun _ => Value.str (pth (p ++ [n])) tk)) → ((∀ p b, seenAt S p = some b → (pth p).length ≤ 100 ∧ valueAt kvP (pth p) = some (.bool b))) → ((∀ p, isFn p = true → (seenAt S p).isSome = true → ∃ tk, valueAt kvK (pth p) = some (.str (Str.ofString "fn") tk))) → Mods w news mo dx S

theorem nextP_some {S : Seen} {p : Path} {n : Str} {ty b : Bool} (h : nextP S p n ty = some b) : seenAt S (p ++ [n]) = some b := by
  unfold nextP at h
  split at h
  · cases h
  · exact h

theorem Mods.look {w : World} {news : List (Addr × Obj)} {mo dx : Addr} {S : Seen} (M : Mods w news mo dx S) {p : Path} (hp : isMod S p) (n : Str) (ty : Bool) :
    ∃ tk, LookHyp w news mo dx (pth p) n ty ((nextP S p n ty).map fun _ => (pth (p ++ [n]), tk)) ((nextP S p n ty).getD false) := by
  obtain ⟨ka, pa, ta, kvK, kvB, kvP, hM, hK, hB, hP, h1, h2, h3⟩ := M
  obtain ⟨⟨tk0, k1⟩, hl, tb, kvT, kvV, k2, k3, k4⟩ := h1 p hp
  obtain ⟨tk, k5⟩ := k4 n ty
  refine ⟨tk, ⟨ka, pa, ta, tb, kvK, kvB, kvT, kvV, kvP, tk0, hM, hK, hB, hP, k3, k1, k2, hl, ?_, ?_⟩⟩
  · rw [k5]; cases nextP S p n ty <;> rfl
  · intro q tq e
    cases hn : nextP S p n ty with
    | none => rw [hn] at e; cases e
    | some b =>
      rw [hn] at e
      cases e
      exact h2 _ _ (nextP_some hn)

noncomputable def AskOk (S : Seen) (asker : Path) : Prop := ∀ p, p <+: asker → isMod S p ∧ (p ≠ [] → parentF (pth p) = pth p.dropLast ∧ pth p ≠ Str.ofString "")
noncomputable def LeftOk (l : List Str) : Prop := ∃ pre, l = pre ++ [Str.ofString "f"] ∧ Str.ofString "f" ∉ pre

theorem LeftOk.tail {x : Str} {r : List Str} (h : LeftOk (x :: r)) : (r = [] ∧ x = Str.ofString "f") ∨ (r ≠ [] ∧ x ≠ Str.ofString "f" ∧ LeftOk r) := by
  obtain ⟨pre, e, hn⟩ := h
  cases pre with
  | nil => cases e; exact .inl ⟨rfl, rfl⟩
  | cons y pre =>
    cases e
    refine .inr ⟨by simp, fun e => hn (by rw [e]; exact .head _), pre, rfl, fun hm => hn (.tail _ hm)⟩

theorem sup_rel {S : Seen} {asker : Path} (A : AskOk S asker) : ∀ (l : List Str) (p : Path), p <+: asker → match supP p l with
    | none => supS (pth p) l = none
    | some (q, left) => q <+: asker ∧ ∃ j, supS (pth p) l = some (pth q, j) ∧ l.drop j = left ∧ (LeftOk l → LeftOk left)
  | [], p, hp => ⟨hp, 0, rfl, rfl, fun h => h⟩
  | x :: r, p, hp => by
    unfold supP supS
    by_cases hx : x = Str.ofString "super"
    · rw [if_pos hx, if_pos hx]
      by_cases hp0 : p = []
      · rw [if_pos hp0]
        subst hp0
        exact if_pos (show pth [] = Str.ofString "" from rfl)
      · obtain ⟨hpar, hne⟩ := (A p hp).2 hp0
        rw [if_neg hp0, if_neg hne, hpar]
        have ih := sup_rel A r p.dropLast (List.IsPrefix.trans (List.dropLast_prefix p) hp)
        cases hs : supP p.dropLast r with
        | none => rw [hs] at ih; simp only at ih ⊢; rw [ih]; rfl
        | some y =>
          obtain ⟨q, left⟩ := y
          rw [hs] at ih
          obtain ⟨h1, j, h2, h3, h4⟩ := ih
          refine ⟨h1, j + 1, by rw [h2]; rfl, by simpa using h3, fun hL => h4 ?_⟩
          rcases hL.tail with ⟨_, e⟩ | ⟨_, _, hr⟩
          · rw [hx] at e; exact absurd e (by decide +kernel)
          · exact hr
    · rw [if_neg hx, if_neg hx]
      exact ⟨hp, 0, rfl, rfl, fun h => h⟩

theorem begin_rel {S : Seen} {asker : Path} (A : AskOk S asker) (ns : List Str) (hL : LeftOk ns) : match beginP asker ns with
    | none => beginS (pth asker) ns = none
    | some (q, left) => isMod S q ∧ LeftOk left ∧ ∃ o j, beginS (pth asker) ns = some (o, j) ∧ ns.drop j = left ∧ ((o = none ∧ q = asker) ∨ o = some (pth q)) := by
  cases ns with
  | nil => obtain ⟨pre, e, _⟩ := hL; cases pre <;> cases e
  | cons x r =>
    have refl : asker <+: asker := List.prefix_rfl
    have hnf : ∀ y : Str, x = y → y ≠ Str.ofString "f" → LeftOk r := fun y e hy => by
      rcases hL.tail with ⟨_, e'⟩ | ⟨_, _, hr⟩
      · exact absurd (e.symm.trans e') hy
      · exact hr
    unfold beginP beginS
    dsimp only
    by_cases h1 : x = Str.ofString "crate"
    · rw [if_pos h1, if_pos h1]
      exact ⟨.inl rfl, hnf _ h1 (by decide +kernel), _, 1, rfl, rfl, .inr rfl⟩
    rw [if_neg h1, if_neg h1]
    by_cases h2 : waysL.any (· == x) = false
    · rw [if_pos h2, if_pos h2]
      exact ⟨(A _ refl).1, hL, _, 0, rfl, rfl, .inl ⟨rfl, rfl⟩⟩
    rw [if_neg h2, if_neg h2]
    by_cases h3 : x = Str.ofString "self"
    · rw [if_pos h3, if_pos h3]
      have := sup_rel A r asker refl
      cases hs : supP asker r with
      | none => rw [hs] at this; simp only at this ⊢; rw [this]; rfl
      | some y =>
        obtain ⟨q, left⟩ := y
        rw [hs] at this
        obtain ⟨a1, j, a2, a3, a4⟩ := this
        exact ⟨(A _ a1).1, a4 (hnf _ h3 (by decide +kernel)), _, j + 1, by rw [a2]; rfl, by simpa using a3, .inr rfl⟩
    · rw [if_neg h3, if_neg h3]
      have := sup_rel A (x :: r) asker refl
      cases hs : supP asker (x :: r) with
      | none => rw [hs] at this; simp only at this ⊢; rw [this]; rfl
      | some y =>
        obtain ⟨q, left⟩ := y
        rw [hs] at this
        obtain ⟨a1, j, a2, a3, a4⟩ := this
        exact ⟨(A _ a1).1, a4 hL, _, j, by rw [a2]; rfl, a3, .inr rfl⟩
end

/- MN -/
section
noncomputable def menuL : List (Str × Str) := [(Str.ofString "a", Str.ofString "b"), (Str.ofString "m", Str.ofString "m"), (Str.ofString "up", Str.ofString "x9")]
noncomputable def modsL (o t : Str) : List Path := [[], [o], [o, t], [o ++ Str.ofString "b"], [o, t, Str.ofString "z"], [o ++ Str.ofString "b", t]]
noncomputable def univL (o t : Str) : List Path := (modsL o t).tail ++ (modsL o t).map fun p => p ++ [Str.ofString "f"]
theorem menu_join : ∀ x ∈ menuL, ∀ p ∈ [] :: univL x.1 x.2, Txt.join (Str.ofString "::") p = pth p ∧ p.length ≤ 20 ∧ (p.map (·.length)).sum ≤ 10000 := by decide +kernel
theorem menu_len : ∀ x ∈ menuL, ∀ p ∈ [] :: univL x.1 x.2, (pth p).length ≤ 100 ∧ (p ≠ [] → pth p ≠ Str.ofString "") := by decide +kernel
theorem menu_parent : ∀ x ∈ menuL, ∀ p ∈ modsL x.1 x.2, p ≠ [] → parentF (pth p) = pth p.dropLast := by decide +kernel
theorem menu_within : ∀ x ∈ menuL, ∀ q ∈ modsL x.1 x.2, ∀ p ∈ modsL x.1 x.2, withinF (pth q) (pth p) = decide (q.take p.length = p) := by decide +kernel
theorem menu_inj : ∀ x ∈ menuL, ∀ q ∈ [] :: univL x.1 x.2, ∀ p ∈ [] :: univL x.1 x.2, pth q = pth p → q = p := by decide +kernel
theorem menu_names : ∀ x ∈ menuL, ∀ p ∈ univL x.1 x.2, ∀ n ∈ p, preludeL.any (· == n) = false ∧ plainL.any (· == n) = false ∧ n.length ≤ 100 := by decide +kernel
theorem menu_way_names : ∀ n ∈ [Str.ofString "crate", Str.ofString "self", Str.ofString "super", Str.ofString "f", Str.ofString "z"], preludeL.any (· == n) = false := by decide +kernel
end

/- F5 -/
section

theorem join_strs {prog : Program} {w : World} {A : Around} {s : Shared} {E : Value → Shared → Prop} {h₀ : Heap} {L a : Addr} {news : List (Addr × Obj)} {vs : List Value} {ns : List Str} {sep : Str} {t : Tok} {Q : Value → Shared → Prop}
    (N : News h₀ L s.heap news) (hm : (a, tupObj vs) ∈ news) (hs : StrsAre vs ns) (hsep : sep.length ≤ 2) (hz : ns.length ≤ 100) (hw : (ns.map (·.length)).sum ≤ 10000)
    (h : ∀ x t' k, x.length ≤ 20000 → x = Txt.join sep ns → Q (.str x t') { s with toks := k }) :
    wpAny (model prog w) A (call (.builtin "str.join") [.str sep t, .ref a]) Q E s := by
  refine join_tupleW ⟨_, (N _ hm).1, rfl, _, rfl⟩ hs (by omega) (by omega) fun t' k => h _ t' k ?_ rfl
  have h1 := StrLaws.join_length_le sep ns
  have h2 : ns.length * sep.length ≤ ns.length * 2 := Nat.mul_le_mul_left _ hsep
  rw [show Txt.join sep ns = Str.join sep ns from StrLaws.glued_eq_join ..] 
  generalize (Str.join sep ns).length = q1 at *
  generalize ns.length * sep.length = q2 at *
  omega

inductive WalkJ (S : Seen) (asker : Path) (ns : List Str) (R : Res) (m : Str → Option Value) (nw : List (Addr × Obj)) (n : Nat) (m₁ : Str → Option Value) (n₁ : List (Addr × Obj)) : Prop
  | mk : ∀ (p : Path) (left : List Str) (hv : Value) (k : Nat) (tk : Tok) (u : Str → Option Value), (left = ns.drop k) → (k ≤ ns.length) → (ns.length - k ≤ n) → (goP S asker p left = R) → (((left = [] ∧ isFn p = true ∧ (seenAt S p).isSome = true ∧ ∃ t, hv = .str (pth p) t) ∨ (left ≠ [] ∧ LeftOk left ∧ isMod S p ∧ ((hv = .none ∧ pth p = pth asker) ∨ ∃ t, hv = .str (pth p) t)))) → (m₁ = (fun y => if y = Str.ofString "here" then some hv else if y = Str.ofString "at" then some (.int (k : Int) tk) else if y = Str.ofString "wanted" then u y else if y = Str.ofString "found" then u y else m y)) → (n₁ = nw) → WalkJ S asker ns R m nw n m₁ n₁

structure TyH (k l : Nat) (ty : Bool) : Prop where
  a : (k : Int) + 1 = (l : Nat) → ty = false
  b : ¬ (k : Int) + 1 = (l : Nat) → ty = true
theorem ty_val {k l : Nat} {ty : Bool} (T : TyH k l ty) (h : (k : Int) + 1 = (l : Nat)) : Str.ofString "value" = if ty then Str.ofString "type" else Str.ofString "value" := by rw [T.a h]; rfl
theorem ty_typ {k l : Nat} {ty : Bool} (T : TyH k l ty) (h : ¬ (k : Int) + 1 = (l : Nat)) : Str.ofString "type" = if ty then Str.ofString "type" else Str.ofString "value" := by rw [T.b h]; rfl

theorem vis_of {c : Bool} {X R : Res} (h : (if c = true then X else Res.vis) = R) (hc : c = false) : R = .vis := by rw [hc] at h; exact h.symm
theorem ok_of {c : Bool} {X R : Res} (h : (if c = true then X else Res.vis) = R) (hc : c = true) : X = R := by rw [hc] at h; exact h
theorem over_turn4 {m u : Str → Option Value} {a b c d : Str} {v0 u0 v' fv wv : Value} {i j : Int} {tk : Tok} (hij : i = j) :
    (fun y => if y = a then some v' else if y = b then some (.int i tk) else if y = d then some fv else if y = c then some wv else
      if y = a then some v0 else if y = b then some u0 else if y = c then u y else if y = d then u y else m y) =
    fun y => if y = a then some v' else if y = b then some (.int j tk) else if y = c then (fun y => if y = d then some fv else some wv) y else if y = d then (fun y => if y = d then some fv else some wv) y else m y := by
  subst hij
  funext y
  by_cases e1 : y = a
  · simp [e1]
  by_cases e2 : y = b
  · simp [e2]
  by_cases e3 : y = c
  · simp [e1, e2, e3]
  by_cases e4 : y = d
  · simp [e1, e2, e4]
  simp [e1, e2, e3, e4]
theorem next_case {S : Seen} {p : Path} {z : Str} {asker : Path} {r : List Str} {b : Bool} {tk : Tok} (hp : isMod S p) (h : nextP S p z (!r.isEmpty) = some b) (hL : LeftOk (z :: r)) :
    ((r = [] ∧ isFn (p ++ [z]) = true ∧ (seenAt S (p ++ [z])).isSome = true ∧ ∃ t, Value.str (pth (p ++ [z])) tk = .str (pth (p ++ [z])) t) ∨
      (r ≠ [] ∧ LeftOk r ∧ isMod S (p ++ [z]) ∧ ((Value.str (pth (p ++ [z])) tk = .none ∧ pth (p ++ [z]) = pth asker) ∨ ∃ t, Value.str (pth (p ++ [z])) tk = .str (pth (p ++ [z])) t))) := by
  have hs := nextP_some h
  rcases hL.tail with ⟨rfl, rfl⟩ | ⟨hr, hz, hLr⟩
  · exact .inl ⟨rfl, by simp [isFn], by rw [hs]; rfl, _, rfl⟩
  · exact .inr ⟨hr, hLr, .inr ⟨by rw [hs]; rfl, by simp [isFn, hz]⟩, .inr ⟨_, rfl⟩⟩
theorem begin_none {S : Seen} {asker : Path} {ns : List Str} (A : AskOk S asker) (hL : LeftOk ns) (h : beginS (pth asker) ns = none) : findP S asker ns = .names := by
  have := begin_rel A ns hL
  unfold findP
  cases hb : beginP asker ns with
  | none => rfl
  | some y =>
    obtain ⟨q, left⟩ := y
    rw [hb] at this
    obtain ⟨_, _, o, j, e, _⟩ := this
    rw [h] at e; cases e
theorem LeftOk.ne {l : List Str} (h : LeftOk l) : l ≠ [] := fun e => by obtain ⟨pre, e', _⟩ := h; rw [e] at e'; cases pre <;> cases e'
theorem begin_some {S : Seen} {asker : Path} {ns : List Str} {hv : Value} {k : Int} (A : AskOk S asker) (hL : LeftOk ns) (h : BeginOk (beginS (pth asker) ns) hv k) :
    ∃ q j, isMod S q ∧ LeftOk (ns.drop j) ∧ k = (j : Int) ∧ j ≤ ns.length ∧ ((hv = .none ∧ pth q = pth asker) ∨ ∃ t, hv = .str (pth q) t) ∧ goP S asker q (ns.drop j) = findP S asker ns := by
  have := begin_rel A ns hL
  unfold findP
  cases hb : beginP asker ns with
  | none => rw [hb] at this; simp only at this; rw [this] at h; cases h
  | some y =>
    obtain ⟨q, left⟩ := y
    rw [hb] at this
    obtain ⟨m1, m2, o, j, e, d, hq⟩ := this
    rw [e] at h
    subst d
    have hj : j ≤ ns.length := by
      have := m2.ne
      have h0 := List.length_pos_iff.mpr this
      rw [List.length_drop] at h0
      omega
    refine ⟨q, j, m1, m2, ?_, hj, ?_, rfl⟩
    · rcases hq with ⟨rfl, _⟩ | rfl <;> exact h.2
    · rcases hq with ⟨rfl, e2⟩ | rfl
      · exact .inl ⟨h.1, by rw [e2]⟩
      · exact .inr h.1

theorem over_four {m : Str → Option Value} {a b c d : Str} {v u : Value} (h1 : m a = some v) (h2 : m b = some u) : m = fun y => if y = a then some v else if y = b then some u else if y = c then m y else if y = d then m y else m y := by
  funext y
  by_cases e1 : y = a
  · rw [if_pos e1, e1]; exact h1
  · rw [if_neg e1]
    by_cases e2 : y = b
    · rw [if_pos e2, e2]; exact h2
    · rw [if_neg e2]; simp


theorem walk_spec (w : World) (mo dx na sl : Addr) (S : Seen) (asker : Path) (ns : List Str) (t1 t2 t3 : Tok) (sp : Int) (news : List (Addr × Obj))
    (M : Mods w news mo dx S) (A : AskOk S asker) (hns : StrTup news na ns) (hL : LeftOk ns) (hz : ns.length ≤ 100) (hw : (ns.map (·.length)).sum ≤ 10000) (hpre : ∀ n ∈ ns, preludeL.any (· == n) = false) :
    SpecE w 215 10 120 [.ref mo, .str (pth asker) t1, .ref na, .str (Str.ofString "value") t2, .int sp t3, .ref sl] news
      (fun r news' => news' = news ∧ ∃ p tk, findP S asker ns = .ok p ∧ r = .str (pth p) tk)
      (fun C news' => news' = news ∧ ((C = 52 ∧ findP S asker ns = .names) ∨ (C = 64 ∧ findP S asker ns = .vis))) := by
  have hns0 := hns
  obtain ⟨vs, hna, hvs⟩ := hns0
  have M0 := M
  obtain ⟨ka, pa, ta, kvK, kvB, kvP, hM, hK, hBd, hP, h1, h2, h3⟩ := M0
  obtain ⟨k1, k2, k3, k4, k5, k6, ga, ia, ke, nM, hmo, hdx⟩ := hM
  obtain ⟨oK, hoK, lK, dK⟩ := hK
  have hne : ns ≠ [] := fun e => by obtain ⟨pre, e', _⟩ := hL; rw [e] at e'; cases pre <;> cases e'
  have hmd : (pth asker).length ≤ 100 := (h1 asker (A _ List.prefix_rfl).1).2.1
  unfold SpecE
  refine fill w ?_
  k_fill
  intro _ _
  intro mean mg mb dp un gd cn cs a ccd cl outer A₀ base h₀ L m s Q E H F N hk hd hu hret hexc
  obtain ⟨B, X, T, BO⟩ := H
  k_dflt cell_enter
  repeat' (first | ((fail_if_success (with_reducible show wpAny _ _ (exec (Stmt.While _ _ _ _) _) _ _ _)); (fail_if_success (with_reducible show wpAny _ _ (exec (Stmt.For _ _ _ _ _) _) _ _ _)); (first | ((with_reducible show wpAny _ _ (exec _ _) _ _ _); k_fold) | (k_unfold; (try dsimp only)) | (k_end; wrow_close) | (first | ((with_reducible show wpAny _ _ (subscriptTail _ _ _ _) _ _ _); (k_here; (with_reducible show wpAny _ _ (subscriptTail _ _ (Value.ref _) (Value.str _ _)) _ _ _); k_dflt (refine kda_item (knd := PySem.strKind _ _) (by k_asm) (by assumption) (by assumption) (strKind_is _ _ _ _) (by assumption) ?_))) | ((with_reducible show wpAny _ _ (call (Value.ref _) _) _ _ _); (k_here; k_dflt (refine' SpecE.use2 (by k_asm) (by k_asm) (by k_asm) (by k_asm) (by k_asm) (by k_asm) (by first | exact rfl | assumption) (by ktr_room) (by ktr_units) (step_any _ _ _ _ _ _ _ _ _ _ _ _ _ _ _ _ _ _ (by first | exact ty_val (by assumption) (by assumption) | exact ty_typ (by assumption) (by assumption)) (by assumption) (by assumption) (by assumption)) ?_ ?_; k_whole); all_goals (first | (intro z_r9 z_h9 z_tk9 z_n9 z_F9 z_N9 z_P9; obtain ⟨z_e9, z_P8⟩ := z_P9; subst z_e9; (try dsimp only [LookOk] at z_P8); first | (subst z_P8; (try dsimp only); (try k_sweep); (try k_fold)) | (obtain ⟨z_P7, z_tk8, z_P6⟩ := z_P8; subst z_P6; (try dsimp only); (try k_sweep); (try k_fold))) | (intro z_G9 z_C9 z_e9 z_t9 z_vs9 z_h9 z_tk9 z_n9 z_FG9 z_R9 z_U9 z_P9; obtain ⟨z_e8, z_e7, z_P8, z_P7⟩ := z_P9; subst z_e8 z_e7; (try dsimp only); (try k_fold))))) | ((with_reducible show wpAny _ _ (call (Value.ref _) _) _ _ _); (k_here; k_dflt (refine' SpecE.use2 (by k_asm) (by k_asm) (by k_asm) (by k_asm) (by k_asm) (by k_asm) (by first | exact rfl | assumption) (by ktr_room) (by ktr_units) (begin_spec _ _ _ _ _ _ _ _ _ _ (by assumption) [] _ _ _ _ _ _ _ _ _ _ _ _ _ (by assumption) (by assumption) (by assumption) (by assumption) (by assumption)) ?_ ?_; k_whole); all_goals (first | (intro z_r9 z_h9 z_tk9 z_n9 z_F9 z_N9 z_P9; obtain ⟨z_D9, z_hv9, z_k9, z_u9, z_e9, z_e8, z_P8⟩ := z_P9; subst z_e9 z_e8; (try dsimp only); (try k_sweep); (try k_fold)) | (intro z_G9 z_C9 z_e9 z_t9 z_vs9 z_h9 z_tk9 z_n9 z_FG9 z_R9 z_U9 z_P9; obtain ⟨z_e8, z_e7, z_P8⟩ := z_P9; subst z_e8 z_e7; (try dsimp only); (try k_fold))))) | ((with_reducible show wpAny _ _ (call (Value.builtin "str.join") _) _ _ _); (k_here; (with_reducible show wpAny _ _ (call (Value.builtin "str.join") [Value.str _ _, Value.ref _]) _ _ _); k_dflt (refine' join_strs (by k_asm) (by k_mem) (by kde_strs) (by decide +kernel) (by assumption) (by assumption) ?_; k_whole); intro z_x9 z_t9 z_k9 z_hx9 _)) | walk1) | (dsimp only; walk1) | (leave1; (try dsimp only)))))
  all_goals (rename Fr _ _ _ _ => lF; rename News _ _ _ _ => lN)
  all_goals first
    | exact hexc _ _ _ _ _ _ _ _ (by assumption) (raised_sub (by assumption) (by ktd_sub)) (by assumption) ⟨rfl, .inl ⟨rfl, begin_none A hL (by assumption)⟩⟩
    | skip
  rename BeginOk _ _ _ => hB
  obtain ⟨q0, j0, m1, m2, rfl, hj, hq, hg⟩ := begin_some A hL hB
  clear hB
  refine While_at (WalkJ S asker ns (findP S asker ns)) (ns.length + 1) lF (news_tail lN) ?start ?turn ?pass
  case pass => passes_own
  case start => exact ⟨q0, _, _, j0, _, _, rfl, hj, by omega, hg, .inr ⟨m2.ne, m2, m1, hq⟩, over_four rfl rfl, rfl⟩
  case turn =>
    intro n m₁ news₁ h₁ tk₁ lF1 lN1 hJ0
    obtain ⟨p, left, hv, k, tk, u, hl, hk9, hn9, hg9, hc9, rfl, rfl⟩ := hJ0
    clear lF lN
    cases hr : left with
    | nil =>
      rw [hr] at hl hg9 hc9
      have hlen : ns.length ≤ k := by simpa using hl.symm
      have hlt : ¬ ((k : Int) < (ns.length : Nat)) := by omega
      rcases hc9 with ⟨_, hf1, hf2, t, rfl⟩ | ⟨e, _⟩
      rotate_left
      · exact absurd rfl e
      obtain ⟨tkk, hkk⟩ := h3 p hf1 hf2
      have hpl : (pth p).length ≤ 100 := by
        cases e : seenAt S p with
        | none => rw [e] at hf2; cases hf2
        | some b => exact (h2 _ _ e).1
      rw [← hg9]
      repeat' (first | ((fail_if_success (with_reducible show wpAny _ _ (exec (Stmt.While _ _ _ _) _) _ _ _)); (fail_if_success (with_reducible show wpAny _ _ (exec (Stmt.For _ _ _ _ _) _) _ _ _)); (first | ((with_reducible show wpAny _ _ (exec _ _) _ _ _); k_fold) | (k_unfold; (try dsimp only)) | (k_end; wrow_close) | (first | ((with_reducible show wpAny _ _ (subscriptTail _ _ _ _) _ _ _); (k_here; (with_reducible show wpAny _ _ (subscriptTail _ _ (Value.ref _) (Value.str _ _)) _ _ _); k_dflt (refine kda_item (knd := PySem.strKind _ _) (by k_asm) (by assumption) (by assumption) (strKind_is _ _ _ _) (by assumption) ?_))) | ((with_reducible show wpAny _ _ (call (Value.ref _) _) _ _ _); (k_here; k_dflt (refine' SpecE.use2 (by k_asm) (by k_asm) (by k_asm) (by k_asm) (by k_asm) (by k_asm) (by first | exact rfl | assumption) (by ktr_room) (by ktr_units) (step_any _ _ _ _ _ _ _ _ _ _ _ _ _ _ _ _ _ _ (by first | exact ty_val (by assumption) (by assumption) | exact ty_typ (by assumption) (by assumption)) (by assumption) (by assumption) (by assumption)) ?_ ?_; k_whole); all_goals (first | (intro z_r9 z_h9 z_tk9 z_n9 z_F9 z_N9 z_P9; obtain ⟨z_e9, z_P8⟩ := z_P9; subst z_e9; (try dsimp only [LookOk] at z_P8); first | (subst z_P8; (try dsimp only); (try k_sweep); (try k_fold)) | (obtain ⟨z_P7, z_tk8, z_P6⟩ := z_P8; subst z_P6; (try dsimp only); (try k_sweep); (try k_fold))) | (intro z_G9 z_C9 z_e9 z_t9 z_vs9 z_h9 z_tk9 z_n9 z_FG9 z_R9 z_U9 z_P9; obtain ⟨z_e8, z_e7, z_P8, z_P7⟩ := z_P9; subst z_e8 z_e7; (try dsimp only); (try k_fold))))) | ((with_reducible show wpAny _ _ (call (Value.ref _) _) _ _ _); (k_here; k_dflt (refine' SpecE.use2 (by k_asm) (by k_asm) (by k_asm) (by k_asm) (by k_asm) (by k_asm) (by first | exact rfl | assumption) (by ktr_room) (by ktr_units) (begin_spec _ _ _ _ _ _ _ _ _ _ (by assumption) [] _ _ _ _ _ _ _ _ _ _ _ _ _ (by assumption) (by assumption) (by assumption) (by assumption) (by assumption)) ?_ ?_; k_whole); all_goals (first | (intro z_r9 z_h9 z_tk9 z_n9 z_F9 z_N9 z_P9; obtain ⟨z_D9, z_hv9, z_k9, z_u9, z_e9, z_e8, z_P8⟩ := z_P9; subst z_e9 z_e8; (try dsimp only); (try k_sweep); (try k_fold)) | (intro z_G9 z_C9 z_e9 z_t9 z_vs9 z_h9 z_tk9 z_n9 z_FG9 z_R9 z_U9 z_P9; obtain ⟨z_e8, z_e7, z_P8⟩ := z_P9; subst z_e8 z_e7; (try dsimp only); (try k_fold))))) | ((with_reducible show wpAny _ _ (call (Value.builtin "str.join") _) _ _ _); (k_here; (with_reducible show wpAny _ _ (call (Value.builtin "str.join") [Value.str _ _, Value.ref _]) _ _ _); k_dflt (refine' join_strs (by k_asm) (by k_mem) (by kde_strs) (by decide +kernel) (by assumption) (by assumption) ?_; k_whole); intro z_x9 z_t9 z_k9 z_hx9 _)) | walk1) | (dsimp only; walk1) | (leave1; (try dsimp only)))))
      all_goals exact hret _ _ _ _ (by k_asm) (news_sub (by k_asm) (by ktd_sub)) ⟨rfl, p, _, hg9.symm, rfl⟩
    | cons z r =>
      rw [hr] at hl hg9 hc9
      rcases hc9 with ⟨e, _⟩ | ⟨_, hLl, hmp, hcv⟩
      · cases e
      have hx : ns[k]? = some z := by
        have := congrArg (fun l => l[0]?) hl
        simpa using this.symm
      have hlt0 : k < ns.length := (List.getElem?_eq_some_iff.mp hx).1
      have hlt : ((k : Int) < (ns.length : Nat)) := by omega
      have hr' : ns.drop (k + 1) = r := by rw [← List.drop_drop, ← hl]; rfl
      have hzp := hpre z (List.mem_of_getElem? hx)
      obtain ⟨tkq, LH⟩ := M.look hmp z (!r.isEmpty)
      have hTy : TyH k ns.length (!r.isEmpty) := by
        have hl' := congrArg List.length hr'
        rw [List.length_drop] at hl'
        constructor
        · intro h
          cases r with
          | nil => rfl
          | cons a b => simp at hl'; omega
        · intro h
          cases r with
          | nil => simp at hl'; omega
          | cons a b => rfl
      unfold goP at hg9
      cases hne9 : nextP S p z (!r.isEmpty) with
      | none =>
        rw [hne9] at hg9 LH
        simp only [Option.map_none, Option.getD_none] at LH hg9
        repeat' (first | ((fail_if_success (with_reducible show wpAny _ _ (exec (Stmt.While _ _ _ _) _) _ _ _)); (fail_if_success (with_reducible show wpAny _ _ (exec (Stmt.For _ _ _ _ _) _) _ _ _)); (first | ((with_reducible show wpAny _ _ (exec _ _) _ _ _); k_fold) | (k_unfold; (try dsimp only)) | (k_end; wrow_close) | (first | ((with_reducible show wpAny _ _ (subscriptTail _ _ _ _) _ _ _); (k_here; (with_reducible show wpAny _ _ (subscriptTail _ _ (Value.ref _) (Value.str _ _)) _ _ _); k_dflt (refine kda_item (knd := PySem.strKind _ _) (by k_asm) (by assumption) (by assumption) (strKind_is _ _ _ _) (by assumption) ?_))) | ((with_reducible show wpAny _ _ (call (Value.ref _) _) _ _ _); (k_here; k_dflt (refine' SpecE.use2 (by k_asm) (by k_asm) (by k_asm) (by k_asm) (by k_asm) (by k_asm) (by first | exact rfl | assumption) (by ktr_room) (by ktr_units) (step_any _ _ _ _ _ _ _ _ _ _ _ _ _ _ _ _ _ _ (by first | exact ty_val (by assumption) (by assumption) | exact ty_typ (by assumption) (by assumption)) (by assumption) (by assumption) (by assumption)) ?_ ?_; k_whole); all_goals (first | (intro z_r9 z_h9 z_tk9 z_n9 z_F9 z_N9 z_P9; obtain ⟨z_e9, z_P8⟩ := z_P9; subst z_e9; (try dsimp only [LookOk] at z_P8); first | (subst z_P8; (try dsimp only); (try k_sweep); (try k_fold)) | (obtain ⟨z_P7, z_tk8, z_P6⟩ := z_P8; subst z_P6; (try dsimp only); (try k_sweep); (try k_fold))) | (intro z_G9 z_C9 z_e9 z_t9 z_vs9 z_h9 z_tk9 z_n9 z_FG9 z_R9 z_U9 z_P9; obtain ⟨z_e8, z_e7, z_P8, z_P7⟩ := z_P9; subst z_e8 z_e7; (try dsimp only); (try k_fold))))) | ((with_reducible show wpAny _ _ (call (Value.ref _) _) _ _ _); (k_here; k_dflt (refine' SpecE.use2 (by k_asm) (by k_asm) (by k_asm) (by k_asm) (by k_asm) (by k_asm) (by first | exact rfl | assumption) (by ktr_room) (by ktr_units) (begin_spec _ _ _ _ _ _ _ _ _ _ (by assumption) [] _ _ _ _ _ _ _ _ _ _ _ _ _ (by assumption) (by assumption) (by assumption) (by assumption) (by assumption)) ?_ ?_; k_whole); all_goals (first | (intro z_r9 z_h9 z_tk9 z_n9 z_F9 z_N9 z_P9; obtain ⟨z_D9, z_hv9, z_k9, z_u9, z_e9, z_e8, z_P8⟩ := z_P9; subst z_e9 z_e8; (try dsimp only); (try k_sweep); (try k_fold)) | (intro z_G9 z_C9 z_e9 z_t9 z_vs9 z_h9 z_tk9 z_n9 z_FG9 z_R9 z_U9 z_P9; obtain ⟨z_e8, z_e7, z_P8⟩ := z_P9; subst z_e8 z_e7; (try dsimp only); (try k_fold))))) | ((with_reducible show wpAny _ _ (call (Value.builtin "str.join") _) _ _ _); (k_here; (with_reducible show wpAny _ _ (call (Value.builtin "str.join") [Value.str _ _, Value.ref _]) _ _ _); k_dflt (refine' join_strs (by k_asm) (by k_mem) (by kde_strs) (by decide +kernel) (by assumption) (by assumption) ?_; k_whole); intro z_x9 z_t9 z_k9 z_hx9 _)) | walk1) | (dsimp only; walk1) | (leave1; (try dsimp only)))))
        all_goals first
          | exact hexc _ _ _ _ _ _ _ _ (by assumption) (raised_sub (by assumption) (by ktd_sub)) (by assumption) ⟨rfl, .inl ⟨rfl, hg9.symm⟩⟩
          | exact (nomatch (by assumption : (none : Option (Str × Tok)).isSome = true))
      | some b =>
        rw [hne9] at hg9 LH
        simp only [Option.map_some, Option.getD_some] at LH hg9
        repeat' (first | ((fail_if_success (with_reducible show wpAny _ _ (exec (Stmt.While _ _ _ _) _) _ _ _)); (fail_if_success (with_reducible show wpAny _ _ (exec (Stmt.For _ _ _ _ _) _) _ _ _)); (first | ((with_reducible show wpAny _ _ (exec _ _) _ _ _); k_fold) | (k_unfold; (try dsimp only)) | (k_end; wrow_close) | (first | ((with_reducible show wpAny _ _ (subscriptTail _ _ _ _) _ _ _); (k_here; (with_reducible show wpAny _ _ (subscriptTail _ _ (Value.ref _) (Value.str _ _)) _ _ _); k_dflt (refine kda_item (knd := PySem.strKind _ _) (by k_asm) (by assumption) (by assumption) (strKind_is _ _ _ _) (by assumption) ?_))) | ((with_reducible show wpAny _ _ (call (Value.ref _) _) _ _ _); (k_here; k_dflt (refine' SpecE.use2 (by k_asm) (by k_asm) (by k_asm) (by k_asm) (by k_asm) (by k_asm) (by first | exact rfl | assumption) (by ktr_room) (by ktr_units) (step_any _ _ _ _ _ _ _ _ _ _ _ _ _ _ _ _ _ _ (by first | exact ty_val (by assumption) (by assumption) | exact ty_typ (by assumption) (by assumption)) (by assumption) (by assumption) (by assumption)) ?_ ?_; k_whole); all_goals (first | (intro z_r9 z_h9 z_tk9 z_n9 z_F9 z_N9 z_P9; obtain ⟨z_e9, z_P8⟩ := z_P9; subst z_e9; (try dsimp only [LookOk] at z_P8); first | (subst z_P8; (try dsimp only); (try k_sweep); (try k_fold)) | (obtain ⟨z_P7, z_tk8, z_P6⟩ := z_P8; subst z_P6; (try dsimp only); (try k_sweep); (try k_fold))) | (intro z_G9 z_C9 z_e9 z_t9 z_vs9 z_h9 z_tk9 z_n9 z_FG9 z_R9 z_U9 z_P9; obtain ⟨z_e8, z_e7, z_P8, z_P7⟩ := z_P9; subst z_e8 z_e7; (try dsimp only); (try k_fold))))) | ((with_reducible show wpAny _ _ (call (Value.ref _) _) _ _ _); (k_here; k_dflt (refine' SpecE.use2 (by k_asm) (by k_asm) (by k_asm) (by k_asm) (by k_asm) (by k_asm) (by first | exact rfl | assumption) (by ktr_room) (by ktr_units) (begin_spec _ _ _ _ _ _ _ _ _ _ (by assumption) [] _ _ _ _ _ _ _ _ _ _ _ _ _ (by assumption) (by assumption) (by assumption) (by assumption) (by assumption)) ?_ ?_; k_whole); all_goals (first | (intro z_r9 z_h9 z_tk9 z_n9 z_F9 z_N9 z_P9; obtain ⟨z_D9, z_hv9, z_k9, z_u9, z_e9, z_e8, z_P8⟩ := z_P9; subst z_e9 z_e8; (try dsimp only); (try k_sweep); (try k_fold)) | (intro z_G9 z_C9 z_e9 z_t9 z_vs9 z_h9 z_tk9 z_n9 z_FG9 z_R9 z_U9 z_P9; obtain ⟨z_e8, z_e7, z_P8⟩ := z_P9; subst z_e8 z_e7; (try dsimp only); (try k_fold))))) | ((with_reducible show wpAny _ _ (call (Value.builtin "str.join") _) _ _ _); (k_here; (with_reducible show wpAny _ _ (call (Value.builtin "str.join") [Value.str _ _, Value.ref _]) _ _ _); k_dflt (refine' join_strs (by k_asm) (by k_mem) (by kde_strs) (by decide +kernel) (by assumption) (by assumption) ?_; k_whole); intro z_x9 z_t9 z_k9 z_hx9 _)) | walk1) | (dsimp only; walk1) | (leave1; (try dsimp only)))))
        all_goals first
          | exact hexc _ _ _ _ _ _ _ _ (by assumption) (raised_sub (by assumption) (by ktd_sub)) (by assumption) ⟨rfl, .inr ⟨rfl, vis_of hg9 (by assumption)⟩⟩
          | (unfold WhileStep2; exact ⟨_, _, _, _, n - 1, rfl, by k_asm, news_sub (by k_asm) (by ktd_sub), by omega, p ++ [z], r, _, k + 1, _, _, hr'.symm, by omega, by omega, ok_of hg9 (by assumption), next_case hmp hne9 hLl, over_turn4 (by omega), rfl⟩)
end

/- F6 -/
section
structure ModsR (w : World) (rest : List (Addr × Obj)) (mo dx : Addr) (S : Seen) (ka pa ta : Addr) : Prop where
  hne : ∀ p ∈ rest, p.1 ≠ dx
  hmo : (mo, instObj 275 dx) ∈ rest
  all : ∃ kvK kvB kvP, StrDict w rest ka kvK ∧ StrDict w rest ta kvB ∧ StrDict w rest pa kvP ∧
    (∀ p, isMod S p → (∃ tk, valueAt kvK (pth p) = some (.str (Str.ofString "mod") tk)) ∧ (pth p).length ≤ 100 ∧ ∃ tb kvT kvV, valueAt kvB (pth p) = some (.ref tb) ∧ TableAt w rest tb kvT kvV ∧
      ∀ n ty, ∃ tk, valueAt (if ty then kvT else kvV) n = (nextP S p n ty).map fun _ => Value.str (pth (p ++ [n])) tk) ∧
    (∀ p b, seenAt S p = some b → (pth p).length ≤ 100 ∧ valueAt kvP (pth p) = some (.bool b)) ∧
    (∀ p, isFn p = true → (seenAt S p).isSome = true → ∃ tk, valueAt kvK (pth p) = some (.str (Str.ofString "fn") tk))

inductive ModsU (w : World) (news : List (Addr × Obj)) (mo dx : Addr) (S : Seen) : Prop
  | mk : ∀ rest k1 k2 k3 k4 k5 k6 ka pa ta ga ia ke, ((∀ p ∈ rest, p ∈ news)) → ((dx, dictOf (modsDict w k1 k2 k3 k4 k5 k6 ka pa ta ga ia ke) 6) ∈ news) → (ModsR w rest mo dx S ka pa ta) → ModsU w news mo dx S

theorem StrDict.mono {w : World} {l l' : List (Addr × Obj)} {d : Addr} {kvs : List (Str × Value)} (h : ∀ p ∈ l, p ∈ l') (D : StrDict w l d kvs) : StrDict w l' d kvs := by
  obtain ⟨o, a, b, c⟩ := D
  exact ⟨o, h _ a, b, c⟩
theorem TableAt.mono {w : World} {l l' : List (Addr × Obj)} {tb : Addr} {kvT kvV : List (Str × Value)} (h : ∀ p ∈ l, p ∈ l') (D : TableAt w l tb kvT kvV) : TableAt w l' tb kvT kvV := by
  obtain ⟨td, ty, va, us, k1, k2, k3, n, a, b, c, d, e⟩ := D
  exact ⟨td, ty, va, us, k1, k2, k3, n, h _ a, h _ b, c.mono h, d.mono h, e.mono h⟩

theorem ModsR.mono {w : World} {rest rs : List (Addr × Obj)} {mo dx : Addr} {S : Seen} {ka pa ta : Addr} (R : ModsR w rest mo dx S ka pa ta) (hr : ∀ p ∈ rest, p ∈ rs) (hn : ∀ p ∈ rs, p.1 ≠ dx) : ModsR w rs mo dx S ka pa ta := by
  obtain ⟨hne, hmo, kvK, kvB, kvP, hK, hB, hP, h1, h2, h3⟩ := R
  refine ⟨hn, hr _ hmo, kvK, kvB, kvP, hK.mono hr, hB.mono hr, hP.mono hr, ?_, h2, h3⟩
  intro p hp
  obtain ⟨a, b, tb, kvT, kvV, c, d, e⟩ := h1 p hp
  exact ⟨a, b, tb, kvT, kvV, c, d.mono hr, e⟩
theorem ModsU.mods {w : World} {news : List (Addr × Obj)} {mo dx : Addr} {S : Seen} (M : ModsU w news mo dx S) : Mods w news mo dx S := by
  obtain ⟨rest, k1, k2, k3, k4, k5, k6, ka, pa, ta, ga, ia, ke, hr, hdx, hne, hmo, kvK, kvB, kvP, hK, hB, hP, h1, h2, h3⟩ := M
  refine ⟨ka, pa, ta, kvK, kvB, kvP, ⟨k1, k2, k3, k4, k5, k6, ga, ia, ke, 6, hr _ hmo, hdx⟩, hK.mono hr, hB.mono hr, hP.mono hr, ?_, h2, h3⟩
  intro p hp
  obtain ⟨a, b, tb, kvT, kvV, c, d, e⟩ := h1 p hp
  exact ⟨a, b, tb, kvT, kvV, c, d.mono hr, e⟩
theorem ModsR.up {w : World} {rs : List (Addr × Obj)} {mo dx : Addr} {S : Seen} {ka pa ta ga ia ke d : Addr} {o : Obj} {k1 k2 k3 k4 k5 k6 : Tok} (R : ModsR w rs mo dx S ka pa ta) :
    ModsU w ((d, o) :: (dx, dictOf (modsDict w k1 k2 k3 k4 k5 k6 ka pa ta ga ia ke) 6) :: rs) mo dx S :=
  ⟨rs, k1, k2, k3, k4, k5, k6, ka, pa, ta, ga, ia, ke, fun _ h => .tail _ (.tail _ h), .tail _ (.head _), R⟩
theorem ModsR.up2 {w : World} {rs : List (Addr × Obj)} {mo dx : Addr} {S : Seen} {ka pa ta ga ia ke d d2 : Addr} {o o2 : Obj} {k1 k2 k3 k4 k5 k6 : Tok} (R : ModsR w rs mo dx S ka pa ta) :
    ModsU w ((d2, o2) :: (d, o) :: (dx, dictOf (modsDict w k1 k2 k3 k4 k5 k6 ka pa ta ga ia ke) 6) :: rs) mo dx S :=
  ⟨rs, k1, k2, k3, k4, k5, k6, ka, pa, ta, ga, ia, ke, fun _ h => .tail _ (.tail _ (.tail _ h)), .tail _ (.tail _ (.head _)), R⟩
theorem StrTup.mono {l l' : List (Addr × Obj)} {a : Addr} {ns : List Str} (D : StrTup l a ns) (h : ∀ p ∈ l, p ∈ l') : StrTup l' a ns := by
  obtain ⟨vs, m, s⟩ := D
  exact ⟨vs, h _ m, s⟩



theorem sub3 {l : List (Addr × Obj)} (a b c : Addr × Obj) (p : Addr × Obj) (h : p ∈ l) : p ∈ a :: b :: c :: l := .tail _ (.tail _ (.tail _ h))
theorem upN {h₀ h : Heap} {L : Addr} {w : World} {rs : List (Addr × Obj)} {mo dx : Addr} {S : Seen} {ka pa ta ga ia ke d d2 : Addr} {o o2 : Obj} {k1 k2 k3 k4 k5 k6 : Tok} (_N : News h₀ L h ((d2, o2) :: (d, o) :: (dx, dictOf (modsDict w k1 k2 k3 k4 k5 k6 ka pa ta ga ia ke) 6) :: rs)) (R : ModsR w rs mo dx S ka pa ta) :
    ModsU w ((d2, o2) :: (d, o) :: (dx, dictOf (modsDict w k1 k2 k3 k4 k5 k6 ka pa ta ga ia ke) 6) :: rs) mo dx S := R.up2
/-- what a find leaves of Modules: its own dict changed, all else kept -/
noncomputable def ModsK (w : World) (news news' : List (Addr × Obj)) (mo dx : Addr) (S : Seen) : Prop := ∃ ob, (dx, ob) ∈ news' ∧ ∀ nw : List (Addr × Obj), (∀ p ∈ news, p.1 ≠ dx → p ∈ nw) → (dx, ob) ∈ nw → ModsU w nw mo dx S
theorem upK {h₀ h : Heap} {L : Addr} {w : World} {news rs rs1 : List (Addr × Obj)} {mo dx : Addr} {S : Seen} {ka pa ta ga ia ke d d2 : Addr} {o o2 : Obj} {k1 k2 k3 k4 k5 k6 : Tok} (_N : News h₀ L h ((d2, o2) :: (d, o) :: (dx, dictOf (modsDict w k1 k2 k3 k4 k5 k6 ka pa ta ga ia ke) 6) :: rs)) (R : ModsR w rs1 mo dx S ka pa ta) (hrs : ∀ p ∈ rs1, p ∈ news ∧ p.1 ≠ dx) :
    ModsK w news ((d2, o2) :: (d, o) :: (dx, dictOf (modsDict w k1 k2 k3 k4 k5 k6 ka pa ta ga ia ke) 6) :: rs) mo dx S :=
  ⟨_, .tail _ (.tail _ (.head _)), fun _ h1 h2 => ⟨rs1, k1, k2, k3, k4, k5, k6, ka, pa, ta, ga, ia, ke, fun p hp => h1 p (hrs p hp).1 (hrs p hp).2, h2, R⟩⟩
theorem find_spec (w : World) (mo dx na : Addr) (S : Seen) (asker : Path) (ns : List Str) (t1 t2 : Tok) (news news1 : List (Addr × Obj))
    (M : ModsU w news1 mo dx S) (hs1 : ∀ p ∈ news1, p ∈ news) (A : AskOk S asker) (hns : StrTup news na ns) (hL : LeftOk ns) (hz : ns.length ≤ 100) (hw : (ns.map (·.length)).sum ≤ 10000) (hpre : ∀ n ∈ ns, preludeL.any (· == n) = false) :
    SpecE w 208 12 160 [.ref mo, .str (pth asker) t1, .ref na, .str (Str.ofString "value") t2] news
      (fun r news' => ModsK w news1 news' mo dx S ∧ (∀ p ∈ news, p.1 ≠ dx → p ∈ news') ∧ ∃ p tk, findP S asker ns = .ok p ∧ r = .str (pth p) tk)
      (fun C news' => ModsK w news1 news' mo dx S ∧ (∀ p ∈ news, p.1 ≠ dx → p ∈ news') ∧ ((C = 52 ∧ findP S asker ns = .names) ∨ (C = 64 ∧ findP S asker ns = .vis))) := by
  obtain ⟨rest, k1, k2, k3, k4, k5, k6, ka, pa, ta, ga, ia, ke, hr1, hdx1, R⟩ := M
  have hr : ∀ p ∈ rest, p ∈ news := fun p hp => hs1 p (hr1 p hp)
  have hdx := hs1 _ hdx1
  have hrsn : ∀ p ∈ rest, p ∈ news1 ∧ p.1 ≠ dx := fun p hp => ⟨hr1 p hp, R.hne p hp⟩
  have R1 := R
  clear hdx1 hr1
  have hns0 := hns
  obtain ⟨vs, hna, hvs⟩ := hns0
  unfold SpecE
  refine fill w ?_
  k_fill
  intro _ _
  intro mean mg mb dp un gd cn cs a ccd cl outer A₀ base h₀ L m s Q E H F N hk hd hu hret hexc
  obtain ⟨B, X, T, BO⟩ := H
  have hsub : ∀ p ∈ ((dx, dictOf (modsDict w k1 k2 k3 k4 k5 k6 ka pa ta ga ia ke) 6) :: news.filter (fun p => decide (p.1 ≠ dx))), p ∈ news := by
    intro p hp
    rcases List.mem_cons.mp hp with rfl | hp
    · exact hdx
    · exact (List.mem_filter.mp hp).1
  have hall : ∀ p ∈ news.filter (fun p => decide (p.1 ≠ dx)), p.1 ≠ dx := fun p hp => by simpa using (List.mem_filter.mp hp).2
  have hnd : na ≠ dx := by
    intro e
    have e1 := (N _ hna).1
    have e2 := (N _ hdx).1
    dsimp only at e1 e2
    rw [e, e2] at e1
    have e3 : (Value.type "dict") = Value.type "tuple" := congrArg Obj.cls (Option.some.inj e1)
    injection e3 with e4
    exact absurd e4 (by decide)
  have N2 := news_sub N hsub
  clear N hsub
  have R2 := R.mono (fun p hp => List.mem_filter.mpr ⟨hr p hp, by simpa using R.hne p hp⟩) hall
  have hmo' := R2.hmo
  have hback : ∀ p ∈ news, p.1 ≠ dx → p ∈ news.filter (fun p => decide (p.1 ≠ dx)) := fun p hp hn => List.mem_filter.mpr ⟨hp, by simpa using hn⟩
  have hna' := hback _ hna hnd
  have hns' : StrTup (news.filter (fun p => decide (p.1 ≠ dx))) na ns := ⟨vs, hna', hvs⟩
  clear hns hna hr R
  generalize hG : news.filter (fun p => decide (p.1 ≠ dx)) = rs at *
  have hU := UpdF.head (d := dx) (o := dictOf (modsDict w k1 k2 k3 k4 k5 k6 ka pa ta ga ia ke) 6) hall
  have hdx2 : (dx, dictOf (modsDict w k1 k2 k3 k4 k5 k6 ka pa ta ga ia ke) 6) ∈ (dx, dictOf (modsDict w k1 k2 k3 k4 k5 k6 ka pa ta ga ia ke) 6) :: rs := .head _
  have hmo2 : (mo, instObj 275 dx) ∈ (dx, dictOf (modsDict w k1 k2 k3 k4 k5 k6 ka pa ta ga ia ke) 6) :: rs := .tail _ hmo'
  k_dflt cell_enter
  repeat' (first | ((fail_if_success (with_reducible show wpAny _ _ (call (Value.ref 215) _) _ _ _)); (first | (k_unfold; (try dsimp only)) | (k_end; wrow_close) | (first | ((with_reducible show wpAny _ _ (call (Value.type "tuple") _) _ _ _); (k_here; (with_reducible show wpAny _ _ (call (Value.type _) [Value.ref _]) _ _ _); k_dflt (refine' call_tuple_tup (by exact News.isTup (by k_asm) (by k_mem)) ?_))) | walk1) | (dsimp only; walk1) | (leave1; try dsimp only))))
  rename News _ _ _ _ => lN
  have M9 := upN (k1 := k1) (k2 := k2) (k3 := k3) (k4 := k4) (k5 := k5) (k6 := k6) (ka := ka) (ta := ta) (pa := pa) (dx := dx) (rs := rs) (ga := ga) (ia := ia) lN R2
  have M10 := M9.mods
  have MK9 := upK (k1 := k1) (k2 := k2) (k3 := k3) (k4 := k4) (k5 := k5) (k6 := k6) (ka := ka) (ta := ta) (pa := pa) (dx := dx) (rs := rs) (ga := ga) (ia := ia) lN R1 hrsn
  have T10 := fun a b c => StrTup.mono hns' (sub3 a b c)
  have hkeep := fun (a b c : Addr × Obj) (p : Addr × Obj) (hp : p ∈ news) (hn : p.1 ≠ dx) => sub3 a b c p (hback p hp hn)
  k_dflt (refine' SpecE.use (walk_spec w mo dx na _ S asker ns _ _ _ _ _ M10 A (T10 _ _ _) hL hz hw hpre) ?k1 ?k2 ?k3 ?k4 ?k5 ?k6 ?k7 ?k8 ?k9 ?_ ?_; (case k1 => k_asm); (case k2 => k_asm); (case k3 => k_asm); (case k4 => k_asm); (case k5 => k_asm); (case k6 => k_asm); (case k7 => first | exact rfl | assumption); (case k8 => ktr_room); (case k9 => ktr_units); k_whole)
  · intro r9 h9 tk9 n9 F9 N9 P9
    obtain ⟨e9, p9, t9, P8, e8⟩ := P9
    subst e9 e8
    repeat' (first | ((fail_if_success (with_reducible show wpAny _ _ (exec (Stmt.While _ _ _ _) _) _ _ _)); (fail_if_success (with_reducible show wpAny _ _ (exec (Stmt.For _ _ _ _ _) _) _ _ _)); (first | ((with_reducible show wpAny _ _ (exec _ _) _ _ _); k_fold) | (k_unfold; (try dsimp only)) | (k_end; wrow_close) | (first | ((with_reducible show wpAny _ _ (call (Value.type "tuple") _) _ _ _); (k_here; (with_reducible show wpAny _ _ (call (Value.type _) [Value.ref _]) _ _ _); k_dflt (refine' call_tuple_tup (by exact News.isTup (by k_asm) (by k_mem)) ?_))) | walk1) | (dsimp only; walk1) | (leave1; (try dsimp only)))))
    all_goals exact hret _ _ _ _ (by k_asm) (by k_asm) ⟨MK9, hkeep _ _ _, p9, _, P8, rfl⟩
  · intro G9 C9 e9 t9 vs9 h9 tk9 n9 FG9 R9 U9 P9
    obtain ⟨e8, P8⟩ := P9
    subst e8
    try dsimp only
    try k_fold
    repeat' (first | ((fail_if_success (with_reducible show wpAny _ _ (exec (Stmt.While _ _ _ _) _) _ _ _)); (fail_if_success (with_reducible show wpAny _ _ (exec (Stmt.For _ _ _ _ _) _) _ _ _)); (first | ((with_reducible show wpAny _ _ (exec _ _) _ _ _); k_fold) | (k_unfold; (try dsimp only)) | (k_end; wrow_close) | (first | ((with_reducible show wpAny _ _ (call (Value.type "tuple") _) _ _ _); (k_here; (with_reducible show wpAny _ _ (call (Value.type _) [Value.ref _]) _ _ _); k_dflt (refine' call_tuple_tup (by exact News.isTup (by k_asm) (by k_mem)) ?_))) | walk1) | (dsimp only; walk1) | (leave1; (try dsimp only)))))
    all_goals exact hexc _ _ _ _ _ _ _ _ (by assumption) (raised_sub (by assumption) (by ktd_sub)) (by assumption) ⟨MK9, hkeep _ _ _, P8⟩
end

/- F7 -/
section
noncomputable def resStr : Res → Str
  | .ok p => pth p
  | .names => Str.ofString "names"
  | .vis => Str.ofString "visibility"

theorem code_turn0 {prog : Program} {w : World} {A₀ A : Around} {s : Shared} {base h₀ : Heap} {L : Addr} {m : Str → Option Value} {news : List (Addr × Obj)} {K : Frag} {p : Program} {loose : List Str} {mean : ExcName → Option Value} {mg mb : Str → Option Value}
    {R : Result → Shared → Prop} {name qual : Str} {params : Arguments} {body : List Stmt} {scope : Scope} {dV kV doc pm cdv ct oc : Value} {an od : Option Addr} {osl : Array (Option Value)} {f : Addr} {args : Args} {binds : List (Str × Value)} {env : Env}
    (B : Below A₀ base [] h₀) (F : Fr h₀ L s.heap m) (X₀ : K.In h₀) (N : News h₀ L s.heap news) (T : Top p loose mean mg mb h₀) (hA : A.frames = some [env]) (hf : env.frame = some L) (hke : env.scope.kind = .function)
    (ho : K.lookup f = some ⟨oc, od, .func (fnOf name qual params body scope dV kV doc pm an cdv ct), osl⟩) (hcd : codeIn K cdv qual = true) (hroom : A.depth < recursionLimit)
    (hbind : BindsTo s (fnOf name qual params body scope dV kV doc pm an cdv ct) args binds) (hloc : ∀ y ∈ binds, scope.names.lookup y.1 = some .local)
    (h : ∀ g L' h₁, Fr h₀ L g m → Fr g L' h₁ (fun y => binds.reverse.lookup y) → News g L' h₁ news → Below A base [env] g → K.In g → Top p loose mean mg mb g → KtsDicts ([env].filterMap (·.frame)) g →
      wpAny (model prog w) (A.deeper (envOf qual scope L' f cdv)) (execs body (envOf qual scope L' f cdv))
        (fun fl s' => LeaveS0 ([env].filterMap (·.frame)) h₀ L m g R (match fl with | .ret v => v | _ => .none) s')
        (fun e s' => wpAny (model prog w) (A.deeper (envOf qual scope L' f cdv)) (leaving (envOf qual scope L' f cdv) e) (fun _ s'' => R (.error e) s'') (fun e' s'' => R (.error e') s'') s')
        { s with heap := h₁, toks := s.toks + binds.length })
    (hco : scope.isCoroutine = false) (hgen : scope.isGenerator = false) (hk : scope.kind = .function)
    (hcell : ∀ x ∈ scope.names, x.2 ≠ .cell) : codeAny (model prog w) A (.call (.ref f) args) R s := by
  obtain ⟨FG, BG, st, _⟩ := groundX (R := R) B F N hA hf hke
  have hfs : [env].filterMap (·.frame) = [L] := by simp [hf]
  have FG0 := FG
  obtain ⟨⟨oL, es, ep, hLg, hLd, hLk, hLf⟩, _, _⟩ := FG0
  refine codeAny_call_def (fd := fnOf name qual params body scope dV kV doc pm an cdv ct) (body := body) (binds := binds) hroom (X₀.keeps F.keep _ _ ho) rfl (T.nolimit.keeps F.keep) (codeRec_of (X₀.keeps F.keep) hcd) rfl hbind hcell hloc (fun h₁ hns hk₁ => ?_) hco hgen hk
  refine wpAny_mono (h _ s.heap.objs.size h₁ FG ⟨hns, fun b o e => hk₁ b o (of_hideAll _ e), Nat.le_of_eq (hideAll_size _ _)⟩
    (fun q hq => ⟨hk₁ _ _ (N q hq).1, Nat.ne_of_lt (Heap.lt_size (N q hq).1), hideAll_none _ (List.mem_map_of_mem hq)⟩) BG (X₀.keeps st) (T.keeps st) ?_) (fun fl s' hl => ?_) fun _ _ y => y
  · rw [hfs]
    intro b hb
    obtain rfl := List.mem_singleton.mp hb
    exact ⟨oL, es, ep, hLg, hLd⟩
  obtain ⟨g', L', m', news', T', F', N', k⟩ := hl
  rw [hfs] at T'
  have nL₀ : h₀.get? L = none := kts_self F
  obtain ⟨sl, hs⟩ := T'.up hLg
  have fresh : ∀ q ∈ news', q.1 ≠ L ∧ h₀.get? q.1 = none := by
    intro q hq
    have hn := (N' q hq).2.2
    constructor
    · intro e
      rw [e, hs] at hn
      cases hn
    · cases e : h₀.get? q.1 with
      | none => rfl
      | some o =>
        obtain ⟨sl', hs'⟩ := T'.up (st _ _ e)
        rw [hs'] at hn
        cases hn
  have keep : ∀ b o, h₀.get? b = some o → s'.heap.get? b = some o := by
    intro b o e
    refine F'.keep b o (T'.other b o (st b o e) ?_)
    intro q
    rw [List.mem_singleton.mp q, nL₀] at e
    cases e
  exact k ⟨⟨_, es, ep, F'.keep _ _ hs, hLd, hLk, hLf⟩, keep, F.above⟩ fun q hq => ⟨(N' q hq).1, fresh q hq⟩

/-- a contract for calls from a frame with no frame of ours beneath it -/
noncomputable def SpecT (w : World) (f : Addr) (d u : Nat) (vs : List Value) (news : List (Addr × Obj)) (post : Value → List (Addr × Obj) → Prop) : Prop :=
  ∀ (mean : ExcName → Option Value) (mg mb : Str → Option Value) (dp un : Nat) (gd : Option (List Code)) (cn : Str) (cs : Scope) (a : Addr) (ccd : Value) (cl : List (Str × Addr)) (A₀ : Around) (base h₀ : Heap) (L : Addr) (m : Str → Option Value) (s : Shared)
    (Q E : Value → Shared → Prop),
    Here w mean mg mb A₀ base h₀ [] → Fr h₀ L s.heap m → News h₀ L s.heap news → cs.kind = .function → dp + d < recursionLimit → un + u < cLine →
    (∀ r h' tk' news', Fr h₀ L h' m → News h₀ L h' news' → post r news' → Q r { s with heap := h', toks := tk' }) →
    codeAny (model Challenge.rw_up0052_01.row.prog w) (ktrTop dp un gd cn cs L a ccd cl []) (.call (.ref f) ⟨vs, []⟩) (Back Q E) s
theorem SpecT.use {w : World} {f : Addr} {d u : Nat} {vs : List Value} {news : List (Addr × Obj)} {post : Value → List (Addr × Obj) → Prop} (S : SpecT w f d u vs news post)
    {mean : ExcName → Option Value} {mg mb : Str → Option Value} {dp un : Nat} {gd : Option (List Code)} {cn : Str} {cs : Scope} {a : Addr} {ccd : Value} {cl : List (Str × Addr)} {A₀ : Around} {base h₀ : Heap} {L : Addr} {m : Str → Option Value} {s : Shared} {h9 : Heap} {t9 : Nat} {Q E : Value → Shared → Prop}
    (B : Below A₀ base [] h₀) (F : Fr h₀ L h9 m) (X : (Mine.hd.heap_39 w.params).In h₀) (N : News h₀ L h9 news) (T : Top Mine.hd.view_39 (looseW Mine.hd.view_39 [Str.ofString "LendError", Str.ofString "PLAIN_NAMES"]) mean mg mb h₀) (BO : BaseOk w mean mg mb base)
    (hk : cs.kind = .function) (hd : dp + d < recursionLimit) (hu : un + u < cLine)
    (ret : ∀ r h' tk' news', Fr h₀ L h' m → News h₀ L h' news' → post r news' → Q r ⟨h', s.gens, s.drawn, tk', s.os⟩) :
    wpAny (model Challenge.rw_up0052_01.row.prog w) (ktrTop dp un gd cn cs L a ccd cl []) (call (.ref f) vs) Q E ⟨h9, s.gens, s.drawn, t9, s.os⟩ :=
  wpAny_call (S mean mg mb dp un gd cn cs a ccd cl A₀ base h₀ L m ⟨h9, s.gens, s.drawn, t9, s.os⟩ Q E ⟨B, X, T, BO⟩ F N hk hd hu ret)


local macro_rules | `(tactic| cell_enter) => `(tactic| (refine' code_turn0 ?k1 ?k2 ?k3 ?k4 ?k5 ?kA ?kF ?kK ?k6 ?k7 ?k8 ?k9 ?kB ?_ ?c2 ?c3 ?c4 ?c5; (case kA => exact rfl); (case kF => exact rfl); (case kK => assumption); (case k1 => k_asm); (case k2 => k_asm); (case k3 => k_asm); (case k4 => k_asm); (case k5 => k_asm); (case k6 => k_is); (case k7 => k_is); (case k8 => ktr_room); (case k9 => first | exact BindsTo.of_eq rfl | exact binds_K (by k_in) rfl (by k_is) rfl rfl rfl); (case c5 => decide); (case kB => exact locs rfl); (case c2 => exact rfl); (case c3 => exact rfl); (case c4 => exact rfl); k_whole; intro g' L' h' FG' F' N' B' X' T' D'; (try dsimp only); (try k_lift B'); (try k_fold)))
local macro_rules | `(tactic| kts_caught) => `(tactic| ((with_reducible show wpAny _ _ (noteFrame _ _) (fun _ s₂ => wpAny _ _ (setFlight _ none) (fun _ s₃ => wpAny _ _ (handleBy _ _ (ExceptHandler.ExceptHandler (some (Expr.Name _ _)) none _ _ :: _)) _ _ s₃) _ s₂) _ _); k_dflt (refine' caught_SO0 (by assumption) (by assumption) (by assumption) (by assumption) (by exact BaseOk.XB (by assumption)) (by exact BaseOk.TB (by assumption)) (by assumption) (by first | assumption | exact KtsTurn.refl) (by k_is) (by kts_isx) ?_; k_whole); intro h' g' n₂ T' F' N₂ G' N' K' X' P' D'; (try k_lift K'); (try k_sweep)))
local macro_rules | `(tactic| walk_at "handleBy ref") => `(tactic| (k_here; (with_reducible rename KtsDicts _ _ => kdX); first
  | (k_dflt (refine' pass_S (by assumption) (by assumption) (by assumption) (by assumption) (by exact BaseOk.XB (by assumption)) (by exact BaseOk.TB (by assumption)) (by assumption) (by kts_test) ?_; k_whole); intro h' R' U'; (try dsimp only at R' U' ⊢))
  | (k_dflt (refine' hit_S0 (by assumption) (by assumption) (by assumption) (by assumption) (by exact BaseOk.XB (by assumption)) (by exact BaseOk.TB (by assumption)) (by assumption) (by first | assumption | exact KtsTurn.refl) (by kts_test) ?_; k_whole); intro h' g' n₂ T' F' N₂ G' N' K' X' P' D'; (try k_lift K'); (try k_sweep))))

theorem found_spec (w : World) (mo dx na aa : Addr) (S : Seen) (asker : Path) (ns : List Str) (news news1 : List (Addr × Obj))
    (M : ModsU w news1 mo dx S) (hs1 : ∀ p ∈ news1, p ∈ news) (A : AskOk S asker) (hns : StrTup news na ns) (hL : LeftOk ns) (hz : ns.length ≤ 100) (hw : (ns.map (·.length)).sum ≤ 10000) (hpre : ∀ n ∈ ns, preludeL.any (· == n) = false)
    (haa : StrTup news aa asker) (hja : Txt.join (Str.ofString "::") asker = pth asker) (hza : asker.length ≤ 100) (hwa : (asker.map (·.length)).sum ≤ 10000) :
    SpecT w 328 14 200 [.ref mo, .ref aa, .ref na] news
      (fun r news' => ModsK w news1 news' mo dx S ∧ (∀ p ∈ news, p.1 ≠ dx → p ∈ news') ∧ ∃ tk, r = .str (resStr (findP S asker ns)) tk) := by
  have haa0 := haa
  obtain ⟨vs, hna, hvs⟩ := haa0
  have M0 := M
  obtain ⟨rest, k1, k2, k3, k4, k5, k6, ka, pa, ta, ga, ia, ke, hr, hdx, R⟩ := M0
  have hmo := hs1 _ (hr _ R.hmo)
  have hdx2 := hs1 _ hdx
  clear hdx
  unfold SpecT
  refine fill w ?_
  k_fill
  intro _ _
  intro mean mg mb dp un gd cn cs a ccd cl A₀ base h₀ L m s Q E H F N hk hd hu hret
  obtain ⟨B, X, T, BO⟩ := H
  k_dflt cell_enter
  repeat' (first | ((fail_if_success (with_reducible show wpAny _ _ (exec (Stmt.While _ _ _ _) _) _ _ _)); (fail_if_success (with_reducible show wpAny _ _ (exec (Stmt.For _ _ _ _ _) _) _ _ _)); (first | ((with_reducible show wpAny _ _ (exec _ _) _ _ _); k_fold) | (k_unfold; (try dsimp only)) | (k_end; wrow_close) | (first | ((with_reducible show wpAny _ _ (call (Value.ref _) _) _ _ _); (k_here; k_dflt (refine' SpecE.use2 (by k_asm) (by k_asm) (by k_asm) (by k_asm) (by k_asm) (by k_asm) (by first | exact rfl | assumption) (by ktr_room) (by ktr_units) (find_spec _ _ _ _ _ _ _ _ _ _ _ (by assumption) (by assumption) (by assumption) (by assumption) (by assumption) (by assumption) (by assumption) (by assumption)) ?_ ?_; k_whole); all_goals (first | (intro z_r9 z_h9 z_tk9 z_n9 z_F9 z_N9 z_P9; obtain ⟨z_M9, z_K9, z_p9, z_t9, z_P8, z_e8⟩ := z_P9; subst z_e8; (try dsimp only); (try k_sweep); (try k_fold)) | (intro z_G9 z_C9 z_e9 z_t9 z_vs9 z_h9 z_tk9 z_n9 z_FG9 z_R9 z_U9 z_P9; obtain ⟨z_M9, z_K9, z_P8⟩ := z_P9; (rcases z_P8 with ⟨e7, P7⟩ | ⟨e7, P7⟩ <;> (subst e7; (try dsimp only); (try k_fold))))))) | ((with_reducible show wpAny _ _ (call (Value.builtin "str.join") _) _ _ _); (k_here; (with_reducible show wpAny _ _ (call (Value.builtin "str.join") [Value.str _ _, Value.ref _]) _ _ _); k_dflt (refine' join_strs (by k_asm) (by k_mem) (by kde_strs) (by decide +kernel) (by assumption) (by assumption) ?_; k_whole); intro z_x9 z_t9 z_k9 z_hx9 z_e9; (rw [‹Txt.join _ _ = _›] at z_e9); subst z_e9)) | walk1) | (dsimp only; walk1) | (leave1; (try dsimp only)))))
  all_goals exact hret _ _ _ _ (by assumption) (by assumption) ⟨by assumption, by assumption, _, by rw [(by assumption : findP S asker ns = _)]; rfl⟩
end

/- SL -/
section
section
variable {prog : Program} {w : World} {A : Around} {E : Value → Shared → Prop} {s : Shared} {h₀ : Heap} {L : Addr} {m : Str → Option Value} {news : List (Addr × Obj)}

theorem places_upto (c : Nat) : Builtin.Slice.slicePlaces 0 (c : Int) 1 = c := by
  unfold Builtin.Slice.slicePlaces
  have h1 : (1 : Int) > 0 := by omega
  simp only [h1, if_true, Int.ediv_one]
  split <;> omega
theorem adjust_upto_nat (k n : Nat) : Builtin.Slice.sliceAdjust none (some (k : Int)) 1 (n : Int) = (0, ((min k n : Nat) : Int)) := by
  unfold Builtin.Slice.sliceAdjust
  have h1 : ¬ ((1 : Int) < 0) := by omega
  have h2 : ¬ ((k : Int) < 0) := by omega
  simp only [h1, h2, if_false]
  congr 1
  omega
theorem adjust_upto_last (n : Nat) (hn : 1 ≤ n) : Builtin.Slice.sliceAdjust none (some (-1 : Int)) 1 (n : Int) = (0, ((n - 1 : Nat) : Int)) := by
  unfold Builtin.Slice.sliceAdjust
  have h1 : ¬ ((1 : Int) < 0) := by omega
  have h2 : ((-1 : Int) < 0) := by omega
  simp only [h1, h2, if_false, if_true]
  congr 1
  omega

theorem sliceApplied_upto {sl : Addr} {n c : Nat} {k : Int} {u : Tok} {Q : Int × Int × Nat → Shared → Prop} (hs : s.heap.IsSliceOf sl .none (.int k u) .none) (ha : Builtin.Slice.sliceAdjust none (some k) 1 (n : Int) = (0, (c : Int))) (h : Q (0, 1, c) s) :
    wpAny (model prog w) A (Builtin.Slice.sliceApplied (.ref sl) (pure (n : Int))) Q E s := by
  obtain ⟨os, hos, hcs, hds⟩ := id hs
  unfold Builtin.Slice.sliceApplied Builtin.Slice.sliceFields
  refine wpAny_bind (wpAny_bind (wpAny_field hos hds (x := .none) rfl (wpAny_bind (wpAny_field hos hds (x := .int k u) rfl (wpAny_bind (wpAny_field hos hds (x := .none) rfl (wpAny_pure ?_)))))))
  refine wpAny_bind (slicePart_none ?_)
  show wpAny _ _ (if ((1 : Int) == 0) = true then _ else _) _ _ s
  rw [if_neg (by decide)]
  refine wpAny_bind (slicePart_none (wpAny_bind (slicePart_int (wpAny_bind (wpAny_pure ?_)))))
  show wpAny _ _ (match Builtin.Slice.sliceAdjust none (some k) 1 (n : Int) with | (lo, hi) => pure (lo, (1 : Int), Builtin.Slice.slicePlaces lo hi 1)) _ _ s
  rw [ha]
  show wpAny _ _ (pure ((0 : Int), (1 : Int), Builtin.Slice.slicePlaces 0 (c : Int) 1)) _ _ s
  rw [places_upto c]
  exact wpAny_pure h

theorem pick_upto (xs : Array Value) (c : Nat) : ((List.range c).filterMap fun (k : Nat) => xs[((0 : Int) + (k : Int) * 1).toNat]?).toArray = (xs.toList.take c).toArray := by
  have e : (fun (k : Nat) => xs[((0 : Int) + (k : Int) * 1).toNat]?) = fun k => xs[k]? := by
    funext k
    have : ((0 : Int) + (k : Int) * 1).toNat = k := by omega
    rw [this]
  rw [e]
  have := pick_run xs 0 c
  rw [List.filterMap_map] at this
  have e2 : ((fun x => xs[x]?) ∘ fun x => 0 + x) = fun k => xs[k]? := by funext k; simp
  rw [e2] at this
  rw [this, List.drop_zero]

theorem getItem_upto_new {t sl : Addr} {items : Array Value} {c : Nat} {k : Int} {u : Tok} {Q : Value → Shared → Prop} (ht : IsTup s.heap t items) (hs : s.heap.IsSliceOf sl .none (.int k u) .none)
    (ha : Builtin.Slice.sliceAdjust none (some k) 1 (items.size : Int) = (0, (c : Int))) (hc : c < items.size)
    (h : Q (.ref s.heap.objs.size) { s with heap := s.heap.push { cls := .type "tuple", data := .seq (items.toList.take c).toArray } })
    (hsz : items.size ≤ sizeLine) : wpAny (model prog w) A (getItem (.ref t) (.ref sl)) Q E s := by
  have htake : sizeOk (.seq (items.toList.take c).toArray) := by
    show (items.toList.take c).toArray.size ≤ sizeLine
    rw [List.size_toArray, List.length_take, Array.length_toList]
    omega
  obtain ⟨os, hos, hcs, hds⟩ := id hs
  have hTs : s.TypeIs (.ref sl) "slice" := ⟨os, hos, hcs⟩
  unfold getItem
  try with_reducible refine wpAny_holding ?_
  first | refine wpAny_bind (wpAny_pure ?_) | skip
  refine wpAny_bind (wpAny_sequenceKey ht.typeIs (by decide) ?_)
  refine wpAny_bind (wpAny_callSpecial?_slot (name := Str.ofString "__getitem__") ht.typeIs slot_tuple_getitem
    (wpAny_call_entry slot_tuple_getitem ht.typeIs entry_tuple_getitem ?_ (args_tuple_getitem _ _)))
  show wpAny _ _ (Builtin.Tuple.tupleItemsOf (.ref t) >>= _) _ _ s
  refine wpAny_bind (tupleItemsOf_ ht ?_)
  refine wpAny_bind (wpAny_typeOf hTs ?_)
  rw [if_pos (by decide)]
  refine wpAny_bind (sliceApplied_upto hs ha ?_)
  have hno : ¬ (((0 : Int) == 0 && (1 : Int) == 1 && c == items.size) = true) := by
    have : (c == items.size) = false := by rw [beq_eq_false_iff_ne]; omega
    rw [this]; simp
  show wpAny _ _ (if ((0 : Int) == 0 && (1 : Int) == 1 && c == items.size) = true then _ else _) _ _ s
  rw [if_neg hno, pick_upto items c]
  first
    | exact wpAny_bind (m := Builtin.Tuple.tupleExact _) (wpAny_newObj_type (wpAny_pure ⟨_, rfl, wpAny_pure h⟩) htake)
    | exact wpAny_bind (m := Builtin.Tuple.tupleExact _) (wpAny_newObj_type (wpAny_bind (wpAny_pure (wpAny_pure ⟨_, rfl, wpAny_pure h⟩))) htake)
    | exact wpAny_bind (wpAny_bind (m := Builtin.Tuple.tupleExact _) (wpAny_newObj_type (wpAny_pure (wpAny_pure ⟨_, rfl, wpAny_pure h⟩)) htake))
    | exact wpAny_bind (wpAny_bind (m := Builtin.Tuple.tupleExact _) (wpAny_newObj_type (wpAny_pure ⟨_, rfl, wpAny_pure h⟩) htake))
theorem getItem_upto_same {t sl : Addr} {items : Array Value} {c : Nat} {k : Int} {u : Tok} {Q : Value → Shared → Prop} (ht : IsTup s.heap t items) (hs : s.heap.IsSliceOf sl .none (.int k u) .none)
    (ha : Builtin.Slice.sliceAdjust none (some k) 1 (items.size : Int) = (0, (c : Int))) (hc : c = items.size)
    (h : Q (.ref t) s) : wpAny (model prog w) A (getItem (.ref t) (.ref sl)) Q E s := by
  obtain ⟨os, hos, hcs, hds⟩ := id hs
  have hTs : s.TypeIs (.ref sl) "slice" := ⟨os, hos, hcs⟩
  unfold getItem
  try with_reducible refine wpAny_holding ?_
  first | refine wpAny_bind (wpAny_pure ?_) | skip
  refine wpAny_bind (wpAny_sequenceKey ht.typeIs (by decide) ?_)
  refine wpAny_bind (wpAny_callSpecial?_slot (name := Str.ofString "__getitem__") ht.typeIs slot_tuple_getitem
    (wpAny_call_entry slot_tuple_getitem ht.typeIs entry_tuple_getitem ?_ (args_tuple_getitem _ _)))
  show wpAny _ _ (Builtin.Tuple.tupleItemsOf (.ref t) >>= _) _ _ s
  refine wpAny_bind (tupleItemsOf_ ht ?_)
  refine wpAny_bind (wpAny_typeOf hTs ?_)
  rw [if_pos (by decide)]
  refine wpAny_bind (sliceApplied_upto hs ha ?_)
  have hyes : (((0 : Int) == 0 && (1 : Int) == 1 && c == items.size) = true) := by
    rw [hc]; simp
  show wpAny _ _ (if ((0 : Int) == 0 && (1 : Int) == 1 && c == items.size) = true then _ else _) _ _ s
  rw [if_pos hyes]
  refine wpAny_bind (m := Builtin.Tuple.tupleIsExact _) (wpAny_bind (wpAny_typeOf ht.typeIs (wpAny_pure ?_)))
  rw [if_pos (show (Value.type "tuple" == Value.type "tuple") = true by decide)]
  exact wpAny_bind (wpAny_rule (wpAny_pure ⟨_, rfl, wpAny_pure h⟩))

theorem news_dup {h₀ h : Heap} {L : Addr} {p : Addr × Obj} {l : List (Addr × Obj)} (N : News h₀ L h l) (hp : p ∈ l) : News h₀ L h (p :: l) := fun x hx => by
  rcases List.mem_cons.mp hx with rfl | hx
  · exact N _ hp
  · exact N _ hx

/-- t[:k] of a tuple of the ledger -/
theorem slice_upto {value slice : PySem.Expr} {t : Addr} {vs : List Value} {k : Int} {c : Nat} {u : Tok} {Q : Value → Shared → Prop}
    (F : Fr h₀ L s.heap m) (N : News h₀ L s.heap news) (hm : (t, tupObj vs) ∈ news) (ha : Builtin.Slice.sliceAdjust none (some k) 1 (vs.length : Int) = (0, (c : Int))) (hsz : vs.length ≤ 100)
    (hnew : c < vs.length → ∀ h', Fr h₀ L h' m → News h₀ L h' ((s.heap.objs.size + 1, tupObj (vs.take c)) :: news) → (∀ p ∈ news, p.1 < s.heap.objs.size + 1) → Q (.ref (s.heap.objs.size + 1)) { s with heap := h' })
    (hsame : c = vs.length → ∀ h', Fr h₀ L h' m → News h₀ L h' news → Q (.ref t) { s with heap := h' })
    (hs : subscripted slice false (.ref t) (.ref s.heap.objs.size) = operate [.ref s.heap.objs.size, .ref t] (getItem (.ref t) (.ref s.heap.objs.size)) := by with_unfolding_all rfl)
    (hg : ∀ r, letTemporaryGo value (.ref t) r = pure () := by intro _; with_unfolding_all rfl) :
    wpAny (model prog w) A (subscriptTail value slice (.ref t) (.ref s.heap.objs.size)) Q E { s with heap := s.heap.push { cls := .type "slice", data := .fields #[.none, .int k u, .none] } } := by
  have hall : ∀ p ∈ news, p.1 < s.heap.objs.size + 1 := fun p hp => Nat.lt_succ_of_lt (Heap.lt_size (N p hp).1)
  have ht : IsTup s.heap t vs.toArray := ⟨_, (N _ hm).1, rfl, _, rfl⟩
  have ht' : IsTup (s.heap.push { cls := .type "slice", data := .fields #[.none, .int k u, .none] }) t vs.toArray := ht.keeps fun _ _ e => Heap.get?_push_of_some _ e
  have F1 := F.push { cls := .type "slice", data := .fields #[.none, .int k u, .none] }
  have N1' : News h₀ L (s.heap.push { cls := .type "slice", data := .fields #[.none, .int k u, .none] }) news := N.grown fun _ _ e => Heap.get?_push_of_some _ e
  have hle : c ≤ vs.length := by
    have := congrArg Prod.snd ha
    have h2 : (Builtin.Slice.sliceAdjust none (some k) 1 (vs.length : Int)).2 ≤ (vs.length : Int) := by
      unfold Builtin.Slice.sliceAdjust
      have h1 : ¬ ((1 : Int) < 0) := by omega
      simp only [h1, if_false]
      split <;> omega
    rw [this] at h2
    dsimp only at h2
    omega
  by_cases hc : c < vs.length
  · refine subscriptTail_ops (s := { s with heap := s.heap.push { cls := .type "slice", data := .fields #[.none, .int k u, .none] } }) ht'.typeIs slot_tuple_getitem.lookup
      (getItem_upto_new (c := c) ht' (Heap.IsSliceOf.new ..) (by simpa using ha) (by simpa using hc) ?_ (by simpa using Nat.le_trans hsz (by decide +kernel))) hs hg
    have N1 := News.push F1 N1' { cls := .type "tuple", data := .seq (vs.toArray.toList.take c).toArray }
    rw [Heap.size_push] at N1
    show Q (.ref (s.heap.push _).objs.size) _
    rw [Heap.size_push]
    exact hnew hc _ (F1.push _) N1 hall
  · have hc' : c = vs.length := by omega
    refine subscriptTail_ops (s := { s with heap := s.heap.push { cls := .type "slice", data := .fields #[.none, .int k u, .none] } }) ht'.typeIs slot_tuple_getitem.lookup
      (getItem_upto_same (c := c) ht' (Heap.IsSliceOf.new ..) (by simpa using ha) (by simpa using hc') ?_) hs hg
    exact hsame hc' _ F1 N1'

/-- t[1:] of a tuple of the ledger -/
theorem slice_tail {value slice : PySem.Expr} {t : Addr} {vs : List Value} {u : Tok} {Q : Value → Shared → Prop}
    (F : Fr h₀ L s.heap m) (N : News h₀ L s.heap news) (hm : (t, tupObj vs) ∈ news) (h1 : 1 ≤ vs.length) (hsz : vs.length ≤ 100)
    (h : ∀ h', Fr h₀ L h' m → News h₀ L h' ((s.heap.objs.size + 1, tupObj (vs.drop 1)) :: news) → (∀ p ∈ news, p.1 < s.heap.objs.size + 1) → Q (.ref (s.heap.objs.size + 1)) { s with heap := h' })
    (hs : subscripted slice false (.ref t) (.ref s.heap.objs.size) = operate [.ref s.heap.objs.size, .ref t] (getItem (.ref t) (.ref s.heap.objs.size)) := by with_unfolding_all rfl)
    (hg : ∀ r, letTemporaryGo value (.ref t) r = pure () := by intro _; with_unfolding_all rfl) :
    wpAny (model prog w) A (subscriptTail value slice (.ref t) (.ref s.heap.objs.size)) Q E { s with heap := s.heap.push { cls := .type "slice", data := .fields #[.int 1 u, .none, .none] } } :=
  slice_tuple_from (a := 1) (items := vs.toArray) F N ⟨_, (N _ hm).1, rfl, _, rfl⟩ (by decide) (by simpa using h1) (fun h' F' N' => h h' F' N' fun p hp => Nat.lt_succ_of_lt (Heap.lt_size (N p hp).1)) hs hg (by simpa using Nat.le_trans hsz (by decide +kernel))

/-- the same two with the state spelt out, and strs told of -/
theorem tail_strs {value slice : PySem.Expr} {t : Addr} {vs : List Value} {ns : List Str} {u : Tok} {Q : Value → Shared → Prop} {hp : Heap} {g : Array GenState} {d : Drawn} {tk : Nat} {os : OsState}
    (F : Fr h₀ L hp m) (N : News h₀ L hp news) (hm : (t, tupObj vs) ∈ news) (hv : StrsAre vs ns) (h1 : ns ≠ []) (hsz : ns.length ≤ 100)
    (h : ∀ D vs' h', Fr h₀ L h' m → News h₀ L h' ((D, tupObj vs') :: news) → StrsAre vs' (ns.drop 1) → (∀ p ∈ news, p.1 < D) → Q (.ref D) ⟨h', g, d, tk, os⟩)
    (hs : subscripted slice false (.ref t) (.ref hp.objs.size) = operate [.ref hp.objs.size, .ref t] (getItem (.ref t) (.ref hp.objs.size)) := by with_unfolding_all rfl)
    (hg : ∀ r, letTemporaryGo value (.ref t) r = pure () := by intro _; with_unfolding_all rfl) :
    wpAny (model prog w) A (subscriptTail value slice (.ref t) (.ref hp.objs.size)) Q E ⟨hp.push { cls := .type "slice", data := .fields #[.int 1 u, .none, .none] }, g, d, tk, os⟩ :=
  slice_tail (s := ⟨hp, g, d, tk, os⟩) F N hm (by rw [strsAre_len hv]; exact List.length_pos_iff.mpr h1) (by rw [strsAre_len hv]; exact hsz) (fun h' F' N' l => h _ _ h' F' N' (strsAre_drop hv 1) l) hs hg
theorem init_strs {value slice : PySem.Expr} {t : Addr} {vs : List Value} {ns : List Str} {u : Tok} {Q : Value → Shared → Prop} {hp : Heap} {g : Array GenState} {d : Drawn} {tk : Nat} {os : OsState}
    (F : Fr h₀ L hp m) (N : News h₀ L hp news) (hm : (t, tupObj vs) ∈ news) (hv : StrsAre vs ns) (h1 : ns ≠ []) (hsz : ns.length ≤ 100)
    (h : ∀ D vs' h', Fr h₀ L h' m → News h₀ L h' ((D, tupObj vs') :: news) → StrsAre vs' ns.dropLast → (∀ p ∈ news, p.1 < D) → Q (.ref D) ⟨h', g, d, tk, os⟩)
    (hs : subscripted slice false (.ref t) (.ref hp.objs.size) = operate [.ref hp.objs.size, .ref t] (getItem (.ref t) (.ref hp.objs.size)) := by with_unfolding_all rfl)
    (hg : ∀ r, letTemporaryGo value (.ref t) r = pure () := by intro _; with_unfolding_all rfl) :
    wpAny (model prog w) A (subscriptTail value slice (.ref t) (.ref hp.objs.size)) Q E ⟨hp.push { cls := .type "slice", data := .fields #[.none, .int (-1) u, .none] }, g, d, tk, os⟩ := by
  have h0 : 1 ≤ vs.length := by rw [strsAre_len hv]; exact List.length_pos_iff.mpr h1
  refine slice_upto (s := ⟨hp, g, d, tk, os⟩) (c := vs.length - 1) F N hm (adjust_upto_last _ h0) (by rw [strsAre_len hv]; exact hsz) (fun _ h' F' N' l => h _ _ h' F' N' ?_ l) (fun e => absurd e (by omega)) hs hg
  have := strsAre_take hv (vs.length - 1)
  rw [strsAre_len hv, ← List.dropLast_eq_take] at this
  rw [strsAre_len hv]
  exact this
theorem upto_strs {value slice : PySem.Expr} {t : Addr} {vs : List Value} {ns : List Str} {k : Int} {n : Nat} {u : Tok} {Q : Value → Shared → Prop} {hp : Heap} {g : Array GenState} {d : Drawn} {tk : Nat} {os : OsState}
    (F : Fr h₀ L hp m) (N : News h₀ L hp news) (hm : (t, tupObj vs) ∈ news) (hv : StrsAre vs ns) (hk : k = (n : Int)) (hsz : ns.length ≤ 100)
    (h : ∀ D vs' h', Fr h₀ L h' m → News h₀ L h' ((D, tupObj vs') :: news) → StrsAre vs' (ns.take n) → Q (.ref D) ⟨h', g, d, tk, os⟩)
    (hs : subscripted slice false (.ref t) (.ref hp.objs.size) = operate [.ref hp.objs.size, .ref t] (getItem (.ref t) (.ref hp.objs.size)) := by with_unfolding_all rfl)
    (hg : ∀ r, letTemporaryGo value (.ref t) r = pure () := by intro _; with_unfolding_all rfl) :
    wpAny (model prog w) A (subscriptTail value slice (.ref t) (.ref hp.objs.size)) Q E ⟨hp.push { cls := .type "slice", data := .fields #[.none, .int k u, .none] }, g, d, tk, os⟩ := by
  subst hk
  refine slice_upto (s := ⟨hp, g, d, tk, os⟩) (c := min n vs.length) F N hm (adjust_upto_nat n _) (by rw [strsAre_len hv]; exact hsz) (fun hc h' F' N' _ => h _ _ h' F' N' ?_) (fun hc h' F' N' => h t vs h' F' (news_dup N' hm) ?_) hs hg
  · have e : min n vs.length = n := by omega
    rw [e]
    exact strsAre_take hv n
  · rw [List.take_of_length_le (by rw [← strsAre_len hv]; omega)]
    exact hv
end
end

/- F8 -/
section
local macro_rules | `(tactic| walk_at "subscriptTail") => `(tactic| (k_here; (with_reducible show wpAny _ _ (subscriptTail _ (PySem.Expr.Slice _ _ _ _) (Value.ref _) (Value.ref _)) _ _ _); k_dflt (first
  | (refine' tail_strs (by k_asm) (by k_asm) (by k_mem) (by kde_strs) (by first | assumption | exact List.cons_ne_nil _ _ | exact of_decide_eq_false (by assumption)) (by assumption) ?_; k_whole)
  | (refine' init_strs (by k_asm) (by k_asm) (by k_mem) (by kde_strs) (by first | assumption | exact List.cons_ne_nil _ _ | exact of_decide_eq_false (by assumption)) (by assumption) ?_; k_whole)); intro D9 vs9 h9 F9 N9 S9 l9; (try k_sweep)))

theorem ways_sub {x : Str} (h : waysL.any (· == x) = false) (h2 : [Str.ofString "self", Str.ofString "super"].any (· == x) = true) : False := by
  rw [List.any_eq_false] at h
  obtain ⟨y, hy, e⟩ := List.any_eq_true.mp h2
  exact h y (by
    rcases List.mem_cons.mp hy with rfl | hy
    · simp
    · rcases List.mem_cons.mp hy with rfl | hy
      · simp
      · cases hy) e

theorem begin_self (a : Path) (r : List Str) : beginP a (Str.ofString "self" :: r) = supP a r := by
  simp only [beginP]
  rw [if_neg (by decide +kernel), if_neg (by decide +kernel)]
  exact if_pos trivial
theorem begin_super (a : Path) (r : List Str) : beginP a (Str.ofString "super" :: r) = supP a (Str.ofString "super" :: r) := by
  simp only [beginP]
  rw [if_neg (by decide +kernel), if_neg (by decide +kernel), if_neg (by decide +kernel)]
theorem supP_hit {p : Path} {z : Str} {r : List Str} (hz : (z == Str.ofString "super") = true) (hp : p ≠ []) : supP p (z :: r) = supP p.dropLast r := by
  rw [supP, if_pos (beq_iff_eq.mp hz), if_neg hp]
theorem supP_top {p : Path} {z : Str} {r : List Str} (hz : (z == Str.ofString "super") = true) (hp : p = []) : supP p (z :: r) = none := by
  rw [supP, if_pos (beq_iff_eq.mp hz), if_pos hp]
theorem supP_end {p : Path} {z : Str} {r : List Str} (hz : (z == Str.ofString "super") = false) : supP p (z :: r) = some (p, z :: r) := by
  rw [supP, if_neg (by simpa using hz)]
theorem LeftOk.after {z : Str} {r : List Str} (h : LeftOk (z :: r)) (hz : z ≠ Str.ofString "f") : LeftOk r := by
  rcases h.tail with ⟨_, e⟩ | ⟨_, _, hr⟩
  · exact absurd e hz
  · exact hr
theorem super_ne {z : Str} (hz : (z == Str.ofString "super") = true) : z ≠ Str.ofString "f" := by
  rw [beq_iff_eq.mp hz]; decide +kernel
theorem over_turnV {m : Str → Option Value} {a b : Str} {v u v' u' : Value} :
    (fun y => if y = a then some v' else if y = b then some u' else (if y = a then some v else if y = b then some u else m y)) = fun y => if y = a then some v' else if y = b then some u' else m y := by
  funext y
  by_cases e1 : y = a
  · simp [e1]
  · by_cases e2 : y = b
    · simp [e2]
    · simp [e1, e2]

inductive LawJ (R : Option (Path × List Str)) (m : Str → Option Value) (nw : List (Addr × Obj)) (n : Nat) (m₁ : Str → Option Value) (n₁ : List (Addr × Obj)) : Prop
  | mk : ∀ (H La : Addr) (p : Path) (l : List Str) (us vs : List Value), ((∀ q ∈ nw, q ∈ n₁)) → ((H, tupObj us) ∈ n₁) → (StrsAre us p) → ((La, tupObj vs) ∈ n₁) → (StrsAre vs l) → (LeftOk l) → (l.length ≤ n) → (l.length ≤ 100) → (p.length ≤ 100) → (m₁ = (fun y => if y = Str.ofString "here" then some (.ref H) else if y = Str.ofString "left" then some (.ref La) else m y)) → (supP p l = R) → LawJ R m nw n m₁ n₁

theorem law_begin_spec (w : World) (na aa : Addr) (asker : Path) (ns : List Str) (news : List (Addr × Obj))
    (haa : StrTup news aa asker) (hns : StrTup news na ns) (hL : LeftOk ns) (hz : ns.length ≤ 100) (hza : asker.length ≤ 100) :
    Spec w 314 3 40 [.ref aa, .ref na] news
      (fun r news' => (∀ p ∈ news, p ∈ news') ∧ match beginP asker ns with
        | none => r = .none
        | some (q, left) => ∃ D H La, r = .ref D ∧ (D, tupObj [.ref H, .ref La]) ∈ news' ∧ StrTup news' H q ∧ StrTup news' La left) := by
  have haa0 := haa
  obtain ⟨as, haa1, has⟩ := haa0
  have hns0 := hns
  obtain ⟨vs, hna, hvs⟩ := hns0
  unfold Spec
  refine fill w ?_
  k_fill
  intro _ _
  intro mean mg mb dp un gd cn cs a ccd cl outer A₀ base h₀ L m s Q E H F N hk hd hu hret
  obtain ⟨B, X, T, BO⟩ := H
  cases hvs with
  | nil => exact absurd rfl hL.ne
  | @cons x u vs' ns' hvs' =>
  have hcr : ∀ y : Str, waysL.any (· == x) = false → y ∈ waysL → (x == y) = false := fun y h hy => by
    cases e : (x == y) with
    | false => rfl
    | true =>
      have e' := beq_iff_eq.mp e
      subst e'
      rw [List.any_eq_false] at h
      exact absurd (beq_self_eq_true x) (by simpa using h x hy)
  obtain ⟨R, hR⟩ : ∃ R, R = beginP asker (x :: ns') := ⟨_, rfl⟩
  rcases ways_three x with rfl | hss | hx
  rotate_left 2
  · have hx1 := hcr (Str.ofString "crate") hx (by simp)
    have hx2 := hcr (Str.ofString "self") hx (by simp)
    have hx3 := hcr (Str.ofString "super") hx (by simp)
    k_dflt cell_enter
    ktr_step
    · exact (ways_sub hx (by assumption)).elim
    · have hb : beginP asker (x :: ns') = some (asker, x :: ns') := by
        simp only [beginP]
        rw [if_neg (by simpa using hx1), if_pos hx]
      exact hret _ _ _ _ (by k_asm) (by k_asm) ⟨fun p hp => .tail _ (.tail _ (.tail _ hp)), by rw [hb]; exact ⟨_, _, _, rfl, .head _, haa.mono fun p hp => .tail _ (.tail _ (.tail _ hp)), hns.mono fun p hp => .tail _ (.tail _ (.tail _ hp))⟩⟩
  · k_dflt cell_enter
    ktr_step
    all_goals exact hret _ _ _ _ (by k_asm) (by k_asm) ⟨fun p hp => .tail _ (.tail _ (.tail _ hp)), ⟨_, _, _, rfl, .head _, ⟨_, .tail _ (.tail _ (.head _)), .nil⟩, ⟨_, .tail _ (.head _), by assumption⟩⟩⟩
  · k_dflt cell_enter
    have hx1 : (x == Str.ofString "crate") = false := by rcases hss with rfl | rfl <;> decide +kernel
    repeat' (first | ((fail_if_success (with_reducible show wpAny _ _ (eval (PySem.Expr.IfExp _ _ _ _) _) _ _ _)); (first | (k_unfold; (try dsimp only)) | (k_end; wrow_close) | walk1 | (dsimp only; walk1) | (leave1; try dsimp only))))
    rename Fr _ _ _ _ => lF
    rename News _ _ _ _ => lN
    refine eval_cutE lF (fun v l' => ∃ (La : Addr) (left : List Str) (us : List Value), v = .ref La ∧ (La, tupObj us) ∈ l' ∧ StrsAre us left ∧ LeftOk left ∧ left.length ≤ 100 ∧ supP asker left = R ∧ ∀ q ∈ news, q ∈ l') ?i1 ?i2
    case i1 =>
      rcases hss with rfl | rfl
      · ktr_step
        rename Fr _ _ _ _ => lF
        rename News _ _ _ _ => lN
        exact CutEnd.intro lF lN ⟨_, ns', _, rfl, .head _, by assumption, hL.after (by decide +kernel), by simp at hz; omega, (begin_self _ _).symm.trans hR.symm, fun q hq => by repeat (first | exact hq | apply List.Mem.tail)⟩
      · ktr_step
        rename Fr _ _ _ _ => lF
        rename News _ _ _ _ => lN
        exact CutEnd.intro lF lN ⟨na, _, _, rfl, by repeat (first | exact hna | apply List.Mem.tail), .cons _ _ hvs', hL, hz, (begin_super _ _).symm.trans hR.symm, fun q hq => by repeat (first | exact hq | apply List.Mem.tail)⟩
    case i2 =>
    intro v5 h5 tk5 l5 lF5 lN5 hJ5
    obtain ⟨La5, left5, us5, rfl, hLa5, hus5, hLo5, hl5, hsup5, hs5⟩ := hJ5
    have haa5 := hs5 _ haa1
    have hna5 := hs5 _ hna
    clear lF lN
    ktr_step
    all_goals try (exfalso; rcases hss with rfl | rfl <;> simp_all; done)
    all_goals (rename Fr _ _ _ _ => lF; rename News _ _ _ _ => lN)
    refine While_at (LawJ R) 100 lF (news_sub lN (fun q hq => by repeat (first | exact hq | apply List.Mem.tail) : ∀ q ∈ l5, q ∈ _)) ?start ?turn ?pass
    case pass => passes_own
    case start => exact ⟨aa, La5, asker, left5, as, us5, fun _ h => h, haa5, has, hLa5, hus5, hLo5, hl5, hl5, hza, over_self rfl rfl, hsup5⟩
    case turn =>
      intro n m₁ news₁ h₁ tk₁ lF1 lN1 hJ0
      try k_fold
      obtain ⟨H, La, p, l, us, vs, hnw, hH, hus, hLa, hls, hLl, hn9, hl9, hp9, rfl, hsup⟩ := hJ0
      clear lF lN
      cases l with
      | nil => exact absurd rfl hLl.ne
      | cons z r =>
      ktr_step
      all_goals try (dsimp only; ktr_step)
      all_goals first
        | exact hret _ _ _ _ (by k_asm) (by k_asm) ⟨fun q hq => .tail _ (hnw q (hs5 q hq)), by rw [← hR, ← hsup, supP_end (by assumption)]; exact ⟨_, _, _, rfl, .head _, ⟨_, .tail _ hH, hus⟩, ⟨_, .tail _ hLa, hls⟩⟩⟩
        | exact hret _ _ _ _ (by k_asm) (by k_asm) ⟨fun q hq => .tail _ (hnw q (hs5 q hq)), by rw [← hR, ← hsup, supP_end (by assumption)]; exact ⟨_, _, _, rfl, .head _, ⟨_, .tail _ hH, hus⟩, ⟨_, .tail _ hLa, hls⟩⟩⟩
        | exact hret _ _ _ _ (by k_asm) (by k_asm) ⟨fun q hq => .tail _ (hnw q (hs5 q hq)), by rw [← hR, ← hsup, supP_top (by assumption) (of_decide_eq_true (by assumption))]; rfl⟩
        | (unfold WhileStep2; exact ⟨_, _, _, _, n - 1, rfl, by k_asm, by k_asm, by simp at hn9; omega, _, _, p.dropLast, r, _, _, fun q hq => .tail _ (.tail _ (.tail _ (.tail _ (hnw q hq)))), .tail _ (.tail _ (.head _)), by assumption, .tail _ (.head _), by assumption, hLl.after (super_ne (by assumption)), by simp at hn9; omega, by simp at hl9; omega, by simp; omega, over_turnV, by rw [← hsup, supP_hit (by assumption) (of_decide_eq_false (by assumption))]⟩)
        | ((try unfold WhileStep2); dsimp only; ktr_step; exact hret _ _ _ _ (by k_asm) (by k_asm) ⟨fun q hq => .tail _ (hnw q (hs5 q hq)), by rw [← hR, ← hsup, supP_top (by assumption) (of_decide_eq_true (by assumption))]⟩)
end

/- EN -/
section
open AutoSeq1 (wpAny_loadPart')
section
variable {prog : Program} {w : World} {A : Around} {E : Value → Shared → Prop} {s : Shared}

theorem nextOf_tuple_item {it t : Addr} {i : Nat} {items : Array Value} {x : Value} {Q : Value → Shared → Prop} (hit : s.heap.IsTupleIter it t i) (ht : s.heap.IsTuple t items) (hx : items[i]? = some x)
    (hQ : ∀ h', h'.IsTupleIter it t (i + 1) → Heap.SameBut it s.heap h' → Q x { s with heap := h' }) : wpAny (model prog w) A (Builtin.SmallTypes.nextOf (.ref it)) Q E s := by
  obtain ⟨o, ho, hc, hd⟩ := id hit
  obtain ⟨ol, hol, _, nl, hdl⟩ := ht
  unfold Builtin.SmallTypes.nextOf
  refine wpAny_bind (wpAny_callSpecial?_slot (name := Str.ofString "__next__") hit.typeIs F.slot_tuple_iterator_next
    (wpAny_call_entry F.slot_tuple_iterator_next hit.typeIs F.entry_tuple_iterator_next ?_ (F.args_tuple_iterator_next_1 _)))
  show wpAny _ _ (field (.ref it) 0 >>= _) _ _ s
  refine wpAny_bind (wpAny_field ho hd (x := .ref t) rfl ?_)
  show wpAny _ _ (if (Value.ref t == Value.none) = true then _ else _) _ _ s
  rw [if_neg (show ¬ ((Value.ref t == Value.none) = true) from Bool.false_ne_true)]
  show wpAny _ _ (field (.ref it) 1 >>= _) _ _ s
  refine wpAny_bind (wpAny_field ho hd (x := .int i 0) rfl ?_)
  show wpAny _ _ (seqItems? (.ref t) >>= _) _ _ s
  refine wpAny_bind (wpAny_seqItems hol hdl ?_)
  try dsimp only
  rw [Int.toNat_natCast, hx]
  try dsimp only
  refine wpAny_bind (wpAny_setField ho hd (by simp) (wpAny_pure ⟨x, rfl, wpAny_pure (hQ _ ?_ (Heap.SameBut.update ..))⟩))
  exact ⟨_, Heap.get?_update_self _ ho (Obj.isFreed_of_fields (Obj.data_mapFields hd _)), (Obj.cls_mapFields ..).trans hc, by
    rw [Obj.data_mapFields hd]; simp [rawInt]⟩
theorem nextOf_tuple_end {it t : Addr} {i : Nat} {items : Array Value} {Q : Value → Shared → Prop} (hh : A.handled = none) (hit : s.heap.IsTupleIter it t i) (ht : s.heap.IsTuple t items) (hx : items[i]? = none)
    (hE : ∀ h' e, Heap.ExtBut it s.heap h' → (∃ o, h'.get? e = some o ∧ o.cls = .type "StopIteration") → E (.ref e) { s with heap := h' }) : wpAny (model prog w) A (Builtin.SmallTypes.nextOf (.ref it)) Q E s := by
  obtain ⟨o, ho, hc, hd⟩ := id hit
  obtain ⟨ol, hol, _, nl, hdl⟩ := ht
  unfold Builtin.SmallTypes.nextOf
  refine wpAny_bind (wpAny_callSpecial?_slot (name := Str.ofString "__next__") hit.typeIs F.slot_tuple_iterator_next
    (wpAny_call_entry F.slot_tuple_iterator_next hit.typeIs F.entry_tuple_iterator_next ?_ (F.args_tuple_iterator_next_1 _)))
  show wpAny _ _ (field (.ref it) 0 >>= _) _ _ s
  refine wpAny_bind (wpAny_field ho hd (x := .ref t) rfl ?_)
  show wpAny _ _ (if (Value.ref t == Value.none) = true then _ else _) _ _ s
  rw [if_neg (show ¬ ((Value.ref t == Value.none) = true) from Bool.false_ne_true)]
  show wpAny _ _ (field (.ref it) 1 >>= _) _ _ s
  refine wpAny_bind (wpAny_field ho hd (x := .int i 0) rfl ?_)
  show wpAny _ _ (seqItems? (.ref t) >>= _) _ _ s
  refine wpAny_bind (wpAny_seqItems hol hdl ?_)
  try dsimp only
  rw [Int.toNat_natCast, hx]
  try dsimp only
  refine wpAny_bind (wpAny_rule (wpAny_bind (wpAny_setField ho hd (by simp) ?_)))
  show wpAny _ _ (newExc (.type "StopIteration") [] >>= _) _ _ _
  refine wpAny_bind ?_
  simp only [newExc, newTuple]
  refine wpAny_bind (wpAny_newObj_type ?_ (by size_fits))
  refine wpAny_bind (m := firstArgMember _ _) (wpAny_of_eq (a := Value.none) (by first | rfl | (simp only [firstArgMember]; rfl)) ?_)
  refine wpAny_newObj_type ?_ (by size_fits)
  unfold raiseNew
  try dsimp only
  refine wpAny_bind (wpAny_handled ?_)
  first | rw [show A.in1.handled = none from hh] | rw [hh]
  refine wpAny_bind (wpAny_pure (wpAny_throw ?_))
  exact hE _ _ (((Heap.SameBut.update ..).extBut.push _).push _) ⟨_, Heap.get?_push_size _ rfl, rfl⟩
end

theorem draws_tuple {prog : Program} {w : World} {A : Around} (hh : A.handled = none) (it t : Addr) (hne : t ≠ it) (items : Array Value) :
    Draws prog w A it [it, t] items.size (fun i v => items[i]? = some v) (fun i h => h.IsTupleIter it t i ∧ h.IsTuple t items) where
  live := fun _ _ st => let ⟨o, ho, _⟩ := st.1; ⟨o, ho⟩
  frame := fun _ _ _ st hk => ⟨let ⟨o, ho, r⟩ := st.1; ⟨o, hk it (by simp) o ho, r⟩, let ⟨o, ho, r⟩ := st.2; ⟨o, hk t (by simp) o ho, r⟩⟩
  item := fun i s Q E hi st hQ => by
    refine nextOf_tuple_item st.1 st.2 (x := items[i]) (by simp [hi]) fun h' hit' hs' => ?_
    exact hQ _ h' s.toks (by simp [hi]) ⟨hit', let ⟨o, ho, r⟩ := st.2; ⟨o, hs'.extBut _ _ hne ho, r⟩⟩ hs'
  done := fun s Q E st hE => nextOf_tuple_end hh st.1 st.2 (by simp) hE

theorem meets_enum_tuple (l : Addr) (items : Array Value) (n : Nat) (dct : Option Addr) (sl : Array (Option Value)) :
    Meets (Builtin.«enumerate.__new__» ⟨[.type "enumerate", .ref l], []⟩) (fun _ R s => s.heap.get? l = some { cls := .type "tuple", dict := dct, data := .seq items n, slots := sl } ∧
      R (.ok (.ret (.ref (s.heap.push { cls := .type "tuple_iterator", data := .fields #[.ref l, .int 0 0] }).objs.size)))
        { s with heap := (s.heap.push { cls := .type "tuple_iterator", data := .fields #[.ref l, .int 0 0] }).push { cls := .type "enumerate", data := .fields #[.none, .bool false, .ref s.heap.objs.size, rawInt 0, .none, .none] } }) :=
  .of_wp fun prog w A R s h => by
    obtain ⟨hp, g, d, tk, os⟩ := s; obtain ⟨hl, h⟩ := h
    have hsub := sub_enumerate
    have hL : Heap.IsTuple (Shared.heap ⟨hp, g, d, tk, os⟩) l items := ⟨_, hl, rfl, n, rfl⟩
    wp_walk using wpAny_loadPart' hl
    refine wpAny_stack_any fun st => wpAny_pure ?_
    split
    · rename_i c _ _ _ _ _
      cases (c == Value.type "enumerate")
      · wp_walk using wpAny_loadPart' hl, wpAny_pyIter_tuple hL
        exact ⟨_, rfl, h⟩
      · wp_walk using wpAny_loadPart' hl, wpAny_pyIter_tuple hL
        exact ⟨_, rfl, h⟩
    · wp_walk using wpAny_loadPart' hl, wpAny_pyIter_tuple hL
      exact ⟨_, rfl, h⟩

section
variable {prog : Program} {w : World} {A : Around} {E : Value → Shared → Prop} {s : Shared}
theorem call_enum_tuple {l : Addr} {items : Array Value} {Q : Value → Shared → Prop} (hL : s.heap.IsTuple l items)
    (h : ∀ h', IsEnum h' (s.heap.objs.size + 1) s.heap.objs.size 0 .none → h'.IsTupleIter s.heap.objs.size l 0 → h'.objs.size = s.heap.objs.size + 2 →
      (∀ b o, s.heap.get? b = some o → h'.get? b = some o) → Q (.ref (s.heap.objs.size + 1)) { s with heap := h' }) :
    wpAny (model prog w) A (call (.type "enumerate") [.ref l]) Q E s := by
  obtain ⟨⟨c, dct, dt, sl⟩, hl, hc, n, hd⟩ := hL
  replace hc : c = .type "tuple" := hc
  replace hd : dt = .seq items n := hd
  subst hc hd
  refine callType_new F.called_enumerate (by decide) (F.typeCall_enumerate_1 _) (F.newCall_enumerate_1 _) (fun obj => F.args_object_init_2 obj _) F.entry_enumerate_new
    (meets_enum_tuple l items n dct sl) ⟨hl, ?_⟩
  have hz : (s.heap.push { cls := .type "tuple_iterator", data := .fields #[.ref l, .int 0 0] }).objs.size = s.heap.objs.size + 1 := Heap.size_push ..
  show _ ∧ _
  rw [hz]
  have he : IsEnum ((s.heap.push { cls := .type "tuple_iterator", data := .fields #[.ref l, .int 0 0] }).push
      { cls := .type "enumerate", data := .fields #[.none, .bool false, .ref s.heap.objs.size, rawInt 0, .none, .none] }) (s.heap.objs.size + 1) s.heap.objs.size 0 .none := by
    have := Heap.get?_push_size (s.heap.push { cls := .type "tuple_iterator", data := .fields #[.ref l, .int 0 0] })
      (o := { cls := .type "enumerate", data := .fields #[.none, .bool false, .ref s.heap.objs.size, rawInt 0, .none, .none] }) rfl
    rw [hz] at this; exact this
  refine ⟨⟨_, he, rfl⟩, h _ he ⟨_, Heap.get?_push_of_some _ (Heap.get?_push_size _ rfl), rfl, rfl⟩ (by rw [Heap.size_push, hz]) fun b o x => Heap.get?_push_of_some _ (Heap.get?_push_of_some _ x)⟩

theorem enum_tupTurns {h₀ : Heap} {env : Env} {body : List Stmt} {Q : Flow → Shared → Prop} {elts : List PySem.Expr} {k : Nat} {pos : Pos} {l : Addr} {vs : List Value} {m₀ : Str → Option Value} {news : List (Addr × Obj)}
    (hh : A.handled = none) (F : Fr h₀ env.locals s.heap m₀) (N : News h₀ env.locals s.heap news) (hm : (l, tupObj vs) ∈ news)
    (rest₀ : ∀ I : Addr, (∀ p ∈ news, p.1 < I) → ItemsRest prog w A E h₀ env (.Tuple elts k pos) body Q s [(I + 1, "enumerate"), (I, "tuple_iterator")] [(l, tupObj vs)] (enumItems 0 vs) m₀ news) :
    wpAny (model prog w) A (call (.type "enumerate") [.ref l]) (fun xv s₁ => wpAny (model prog w) A (pyIter xv) (fun it s₂ => TurnsAt prog w A h₀ env (.Tuple elts k pos) body Q E it s₂) E s₁) E s := by
  have hax := N _ hm
  have hl : s.heap.IsTuple l vs.toArray := ⟨_, hax.1, rfl, _, rfl⟩
  have hlt : l < s.heap.objs.size := Heap.lt_size hax.1
  have hLs : env.locals < s.heap.objs.size := F.ns.lt
  refine call_enum_tuple hl fun h' hE hI hsz hk => ?_
  refine wpAny_pyIter_enum hE ?_
  refine ktu_core (tk0 := s.toks) (keep := [(l, tupObj vs)]) (KTurns.ofWalksU (WalksT.enumerateD (draws_tuple (A := A.in1) hh s.heap.objs.size l (Nat.ne_of_lt hlt) vs.toArray) (s.heap.objs.size + 1) (Nat.succ_ne_self _)
    (fun q => by
      rcases List.mem_cons.mp q with e | q
      · exact Nat.succ_ne_self _ e
      · exact ktu_ne 1 hlt (List.mem_singleton.mp q).symm) (List.mem_cons_self ..)).toU) (by simp [enumItems_length]) ?_ ?_ ?_ ?_ ?_ ?_ ?_ ?_ (F.keeps hk) (N.grown hk) (And.intro hm trivial) (rest₀ _ fun p hp => Heap.lt_size (N p hp).1)
  · rintro i v h ⟨T, vals, rfl, ⟨t, x, hx, rfl⟩, hT⟩
    refine ⟨_, enumItems_get vs 0 i (v := x) (by simpa using hx), T, t, rfl, ?_⟩
    show IsTup h T #[.int ((0 + i : Nat) : Int) t, x]
    rw [Nat.zero_add]
    exact hT
  · rintro i h ⟨⟨old, he⟩, ⟨oi, hoi, hic, _⟩, _⟩
    have he' : ∃ oe : Obj, h.get? (s.heap.objs.size + 1) = some oe ∧ oe.cls = .type "enumerate" := ⟨_, he, rfl⟩
    obtain ⟨oe, h1, h2⟩ := he'
    refine ⟨[(s.heap.objs.size + 1, oe), (s.heap.objs.size, oi)], ⟨⟨rfl, h2⟩, ⟨rfl, hic⟩, trivial⟩, fun p hp => ?_⟩
    rcases List.mem_cons.mp hp with rfl | hp
    · exact h1
    · rw [List.mem_singleton.mp hp]; exact hoi
  · intro b hb
    have hb' : b = s.heap.objs.size + 1 ∨ b = s.heap.objs.size := by simpa using hb
    rcases hb' with rfl | rfl
    · exact ⟨by simp, ktu_new F (Nat.le_add_right _ _)⟩
    · exact ⟨by simp, ktu_new F (Nat.le_refl _)⟩
  · intro b hb
    simpa using hb
  · intro b hb
    have hb' : b = s.heap.objs.size + 1 ∨ b = s.heap.objs.size ∨ b = l := by simpa using hb
    rcases hb' with rfl | rfl | rfl
    · exact .inl (by simp)
    · exact .inl (by simp)
    · exact .inr ⟨tupObj vs, by simp⟩
  · intro hI'
    have hb' : env.locals = s.heap.objs.size + 1 ∨ env.locals = s.heap.objs.size ∨ env.locals = l := by simpa using hI'
    rcases hb' with e | e | e
    · exact ktu_ne 1 hLs e
    · exact Nat.ne_of_lt hLs e
    · exact hax.2.1 e.symm
  · intro p hp hI'
    have hb' : p.1 = s.heap.objs.size + 1 ∨ p.1 = s.heap.objs.size := by simpa using hI'
    have hlp := Heap.lt_size (N p hp).1
    rcases hb' with e | e
    · exact ktu_ne 1 hlp e
    · exact Nat.ne_of_lt hlp e
  · exact ⟨⟨.none, hE⟩, hI, let ⟨o, ho, r⟩ := hl; ⟨o, hk l o ho, r⟩⟩
end
end

/- SD -/
section
noncomputable abbrev kS (w : World) := PySem.strKind Challenge.rw_up0052_01.row.prog w
inductive SeenTab (w : World) (news : List (Addr × Obj)) (sd : Addr) (S : Seen) : Prop
  | mk : ∀ o es ep (xs : List (Path × Addr × Value)), ((sd == sysModules) = false) → ((sd, o) ∈ news) → (o.ExactDict) → (o.data = .dict es ep) → (es.toList = xs.map (entryOfKey (tupleKind (kS w)))) → ((xs.map (·.1)).Nodup) → ((∀ x ∈ xs, ∃ vs, (x.2.1, tupObj vs) ∈ news ∧ StrsAre vs x.1)) → (xs.map (fun x => (x.1, x.2.2)) = S.map (fun p => (p.1, Value.bool p.2))) → SeenTab w news sd S

theorem itemsAre_strs {w : World} {vs : List Value} {ns : List Str} (h : StrsAre vs ns) : ItemsAre (kS w) ns vs := by
  induction h with
  | nil => exact .nil
  | cons y t _ ih => exact .cons (strKind_is _ _ _ _) ih
theorem strTupKey {w : World} {h₀ h : Heap} {L : Addr} {news : List (Addr × Obj)} {a : Addr} {vs : List Value} {ns : List Str} (N : News h₀ L h news) (hm : (a, tupObj vs) ∈ news) (hs : StrsAre vs ns) : IsTupleKey (kS w) h ns a :=
  ⟨_, _, _, (N _ hm).1, rfl, rfl, itemsAre_strs hs⟩

theorem SeenTab.mono {w : World} {l l' : List (Addr × Obj)} {sd : Addr} {S : Seen} (T : SeenTab w l sd S) (h : ∀ p ∈ l, p ∈ l') : SeenTab w l' sd S := by
  obtain ⟨o, es, ep, xs, a, b, c, d, e, f, g, i⟩ := T
  exact ⟨o, es, ep, xs, a, h _ b, c, d, e, f, fun x hx => let ⟨vs, p, q⟩ := g x hx; ⟨vs, h _ p, q⟩, i⟩

theorem atKey_seen : ∀ (xs : List (Path × Addr × Value)) (S : Seen) (p : Path), xs.map (fun x => (x.1, x.2.2)) = S.map (fun p => (p.1, Value.bool p.2)) → (atKey xs p).map (·.2) = (seenAt S p).map Value.bool
  | [], [], _, _ => rfl
  | [], _ :: _, _, h => by simp at h
  | _ :: _, [], _, h => by simp at h
  | (k, a, v) :: xs, (k', b) :: S, p, h => by
    simp only [List.map_cons, List.cons.injEq, Prod.mk.injEq] at h
    obtain ⟨⟨rfl, rfl⟩, h⟩ := h
    have ih := atKey_seen xs S p h
    unfold atKey seenAt at ih ⊢
    by_cases e : k = p
    · simp [e]
    · simpa [List.find?_cons, e] using ih

section
variable {w : World} {A : Around} {E : Value → Shared → Prop} {s : Shared} {h₀ : Heap} {L : Addr} {m : Str → Option Value} {news : List (Addr × Obj)} {sd a : Addr} {S : Seen} {p : Path} {vs : List Value} {Q : Value → Shared → Prop}
theorem SeenTab.dict (T : SeenTab w news sd S) (N : News h₀ L s.heap news) : ∃ xs : List (Path × Addr × Value), (sd == sysModules) = false ∧ s.heap.DictOfH (tupleKind (kS w)) sd xs ∧ xs.map (fun x => (x.1, x.2.2)) = S.map (fun p => (p.1, Value.bool p.2)) := by
  obtain ⟨o, es, ep, xs, lo, hm, hc, hd, he, hn, hk, hS⟩ := T
  exact ⟨xs, lo, ⟨o, es, ep, (N _ hm).1, hc, hd, he, fun x hx => let ⟨us, h1, h2⟩ := hk x hx; strTupKey N h1 h2, hn⟩, hS⟩
theorem seen_notin (N : News h₀ L s.heap news) (T : SeenTab w news sd S) (hm : (a, tupObj vs) ∈ news) (hs : StrsAre vs p) (hu : A.units + 1 < cLine)
    (h : ∀ t, Q (.bool (!(seenAt S p).isSome)) { s with toks := t }) : wpAny (model Challenge.rw_up0052_01.row.prog w) A (compareOp .NotIn (.ref a) (.ref sd)) Q E s := by
  obtain ⟨xs, lo, hD, hS⟩ := T.dict N
  refine wpAny_notIn_heap (knd := tupleKind (kS w)) (tupleKind_room_in1 hu) (strTupKey N hm hs) lo hD ?_
  have e : (atKey xs p).isSome = (seenAt S p).isSome := by
    have := congrArg Option.isSome (atKey_seen xs S p hS)
    simpa using this
  rw [e]
  exact h _
theorem seen_item {value slice : PySem.Expr} {b : Bool} (N : News h₀ L s.heap news) (T : SeenTab w news sd S) (hm : (a, tupObj vs) ∈ news) (hs : StrsAre vs p) (hu : A.units + 1 < cLine) (hb : seenAt S p = some b)
    (h : ∀ t, Q (.bool b) { s with toks := t })
    (hsb : subscripted slice false (.ref sd) (.ref a) = operate [.ref sd, .ref a] (getItem (.ref sd) (.ref a)) := by with_unfolding_all rfl) (hg : ∀ r, letTemporaryGo value (.ref sd) r = pure () := by intro _; with_unfolding_all rfl) :
    wpAny (model Challenge.rw_up0052_01.row.prog w) A (subscriptTail value slice (.ref sd) (.ref a)) Q E s := by
  obtain ⟨xs, lo, hD, hS⟩ := T.dict N
  have e := atKey_seen xs S p hS
  rw [hb] at e
  obtain ⟨q, hq, hv⟩ := Option.map_eq_some_iff.mp e
  refine subscriptTail_builtin hD.typeIs slot_dict_getitem.lookup (wpAny_getItem_heap (knd := tupleKind (kS w)) (tupleKind_room_in1 hu) (strTupKey N hm hs) hD hq ?_) hsb hg
  rw [hv]
  exact h _
end

theorem SeenTab.ne {w : World} {h₀ h : Heap} {L : Addr} {news : List (Addr × Obj)} {sd a : Addr} {S : Seen} {vs : List Value} (T : SeenTab w news sd S) (N : News h₀ L h news) (hm : (a, tupObj vs) ∈ news) : a ≠ sd := by
  obtain ⟨o, es, ep, xs, lo, hmd, hc, _⟩ := T
  intro e
  have e1 := (N _ hm).1
  have e2 := (N _ hmd).1
  dsimp only at e1 e2
  rw [e, e2] at e1
  have e3 := congrArg Obj.cls (Option.some.inj e1)
  rw [hc.1] at e3
  injection e3 with e4
  exact absurd e4 (by decide)

theorem seen_set {w : World} {A : Around} {E : Value → Shared → Prop} {s : Shared} {h₀ : Heap} {L : Addr} {m : Str → Option Value} {news : List (Addr × Obj)} {sd a : Addr} {S : Seen} {p : Path} {vs : List Value} {b : Bool} {Q : Unit → Shared → Prop}
    (F : Fr h₀ L s.heap m) (N : News h₀ L s.heap news) (T : SeenTab w news sd S) (hm : (a, tupObj vs) ∈ news) (hs : StrsAre vs p) (hu : A.units + 1 < cLine) (hb : seenAt S p = none) (hz : S.length ≤ 100)
    (h : ∀ h' t news', Fr h₀ L h' m → News h₀ L h' news' → SeenTab w news' sd (S ++ [(p, b)]) → (∀ q ∈ news, q.1 ≠ sd → q ∈ news') → Q () { s with heap := h', toks := t }) :
    wpAny (model Challenge.rw_up0052_01.row.prog w) A (setItem (.ref sd) (.ref a) (.bool b)) Q E s := by
  have T0 := T
  obtain ⟨o, es, ep, xs, lo, hmd, hc, hd, he, hn, hk, hS⟩ := T0
  have hD : s.heap.DictOfH (tupleKind (kS w)) sd xs := ⟨o, es, ep, (N _ hmd).1, hc, hd, he, fun x hx => let ⟨us, h1, h2⟩ := hk x hx; strTupKey N h1 h2, hn⟩
  have hlen : xs.length = S.length := by have := congrArg List.length hS; simpa using this
  have hat : atKey xs p = none := by
    have e := atKey_seen xs S p hS
    rw [hb] at e
    cases hq : atKey xs p with
    | none => rfl
    | some q => rw [hq] at e; cases e
  refine wpAny_setItem_heap (hsz := by rw [hlen]; exact Nat.le_trans hz (by decide +kernel)) (knd := tupleKind (kS w)) (tupleKind_room_in1 hu) (strTupKey N hm hs) hD fun h' hm' hsb => ?_
  obtain ⟨o', es', ep', ho', hc', hd', he', _, hn'⟩ := hm'
  have keep : ∀ q ∈ news, q.1 ≠ sd → q ∈ (news.map fun q => if q.1 = sd then (sd, o') else q) := fun q hq hqd => List.mem_map.mpr ⟨q, hq, by simp [hqd]⟩
  refine h h' _ (news.map fun q => if q.1 = sd then (sd, o') else q) (F.change hsb (N _ hmd).2.1 (N.fresh hmd)) (N.replace hsb ho') ⟨o', es', ep', storedH xs p a (.bool b), lo, List.mem_map.mpr ⟨(sd, o), hmd, by simp⟩, hc', hd', he', hn', fun x hx => ?_, ?_⟩ keep
  · rw [storedH_new hat] at hx
    rcases List.mem_append.mp hx with hx | hx
    · obtain ⟨us, h1, h2⟩ := hk x hx
      exact ⟨us, keep _ h1 (T.ne N h1), h2⟩
    · rw [List.mem_singleton.mp hx]
      exact ⟨vs, keep _ hm (T.ne N hm), hs⟩
  · rw [storedH_new hat, List.map_append, List.map_append, hS]
    rfl
end

/- IT -/
section
theorem allObj_mono : ∀ {ws : List (Addr × String)} {k k' : List (Addr × Obj) → Prop}, (∀ its, k its → k' its) → AllObj ws k → AllObj ws k'
  | [], _, _, h, a => h _ a
  | _ :: _, _, _, h, a => fun o ho => allObj_mono (fun _ x => h _ x) (a o ho)
theorem unrPostW_mono {h₀ : Heap} {L : Addr} {s₁ : Shared} {its : List (Addr × Obj)} {r r' : (Str → Option Value) → List (Addr × Obj) → Prop} {Q : Flow → Shared → Prop} (h : ∀ m n, r m n → r' m n) :
    ∀ f s₂, UnrPostW h₀ L s₁ its r Q f s₂ → UnrPostW h₀ L s₁ its r' Q f s₂ := by
  have key : ∀ s₂, UnrEndW h₀ L s₁ its r s₂ → UnrEndW h₀ L s₁ its r' s₂ := by
    rintro s₂ ⟨h', tk, m', n', a, b, c, d, e⟩
    exact ⟨h', tk, m', n', a, b, c, d, h _ _ e⟩
  intro f s₂ x
  cases f with
  | ret v => exact x
  | brk => exact x
  | next => exact key _ x
  | cont => exact key _ x
theorem items_all {prog : Program} {w : World} {A : Around} {E : Value → Shared → Prop} {h₀ : Heap} {env : Env} {target : PySem.Expr} {body : List Stmt} {Q : Flow → Shared → Prop} {s : Shared} {ws : List (Addr × String)} {keep : List (Addr × Obj)}
    (J : List Itm → (Str → Option Value) → List (Addr × Obj) → Prop)
    (zero : ∀ m news, J [] m news → ∀ h tk, Fr h₀ env.locals h m → News h₀ env.locals h news → Q .next { s with heap := h, toks := tk })
    (turn : ∀ a r m news, J (a :: r) m news → ∀ v h tk, a.Is v h → Fr h₀ env.locals h m → AllObj ws (fun its => News h₀ env.locals h (its ++ news) →
      wpAny (model prog w) A (assign target env v) (fun _ s₂ => wpAny (model prog w) A (execs body env) (UnrPostW h₀ env.locals { s with heap := h, toks := tk } its (fun m' n' => SubL keep n' ∧ J r m' n') Q) E s₂) E { s with heap := h, toks := tk })) :
    ∀ xs m news, J xs m news → ItemsRest prog w A E h₀ env target body Q s ws keep xs m news
  | [], m, news, j => ItemsRest.zero (zero m news j)
  | a :: r, m, news, j => by
    intro v h tk hv F
    refine allObj_mono (fun its k N => ?_) (turn a r m news j v h tk hv F)
    exact wpAny_mono (k N) (fun _ s₂ h₂ => wpAny_mono h₂ (unrPostW_mono fun m' n' q => ⟨q.1, items_all J zero turn r m' n' q.2⟩) fun _ _ e => e) fun _ _ e => e
theorem items_from {prog : Program} {w : World} {A : Around} {E : Value → Shared → Prop} {h₀ : Heap} {env : Env} {target : PySem.Expr} {body : List Stmt} {Q : Flow → Shared → Prop} {s : Shared} {hp : Heap} {tp : Nat} {ws : List (Addr × String)} {keep : List (Addr × Obj)} {xs : List Itm} {m₀ : Str → Option Value} {news₀ : List (Addr × Obj)}
    (J : (Str → Option Value) → List (Addr × Obj) → List Itm → (Str → Option Value) → List (Addr × Obj) → Prop) (start : J m₀ news₀ xs m₀ news₀)
    (zero : ∀ m news, J m₀ news₀ [] m news → ∀ h tk, Fr h₀ env.locals h m → News h₀ env.locals h news → Q .next ⟨h, s.gens, s.drawn, tk, s.os⟩)
    (turn : ∀ a r m news, J m₀ news₀ (a :: r) m news → ∀ v h tk, a.Is v h → Fr h₀ env.locals h m → AllObj ws (fun its => News h₀ env.locals h (its ++ news) →
      wpAny (model prog w) A (assign target env v) (fun _ s₂ => wpAny (model prog w) A (execs body env) (UnrPostW h₀ env.locals ⟨h, s.gens, s.drawn, tk, s.os⟩ its (fun m' n' => SubL keep n' ∧ J m₀ news₀ r m' n') Q) E s₂) E ⟨h, s.gens, s.drawn, tk, s.os⟩)) :
    ItemsRest prog w A E h₀ env target body Q ⟨hp, s.gens, s.drawn, tp, s.os⟩ ws keep xs m₀ news₀ := items_all (s := (⟨hp, s.gens, s.drawn, tp, s.os⟩ : Shared)) (J m₀ news₀) zero turn xs m₀ news₀ start
end

/- RG -/
section
section
variable {prog : Program} {w : World} {A : Around} {E : Value → Shared → Prop} {s : Shared} {env : Env} {h₀ : Heap} {target : PySem.Expr} {body : List Stmt} {Q : Flow → Shared → Prop}
theorem letGo_rg {I : Addr} {x left c : Int} {v : Value} {Q' : Unit → Shared → Prop} {s' : Shared} (hit : IsRangeIter s'.heap I x left c) (h : Q' () s') :
    wpAny (model prog w) A (letOwnedTupleGo target (.ref I) v) Q' E s' := by
  have ho : s'.heap.get? I = some _ := hit
  unfold letOwnedTupleGo
  cases target <;> first
    | exact wpAny_pure h
    | (cases v <;> first
      | exact wpAny_pure h
      | (refine wpAny_bind (wpAny_load ho ?_); exact wpAny_pure h)
      | (refine wpAny_bind (wpAny_load ho ?_); simp; exact wpAny_pure h))
theorem iter_rangeTurns {r : Addr} {a₀ b₀ : Int} {t₀ u₀ v₀ : Tok} {n : Nat} {m₀ : Str → Option Value} {news : List (Addr × Obj)}
    (hh : A.handled = none) (hr : IsRange s.heap r a₀ b₀ 1 t₀ u₀ v₀) (hsmall : Builtin.Range.small a₀ b₀ 1 = true) (hn : Builtin.Range.rangeSize a₀ b₀ 1 = (n : Int)) (F : Fr h₀ env.locals s.heap m₀) (N : News h₀ env.locals s.heap news)
    (rest₀ : ∀ I : Addr, (∀ p ∈ news, p.1 < I) → ItemsRest prog w A E h₀ env target body Q s [(I, "range_iterator")] [] ((List.range n).map fun i => Itm.tok fun t => .int (a₀ + (i : Nat) * 1) t) m₀ news) :
    wpAny (model prog w) A (pyIter (.ref r)) (fun it s₂ => TurnsAt prog w A h₀ env target body Q E it s₂) E s := by
  refine wpAny_pyIter_range hr hsmall ?_
  have W : Walks prog w A s.heap.objs.size [s.heap.objs.size] [s.heap.objs.size] n (fun i v => i < n ∧ ∃ t, v = .int (a₀ + i * 1) t)
      (fun i h => IsRangeIter h s.heap.objs.size (a₀ + (i : Nat) * 1) ((n : Int) - (i : Nat)) 1) := (Walks.range hh _ a₀ 1 n).bound
  refine ktu_core (tk0 := s.toks) (keep := []) (KTurns.ofWalks W fun i v s Q E st q => letGo_rg st q) (by simp) ?_ ?_ ?_ ?_ ?_ ?_ ?_ ?_ (F.push _) (fun p hp => ⟨Heap.get?_push_of_some _ (N p hp).1, (N p hp).2⟩) trivial (rest₀ _ fun p hp => Heap.lt_size (N p hp).1)
  · rintro i v h ⟨hi, t, rfl⟩
    exact ⟨Itm.tok fun t => .int (a₀ + (i : Nat) * 1) t, by rw [List.getElem?_map, List.getElem?_range hi]; rfl, t, rfl⟩
  · intro i h st
    exact ⟨[(s.heap.objs.size, _)], ⟨⟨rfl, rfl⟩, trivial⟩, fun p hp => by rw [List.mem_singleton.mp hp]; exact st⟩
  · intro b hb
    have hb' : b = s.heap.objs.size := by simpa using hb
    rw [hb']
    exact ⟨List.mem_cons_self .., next_is_new F⟩
  · intro b hb
    simpa using hb
  · intro b hb
    exact .inl (by simpa using hb)
  · intro hI
    have hb' : env.locals = s.heap.objs.size := by simpa using hI
    exact absurd F.ns.lt (hb' ▸ Nat.lt_irrefl _)
  · intro p hp hI
    exact absurd (Heap.lt_size (N p hp).1) ((List.mem_singleton.mp hI) ▸ Nat.lt_irrefl _)
  · show IsRangeIter _ _ _ _ _
    rw [hn]
    simpa using Heap.get?_push_size _ rfl
end
end

/- CB -/
section
open PyProof.Rows.LCg
section
variable {prog : Program} {w : World} {A : Around} {E : Value → Shared → Prop} {s : Shared} {h₀ : Heap} {L : Addr} {m : Str → Option Value} {env : Env}

noncomputable abbrev testsOf (ifs : List PySem.Expr) (env : Env) : Sem Bool := forIn ifs true fun c r => if r = true then do let ok ← isTrue c env (eval c env); pure (ForInStep.yield ok) else pure (ForInStep.yield r)

theorem cb_loop {elt target iter : PySem.Expr} {ifs : List PySem.Expr} {scope : Scope} {pos : Pos} {it acc : Value} {env : Env} {R : Result → Shared → Prop} (I : Nat → Shared → Prop)
    (turn : ∀ n s, I n s → wpAny (model prog w) A (pyNext it) (fun r s₁ => match r with
      | none => R (.ok .next) s₁
      | some v => wpAny (model prog w) A (letOwnedTupleGo target it v) (fun _ s₀ => wpAny (model prog w) A (assign target env v) (fun _ s₂ =>
          wpAny (model prog w) A (testsOf ifs env) (fun ok s₃ =>
            if ok = true then wpAny (model prog w) A (eval elt env) (fun x s₄ =>
              wpAny (model prog w) A (call (.builtin "list.append") [acc, x]) (fun _ s₅ => ∃ m, m < n ∧ I m s₅) (notedBy (model prog w) A env fun e s' => R (.error e) s') s₄) (notedBy (model prog w) A env fun e s' => R (.error e) s') s₃
            else ∃ m, m < n ∧ I m s₃) (notedBy (model prog w) A env fun e s' => R (.error e) s') s₂)
          (notedBy (model prog w) A env fun e s' => R (.error e) s') s₀) (notedBy (model prog w) A env fun e s' => R (.error e) s') s₁) (notedBy (model prog w) A env fun e s' => R (.error e) s') s)
    (n : Nat) (h : I n s) : codeAny (model prog w) A (.compLoop (.ListComp elt [⟨target, iter, ifs, 0⟩] scope pos) 0 it acc env) R s := by
  refine codeAny_loop rfl I (fun n s hI => ?_) n h
  show wpAny _ A ((compTurn (.ListComp elt [⟨target, iter, ifs, 0⟩] scope pos) 0 it acc env).onRaise (fun x => do noteFrame x env; theTreesLotGoes x)) _ _ s
  refine wpAny_noted ?_
  rw [compTurn_list]
  refine wpAny_bind (wpAny_standAt (wpAny_bind (wpAny_mono (turn n s hI) (fun r s₁ h₁ => ?_) fun _ _ h' => h')))
  cases r with
  | none => exact wpAny_pure h₁
  | some v =>
    refine wpAny_bind (wpAny_mono h₁ (fun _ s₀ h₀' => ?_) fun _ _ h' => h')
    refine wpAny_bind (wpAny_mono h₀' (fun _ s₂ h₂ => wpAny_bind (wpAny_mono h₂ (fun ok s₃ h₃ => ?_) fun _ _ h' => h')) fun _ _ h' => h')
    cases ok with
    | false => exact wpAny_pure ⟨rfl, h₃⟩
    | true =>
      exact wpAny_bind (wpAny_bind (wpAny_mono h₃ (fun x s₄ h₄ => wpAny_bind (wpAny_mono h₄ (fun _ s₅ h₅ => wpAny_pure (wpAny_pure ⟨rfl, h₅⟩)) fun _ _ h' => h')) fun _ _ h' => h'))

noncomputable def CRest (prog : Program) (w : World) (A : Around) (h₀ : Heap) (L : Addr) (m : Str → Option Value) (env : Env) (elt : PySem.Expr) (ifs : List PySem.Expr) (scope : Scope) (cl : List (Str × Addr)) (Tg : Value → (Str → Option Value) → Prop) (s : Shared)
    (S : List (Addr × Obj) → Prop) (P : Nat → Value → Prop) (Fin : List Value → List (Addr × Obj) → Prop) : Nat → Nat → List Value → List (Addr × Obj) → Prop
  | 0, _, ys, news => Fin ys news
  | k + 1, i, ys, news => ∀ v I oI C oC D m₂ h tk (E' : Value → Shared → Prop), P i v → NsObj oC m₂ → Tg v m₂ → Fr h₀ L h m → News h₀ L h ((I, oI) :: (C, oC) :: (D, lst ys) :: news) → S news → Off3 I C D news → ((@Ne Nat I C) ∧ (@Ne Nat I D) ∧ (@Ne Nat C D)) →
      wpAny (model prog w) A (testsOf ifs (compEnvC scope cl C env)) (fun ok s₃ =>
        if ok = true then wpAny (model prog w) A (eval elt (compEnvC scope cl C env)) (CompEnd h₀ L m { s with heap := h, toks := tk } I oI C oC D (lst ys) S (fun y news' => CRest prog w A h₀ L m env elt ifs scope cl Tg s S P Fin k (i + 1) (ys ++ [y]) news')) E' s₃
        else CompEnd h₀ L m { s with heap := h, toks := tk } I oI C oC D (lst ys) S (fun _ news' => CRest prog w A h₀ L m env elt ifs scope cl Tg s S P Fin k (i + 1) ys news') .none s₃) E' { s with heap := h, toks := tk }

/-- what the comprehension's loop keeps -/
inductive CbJ (prog : Program) (w : World) (A : Around) (h₀ : Heap) (L : Addr) (m : Str → Option Value) (env : Env) (elt : PySem.Expr) (ifs : List PySem.Expr) (scope : Scope) (cl : List (Str × Addr)) (Tg : Value → (Str → Option Value) → Prop) (s₂ : Shared)
    (S : List (Addr × Obj) → Prop) (P : Nat → Value → Prop) (Fin : List Value → List (Addr × Obj) → Prop) (St : Nat → Heap → Prop) (I C D : Addr) (n : Nat) (k : Nat) (s' : Shared) : Prop
  | mk : ∀ (h' : Heap) (tk : Tok) (i : Nat) (ys : List Value) (m' : Str → Option Value) (news' : List (Addr × Obj)), s' = { s₂ with heap := h', toks := tk } → i ≤ n → k = n + 1 - i → ys.length ≤ i → St i h' → Fr h₀ L h' m → h'.Ns C m' → News h₀ L h' ((D, lst ys) :: news') →
      Off3 I C D news' → S news' → CRest prog w A h₀ L m env elt ifs scope cl Tg s₂ S P Fin (n - i) i ys news' → CbJ prog w A h₀ L m env elt ifs scope cl Tg s₂ S P Fin St I C D n k s'
theorem compEnd_elim {s s' : Shared} {I C D : Addr} {oI oC oD : Obj} {S : List (Addr × Obj) → Prop} {J : Value → List (Addr × Obj) → Prop} {y : Value} {P : Shared → Prop} (h : CompEnd h₀ L m s I oI C oC D oD S J y s')
    (k : ∀ h' tk news', Fr h₀ L h' m → News h₀ L h' ((I, oI) :: (C, oC) :: (D, oD) :: news') → Off3 I C D news' → S news' → J y news' → P { s with heap := h', toks := tk }) : P s' := by
  obtain ⟨h', tk, news', rfl, F, N, o, a, b⟩ := h
  exact k h' tk news' F N o a b

theorem cb_block {elt iter target : PySem.Expr} {ifs : List PySem.Expr} {scope : Scope} {cl : List (Str × Addr)} {pos : Pos} {s₂ : Shared} {I : Addr} {fp : List Addr} {n : Nat} {P : Nat → Value → Prop} {St : Nat → Heap → Prop} {S : List (Addr × Obj) → Prop} {news : List (Addr × Obj)}
    {Tg : Value → (Str → Option Value) → Prop} {Fin : List Value → List (Addr × Obj) → Prop} {RR : Value → Addr → Result → Shared → Prop}
    (W : Walks prog w A I fp [I] n P St) (hsz : n ≤ sizeLine) (hIo : ∀ i h, St i h → ∃ o, h.get? I = some o)
    (hgo : ∀ i v (s : Shared) Q E, St i s.heap → Q () s → wpAny (model prog w) A (letOwnedTupleGo target (.ref I) v) Q E s)
    (hasg : ∀ i v (s' : Shared) C m' news' Q E, P i v → S news' → News h₀ L s'.heap news' → s'.heap.Ns C m' →
      (∀ h' tk m'', h'.Ns C m'' → Tg v m'' → (∀ c o, c ≠ C → s'.heap.get? c = some o → h'.get? c = some o) → Q () { s' with heap := h', toks := tk }) → wpAny (model prog w) A (assign target (compEnvC scope cl C env) v) Q E s')
    (hSt : ∀ i h h' o nw, St i h → h.get? I = some o → h'.get? I = some o → (∀ b o, h₀.get? b = some o → h'.get? b = some o) → News h₀ L h' nw → S nw → St i h')
    (hcell : ∀ y ∈ scope.names, y.2 ≠ .cell) (hkind : scope.kind = .function) (hst : St 0 s₂.heap) (hfp : ∀ b ∈ fp, b < s₂.heap.objs.size)
    (F : Fr h₀ L s₂.heap m) (N : News h₀ L s₂.heap news) (hIL : L ≠ I) (hI₀ : h₀.get? I = none) (off : ∀ p ∈ news, p.1 ≠ I) (hS : S news)
    (R : CRest prog w A h₀ L m env elt ifs scope cl Tg s₂ S P Fin n 0 [] news)
    (hRR : ∀ D C h tk m' ys news', Fr h₀ L h m → News h₀ L h ((D, lst ys) :: news') → Off1 D news' → h.Ns C m' → h₀.get? C = none → h₀.get? D = none → C ≠ L → D ≠ L → C ≠ D → (∀ p ∈ news', p.1 ≠ C) → Fin ys news' → RR (.ref D) C (.ok .next) { s₂ with heap := h, toks := tk }) :
    wpAny (model prog w) A (newList []) (fun acc s₃ => wpAny (model prog w) A (newFunctionEnv scope env.globals cl [] env.qual none .none (some env)) (fun cenv s₄ =>
      codeAny (model prog w) A (.compStart (.ListComp elt [⟨target, iter, ifs, 0⟩] scope pos) 0 (.ref I) acc { cenv with scope := relabel scope env }) (RR acc cenv.locals) s₄) E s₃) E s₂ := by
  refine wpAny_newObj_type (wpAny_newFunctionEnv hcell (by intro y hy; simp at hy) (fun h₁ hns₁ hsb₁ => ?_) hkind)
  dsimp only at hns₁ hsb₁ ⊢
  generalize hH2 : s₂.heap.push { cls := .type "list", dict := none, data := .seq ([] : List Value).toArray } = H2 at hns₁ hsb₁ ⊢
  have hC : H2.objs.size = s₂.heap.objs.size + 1 := by rw [← hH2, Heap.size_push]
  have hDC : s₂.heap.objs.size ≠ H2.objs.size := by rw [hC]; exact Nat.ne_of_lt (Nat.lt_succ_self _)
  have below : ∀ b, b < s₂.heap.objs.size → b ≠ H2.objs.size ∧ b ≠ s₂.heap.objs.size := fun b hb => ⟨by rw [hC]; exact Nat.ne_of_lt (Nat.lt_succ_of_lt hb), Nat.ne_of_lt hb⟩
  have hDf : s₂.heap.objs.size ∉ fp := fun hm => Nat.lt_irrefl _ (hfp _ hm)
  have hCf : H2.objs.size ∉ fp := fun hm => by have := hfp _ hm; rw [hC] at this; exact Nat.lt_irrefl _ (Nat.lt_of_succ_lt this)
  have hIf : I ∈ fp := W.sub I (List.mem_singleton.mpr rfl)
  have hIlt : I < s₂.heap.objs.size := hfp I hIf
  have old : ∀ b o, s₂.heap.get? b = some o → h₁.get? b = some o := fun b o e => hsb₁.extBut b o (below b (Heap.lt_size e)).1 (Heap.get?_push_of_some _ (hH2 ▸ Heap.get?_push_of_some _ e))
  have hacc : h₁.get? s₂.heap.objs.size = some (lst []) := hsb₁.extBut _ _ hDC (Heap.get?_push_of_some _ (hH2 ▸ Heap.get?_push_size _ rfl))
  have hst₁ : St 0 h₁ := W.frame _ _ _ hst fun b _ o e => old b o e
  have fresh : ∀ a, s₂.heap.objs.size ≤ a → s₂.heap.get? a = none := fun a ha => by
    cases e : s₂.heap.get? a with
    | none => rfl
    | some o' => exact absurd (Heap.lt_size e) (Nat.not_lt.mpr ha)
  have fresh₀ : ∀ a, s₂.heap.objs.size ≤ a → h₀.get? a = none := fun a ha => by
    cases e : h₀.get? a with
    | none => rfl
    | some o' => have := F.keep a o' e; rw [fresh a ha] at this; cases this
  have hD₀ : h₀.get? s₂.heap.objs.size = none := fresh₀ _ (Nat.le_refl _)
  have hC₀ : h₀.get? H2.objs.size = none := fresh₀ _ (by rw [hC]; exact Nat.le_succ _)
  have hLlt : L < s₂.heap.objs.size := F.ns.lt
  have hDL : s₂.heap.objs.size ≠ L := Ne.symm (below L hLlt).2
  have hCL : H2.objs.size ≠ L := Ne.symm (below L hLlt).1
  have hCI : I ≠ H2.objs.size := (below I hIlt).1
  have hDI : I ≠ s₂.heap.objs.size := (below I hIlt).2
  have off₀ : Off3 I H2.objs.size s₂.heap.objs.size news := Off3.of fun p hp => ⟨off p hp, (below _ (Heap.lt_size (N p hp).1)).1, (below _ (Heap.lt_size (N p hp).1)).2⟩
  have loop : ∀ s₃ : Shared, s₃ = { s₂ with heap := h₁, toks := s₂.toks + ([] : List (Str × Value)).length } →
      codeAny (model prog w) A (.compLoop (.ListComp elt [⟨target, iter, ifs, 0⟩] scope pos) 0 (.ref I) (.ref s₂.heap.objs.size) (compEnvC scope cl H2.objs.size env))
        (RR (.ref s₂.heap.objs.size) H2.objs.size) s₃ := by
    rintro s₃ rfl
    refine cb_loop
      (CbJ prog w A h₀ L m env elt ifs scope cl Tg s₂ S P Fin St I H2.objs.size s₂.heap.objs.size n) ?_ (n + 1)
      ⟨h₁, _, 0, [], _, news, rfl, Nat.zero_le _, rfl, Nat.le_refl _, hst₁, F.keeps old, hns₁, fun p hp => ?_, off₀, hS, R⟩
    · rintro k s' ⟨h', tk, i, ys, m', news', rfl, hi, rfl, hyl, hst', F', hn', N', off', hS', R'⟩
      by_cases hlt : i < n
      · obtain ⟨j, hj⟩ : ∃ j, n - i = j + 1 := ⟨n - i - 1, by omega⟩
        rw [hj] at R'
        refine W.item i _ _ _ hlt hst' fun v h₂ tk₂ hPv hst₂ hk₂ => ?_
        refine hgo (i + 1) v _ _ _ hst₂ ?_
        have off3 := off'.mem
        have N₂ : News h₀ L h₂ ((s₂.heap.objs.size, lst ys) :: news') := news_but N' hk₂ fun p hp => by
          rcases List.mem_cons.mp hp with rfl | hp
          · exact Ne.symm hDI
          · exact (off3 p hp).1
        refine hasg i v _ H2.objs.size m' news' _ _ hPv hS' (fun p hp => N₂ p (.tail _ hp)) (hn'.at' fun o e => hk₂ _ o (by simpa using Ne.symm hCI) e) fun h₃ tk₃ m₂ hn₃ hTg hs₃ => ?_
        have hst₃ : St (i + 1) h₃ := W.frame _ _ _ hst₂ fun b hb o e => hs₃ b o (fun q => hCf (q ▸ hb)) e
        obtain ⟨oI, heI⟩ := hIo _ _ hst₃
        obtain ⟨oC, heC, hoC⟩ := ns_obj hn₃
        have F₂ := fr_but F' hk₂ hIL hI₀
        have F₃ : Fr h₀ L h₃ m := ⟨F₂.ns.at' fun o e => hs₃ _ o (Ne.symm hCL) e, fun b o e => hs₃ b o (fun q => by rw [q, hC₀] at e; cases e) (F₂.keep b o e), F₂.above⟩
        have N₃ : News h₀ L h₃ ((I, oI) :: (H2.objs.size, oC) :: (s₂.heap.objs.size, lst ys) :: news') := fun p hp => by
          rcases List.mem_cons.mp hp with rfl | hp
          · exact ⟨heI, Ne.symm hIL, hI₀⟩
          · rcases List.mem_cons.mp hp with rfl | hp
            · exact ⟨heC, hCL, hC₀⟩
            · have z := N₂ p hp
              refine ⟨hs₃ _ _ ?_ z.1, z.2⟩
              rcases List.mem_cons.mp hp with rfl | hp
              · exact hDC
              · exact (off3 p hp).2.1
        refine wpAny_mono (R' v I oI H2.objs.size oC s₂.heap.objs.size _ h₃ _ _ hPv hoC hTg F₃ N₃ hS' off' ⟨hCI, hDI, Ne.symm hDC⟩) (fun ok s₃ h₃' => ?_) fun _ _ e => e
        cases ok with
        | true =>
          refine wpAny_mono h₃' (fun y s₄ h₄ => ?_) fun _ _ e => e
          refine compEnd_elim h₄ ?_
          clear h₄
          intro h₄ tk₄ news₄ F₄ N₄ off₄ hS₄ R₄
          have zI := (N₄ (I, oI) List.mem_cons_self).1
          have zC := (N₄ (H2.objs.size, oC) (List.mem_cons_of_mem _ List.mem_cons_self)).1
          have zD := (N₄ (s₂.heap.objs.size, lst ys) (List.mem_cons_of_mem _ (List.mem_cons_of_mem _ List.mem_cons_self))).1
          have N₄' : News h₀ L h₄ news₄ := fun p hp => N₄ p (List.mem_cons_of_mem _ (List.mem_cons_of_mem _ (List.mem_cons_of_mem _ hp)))
          have hst₄ : St (i + 1) h₄ := hSt _ _ _ _ _ hst₃ heI zI F₄.keep N₄' hS₄
          refine append_at (hsz := by show ys.toArray.size ≤ sizeLine; rw [List.size_toArray]; exact Nat.le_trans hyl (Nat.le_trans hi hsz)) zD fun h₅ hs₅ hD₅ => ?_
          have off4 := off₄.mem
          refine ⟨n + 1 - (i + 1), by omega, h₅, tk₄, i + 1, ys ++ [y], _, news₄, rfl, hlt, rfl, by rw [List.length_append, List.length_singleton]; omega, W.frame _ _ _ hst₄ fun b hb o e => hs₅.extBut b o (fun q => hDf (q ▸ hb)) e, F₄.change hs₅ hDL hD₀,
            (hoC.ns zC).sameBut hs₅ (Ne.symm hDC), fun p hp => ?_, off₄, hS₄, ?_⟩
          · rcases List.mem_cons.mp hp with rfl | hp
            · exact ⟨hD₅.trans (congrArg some (lst_snoc ys y)), hDL, hD₀⟩
            · exact ⟨hs₅.extBut _ _ (off4 p hp).2.2 (N₄' p hp).1, (N₄' p hp).2⟩
          · rw [show n - (i + 1) = j by omega]
            exact R₄
        | false =>
          have h₃'' := h₃'
          simp only [Bool.false_eq_true, if_false] at h₃''
          refine compEnd_elim (P := fun z => ∃ k, k < n + 1 - i ∧ CbJ prog w A h₀ L m env elt ifs scope cl Tg s₂ S P Fin St I H2.objs.size s₂.heap.objs.size n k z) h₃'' ?_
          intro h₄ tk₄ news₄ F₄ N₄ off₄ hS₄ R₄
          have zI := (N₄ (I, oI) List.mem_cons_self).1
          have zC := (N₄ (H2.objs.size, oC) (List.mem_cons_of_mem _ List.mem_cons_self)).1
          have N₄' : News h₀ L h₄ news₄ := fun p hp => N₄ p (List.mem_cons_of_mem _ (List.mem_cons_of_mem _ (List.mem_cons_of_mem _ hp)))
          have hst₄ : St (i + 1) h₄ := hSt _ _ _ _ _ hst₃ heI zI F₄.keep N₄' hS₄
          exact ⟨n + 1 - (i + 1), by omega, h₄, tk₄, i + 1, ys, _, news₄, rfl, hlt, rfl, by omega, hst₄, F₄, hoC.ns zC, fun p hp => N₄ p (List.mem_cons_of_mem _ (List.mem_cons_of_mem _ hp)), off₄, hS₄, by rw [show n - (i + 1) = j by omega]; exact R₄⟩
      · obtain rfl : i = n := Nat.le_antisymm hi (Nat.not_lt.mp hlt)
        rw [Nat.sub_self] at R'
        refine W.done _ _ _ hst' fun h₂ tk₂ hk₂ => ?_
        have off3 := off'.mem
        exact hRR _ _ h₂ tk₂ _ ys news' (fr_but F' hk₂ hIL hI₀) (news_but N' hk₂ fun p hp => by
          rcases List.mem_cons.mp hp with rfl | hp
          · exact Ne.symm hDI
          · exact (off3 p hp).1) off'.one (hn'.at' fun o e => hk₂ _ o (by simpa using Ne.symm hCI) e) hC₀ hD₀ hCL hDL (Ne.symm hDC) (fun p hp => (off3 p hp).2.1) R'
    · rcases List.mem_cons.mp hp with rfl | hp
      · exact ⟨hacc, hDL, hD₀⟩
      · exact ⟨old _ _ (N p hp).1, (N p hp).2⟩
  exact codeAny_compStart_list (loop _ rfl) (W.self 0 _ _ _ hst₁ (loop _ rfl))
end
end

/- CC -/
section
open PyProof.Rows.LCg
section
variable {prog : Program} {w : World} {A : Around} {E : Value → Shared → Prop} {s : Shared} {h₀ : Heap} {L : Addr} {m : Str → Option Value} {env : Env}

/-- what the iterated expression must give: a list of the ledger, what is kept, and the turns -/
noncomputable def CSrc (prog : Program) (w : World) (A : Around) (h₀ : Heap) (L : Addr) (m : Str → Option Value) (env : Env) (elt : PySem.Expr) (ifs : List PySem.Expr) (target : PySem.Expr) (scope : Scope) (cl : List (Str × Addr)) (ty : String) (Tg : Value → (Str → Option Value) → Prop)
    (Q : Value → Shared → Prop) (xv : Value) (s₁ : Shared) : Prop :=
  ∃ (ax : Addr) (lo : Obj) (vs : List Value) (k : Nat) (S : List (Addr × Obj) → Prop) (news : List (Addr × Obj)), xv = .ref ax ∧ A.handled = none ∧ Fr h₀ L s₁.heap m ∧ News h₀ L s₁.heap news ∧ lo.cls = .type ty ∧ lo.data = .seq vs.toArray k ∧ vs.length ≤ sizeLine ∧ S news ∧ (∀ nw, S nw → (ax, lo) ∈ nw) ∧
    (∀ (i : Nat) (v : Value) (s' : Shared) (C : Addr) (m' : Str → Option Value) (news' : List (Addr × Obj)) (Q : Unit → Shared → Prop) (E : Value → Shared → Prop), vs[i]? = some v → S news' → News h₀ L s'.heap news' → s'.heap.Ns C m' →
      (∀ h' tk m'', h'.Ns C m'' → Tg v m'' → (∀ c o, c ≠ C → s'.heap.get? c = some o → h'.get? c = some o) → Q () { s' with heap := h', toks := tk }) → wpAny (model prog w) A (assign target (compEnvC scope cl C env) v) Q E s') ∧
    ∀ g : Heap, CRest prog w A h₀ L m env elt ifs scope cl Tg { s₁ with heap := g } S (fun (i : Nat) (v : Value) => vs[i]? = some v) (FinE h₀ L m { s₁ with heap := g } Q) vs.length 0 [] news

theorem comp_list {elt iter target : PySem.Expr} {ifs : List PySem.Expr} {scope : Scope} {cl : List (Str × Addr)} {pos : Pos} {Q : Value → Shared → Prop} (Tg : Value → (Str → Option Value) → Prop) (_F₀ : Fr h₀ L s.heap m)
    (hclos : closureFor scope env = pure cl) (hcell : ∀ y ∈ scope.names, y.2 ≠ .cell) (hkind : scope.kind = .function)
    (hnames : ∀ y ∈ scope.names, y.2 = .local → scope.names.lookup y.1 = some .local)
    (h : wpAny (model prog w) A (eval iter env) (CSrc prog w A h₀ L m env elt ifs target scope cl "list" Tg Q) E s)
    (hs : ∀ x, foldedSetIterable iter env x = pure x := by intro _; rfl) :
    wpAny (model prog w) A (eval (.ListComp elt [⟨target, iter, ifs, 0⟩] scope pos) env) Q E s := by
  rw [eval_ListComp]
  refine wpAny_comprehension_free (use := none) rfl hs hclos hkind hnames (wpAny_mono h (fun xv s₁ h₁ => ?_) fun _ _ e => e)
  obtain ⟨ax, lo, vs, k, S, news, rfl, hh, F, N, hc, hd, hsz, hS, hSk, hasg, R⟩ := h₁
  have hl : s₁.heap.IsList ax vs.toArray := ⟨lo, (N _ (hSk _ hS)).1, hc, k, hd⟩
  have hlt : ax < s₁.heap.objs.size := by obtain ⟨_, e, _⟩ := hl; exact Heap.lt_size e
  have W : Walks prog w A s₁.heap.objs.size [s₁.heap.objs.size, ax] [s₁.heap.objs.size] vs.length (fun (i : Nat) (v : Value) => vs[i]? = some v) (fun i h => h.IsListIter s₁.heap.objs.size ax i ∧ h.IsList ax vs.toArray) := by
    have := Walks.list (prog := prog) (w := w) hh s₁.heap.objs.size ax (Nat.ne_of_lt hlt) vs.toArray
    simpa using this
  refine wpAny_pyIter_list hl ?_
  have up : ∀ b o, s₁.heap.get? b = some o → (s₁.heap.push { cls := .type "list_iterator", data := .fields #[.ref ax, .int 0 0] }).get? b = some o := fun b o e => Heap.get?_push_of_some _ e
  refine cb_block (P := fun (i : Nat) (v : Value) => vs[i]? = some v) (Tg := Tg) (n := vs.length) W hsz (fun i h st => by obtain ⟨o, e, _⟩ := st.1; exact ⟨o, e⟩) (fun i v s Q E st q => letGo_listiter st.1 q) hasg
    (fun i h h' o nw st e e' kp N' S' => ⟨by obtain ⟨o', q, r⟩ := st.1; rw [e] at q; cases q; exact ⟨o, e', r⟩, ⟨lo, (N' _ (hSk _ S')).1, hc, k, hd⟩⟩) hcell hkind ⟨⟨_, Heap.get?_push_size _ rfl, rfl, rfl⟩, hl.push _⟩ (fun b hb => ?_)
    (F.keeps up) (N.grown up) (Nat.ne_of_lt F.ns.lt) (next_is_new F) (fun p hp => Nat.ne_of_lt (Heap.lt_size (N p hp).1)) hS (R _) ?_
  · show b < (s₁.heap.push _).objs.size
    rw [Heap.size_push]
    rcases List.mem_cons.mp hb with rfl | hb
    · exact Nat.lt_succ_self _
    · rw [List.mem_singleton.mp hb]; exact Nat.lt_succ_of_lt hlt
  · intro D C h tk m' ys news' F' N' o1 hn hC₀ hD₀ hCL hDL hCD offC fin
    refine ⟨m', hn, fun h'' hs'' => fin D h'' tk (F'.change hs'' hCL hC₀) (fun p hp => ?_) o1⟩
    refine ⟨hs''.extBut _ _ ?_ (N' p hp).1, (N' p hp).2⟩
    rcases List.mem_cons.mp hp with rfl | hp
    · exact Ne.symm hCD
    · exact offC p hp

theorem comp_tuple {elt iter target : PySem.Expr} {ifs : List PySem.Expr} {scope : Scope} {cl : List (Str × Addr)} {pos : Pos} {Q : Value → Shared → Prop} (Tg : Value → (Str → Option Value) → Prop) (_F₀ : Fr h₀ L s.heap m)
    (hclos : closureFor scope env = pure cl) (hcell : ∀ y ∈ scope.names, y.2 ≠ .cell) (hkind : scope.kind = .function)
    (hnames : ∀ y ∈ scope.names, y.2 = .local → scope.names.lookup y.1 = some .local)
    (h : wpAny (model prog w) A (eval iter env) (CSrc prog w A h₀ L m env elt ifs target scope cl "tuple" Tg Q) E s)
    (hs : ∀ x, foldedSetIterable iter env x = pure x := by intro _; rfl) :
    wpAny (model prog w) A (eval (.ListComp elt [⟨target, iter, ifs, 0⟩] scope pos) env) Q E s := by
  rw [eval_ListComp]
  refine wpAny_comprehension_free (use := none) rfl hs hclos hkind hnames (wpAny_mono h (fun xv s₁ h₁ => ?_) fun _ _ e => e)
  obtain ⟨ax, lo, vs, k, S, news, rfl, hh, F, N, hc, hd, hsz, hS, hSk, hasg, R⟩ := h₁
  have hl : s₁.heap.IsTuple ax vs.toArray := ⟨lo, (N _ (hSk _ hS)).1, hc, k, hd⟩
  have hlt : ax < s₁.heap.objs.size := by obtain ⟨_, e, _⟩ := hl; exact Heap.lt_size e
  have W : Walks prog w A s₁.heap.objs.size [s₁.heap.objs.size, ax] [s₁.heap.objs.size] vs.length (fun (i : Nat) (v : Value) => vs[i]? = some v) (fun i h => h.IsTupleIter s₁.heap.objs.size ax i ∧ h.IsTuple ax vs.toArray) := by
    have := Walks.tuple (prog := prog) (w := w) hh s₁.heap.objs.size ax (Nat.ne_of_lt hlt) vs.toArray
    simpa using this
  refine wpAny_pyIter_tuple hl ?_
  have up : ∀ b o, s₁.heap.get? b = some o → (s₁.heap.push { cls := .type "tuple_iterator", data := .fields #[.ref ax, .int 0 0] }).get? b = some o := fun b o e => Heap.get?_push_of_some _ e
  refine cb_block (P := fun (i : Nat) (v : Value) => vs[i]? = some v) (Tg := Tg) (n := vs.length) W hsz (fun i h st => by obtain ⟨o, e, _⟩ := st.1; exact ⟨o, e⟩) (fun i v s Q E st q => letGo_tupleiter st.1 q) hasg
    (fun i h h' o nw st e e' kp N' S' => ⟨by obtain ⟨o', q, r⟩ := st.1; rw [e] at q; cases q; exact ⟨o, e', r⟩, ⟨lo, (N' _ (hSk _ S')).1, hc, k, hd⟩⟩) hcell hkind ⟨⟨_, Heap.get?_push_size _ rfl, rfl, rfl⟩, let ⟨o, ho, r⟩ := hl; ⟨o, up _ _ ho, r⟩⟩ (fun b hb => ?_)
    (F.keeps up) (N.grown up) (Nat.ne_of_lt F.ns.lt) (next_is_new F) (fun p hp => Nat.ne_of_lt (Heap.lt_size (N p hp).1)) hS (R _) ?_
  · show b < (s₁.heap.push _).objs.size
    rw [Heap.size_push]
    rcases List.mem_cons.mp hb with rfl | hb
    · exact Nat.lt_succ_self _
    · rw [List.mem_singleton.mp hb]; exact Nat.lt_succ_of_lt hlt
  · intro D C h tk m' ys news' F' N' o1 hn hC₀ hD₀ hCL hDL hCD offC fin
    refine ⟨m', hn, fun h'' hs'' => fin D h'' tk (F'.change hs'' hCL hC₀) (fun p hp => ?_) o1⟩
    refine ⟨hs''.extBut _ _ ?_ (N' p hp).1, (N' p hp).2⟩
    rcases List.mem_cons.mp hp with rfl | hp
    · exact Ne.symm hCD
    · exact offC p hp

theorem assign_name {x : Str} {px : Pos} {scope : Scope} {cl : List (Str × Addr)} {v : Value} (hkind : scope.kind = .function) (hx : scope.names.lookup x = some .local) {s' : Shared} {C : Addr} {m' : Str → Option Value} {Q : Unit → Shared → Prop} {E : Value → Shared → Prop} (hn : s'.heap.Ns C m')
    (h : ∀ h' tk m'', h'.Ns C m'' → m'' x = some v → (∀ c o, c ≠ C → s'.heap.get? c = some o → h'.get? c = some o) → Q () { s' with heap := h', toks := tk }) : wpAny (model prog w) A (assign (.Name x px) (compEnvC scope cl C env) v) Q E s' :=
  wpAny_assign_Name (wpAny_storeName_local (lookup_relabel_local hx) hn (fun h' hn' hs' => h h' _ _ hn' (by simp) fun c o hc e => hs'.extBut c o hc e) (by simp [compEnvC, relabel, hkind]))
theorem assign_pair {a b : Str} {pa pb tp : Pos} {kk : Nat} {scope : Scope} {cl : List (Str × Addr)} {T : Addr} {x y : Value} (hh : A.handled = none) (hkind : scope.kind = .function) (ha : scope.names.lookup a = some .local) (hb : scope.names.lookup b = some .local) (hab : ¬ a = b)
    {s' : Shared} {C : Addr} {m' : Str → Option Value} {Q : Unit → Shared → Prop} {E : Value → Shared → Prop} (hT : s'.heap.IsTuple T #[x, y]) (hn : s'.heap.Ns C m')
    (h : ∀ h' tk m'', h'.Ns C m'' → (m'' a = some x ∧ m'' b = some y) → (∀ c o, c ≠ C → s'.heap.get? c = some o → h'.get? c = some o) → Q () { s' with heap := h', toks := tk }) :
    wpAny (model prog w) A (assign (.Tuple [.Name a pa, .Name b pb] kk tp) (compEnvC scope cl C env) (.ref T)) Q E s' :=
  kcp_assign (env := compEnvC scope cl C env) hh hT (lookup_relabel_local ha) (lookup_relabel_local hb) (by simp [compEnvC, relabel, hkind]) hn fun h' tk hn' hk => h h' tk _ hn' ⟨by simp [hab], by simp⟩ hk

theorem ne_nil_list {news : List (Addr × Obj)} {a b : Addr} {lo lo2 : Obj} {vs : List Value} {k k2 : Nat} {Q : Value → Shared → Prop} (N : News h₀ L s.heap news) (h1 : (a, lo) ∈ news) (c1 : lo.cls = .type "list") (d1 : lo.data = .seq vs.toArray k)
    (h2 : (b, lo2) ∈ news) (c2 : lo2.cls = .type "list") (d2 : lo2.data = .seq ([] : List Value).toArray k2) (hu : A.units < cLine) (h : Q (.bool (!vs.isEmpty)) s) :
    wpAny (model prog w) A (compareOp .NotEq (.ref a) (.ref b)) Q E s := by
  have l1 : s.heap.IsList a vs.toArray := ⟨lo, (N _ h1).1, c1, k, d1⟩
  have l2 : s.heap.IsList b ([] : List Value).toArray := ⟨lo2, (N _ h2).1, c2, k2, d2⟩
  cases vs with
  | nil => exact PySem.SeqAt.RcNeAt.lists (e := fun _ => true) l1 l2 rfl hu (fun j h1 => absurd h1 (by simp)) prog w E Q h
  | cons v r => exact PySem.SeqAt.RcNeAt.lists_lengths l1 l2 (by simp) hu prog w E Q h
end
end

/- F12 -/
section

theorem bits_fmod (g y : Int) : Builtin.Int.intBits ([g, y.fmod 2147483647].getD (Int.toNat 1) 0) ≤ 64 := by
  show Builtin.Int.intBits (y.fmod 2147483647) ≤ 64
  have h1 := Int.fmod_nonneg_of_pos y (show (0 : Int) < 2147483647 by decide)
  have h2 := Int.fmod_lt_of_pos y (show (0 : Int) < 2147483647 by decide)
  exact PySem.intBits_le_64 (by omega) (by omega)
local macro_rules | `(tactic| mul_fits) => `(tactic| exact PySem.IntMulOk.of_right (bits_fmod _ _))
theorem take_spec (w : World) (src : Addr) (g x : Int) (t1 t2 t3 : Tok) (n : Nat) (top : Int) (rs : List (Addr × Obj)) (hall : ∀ p ∈ rs, p.1 ≠ src)
    (hg : 0 ≤ g) (hx : 0 ≤ x) (h1 : 1 ≤ top) (h8 : top ≤ 8) :
    Spec w 293 1 8 [.ref src, .int top t3] ((src, listOf #[.int g t1, .int x t2] n) :: rs)
      (fun r news' => ∃ g' x' t1' t2' n' d tk, 0 ≤ g' ∧ 0 ≤ x' ∧ 0 ≤ d ∧ d < top ∧ news' = (src, listOf #[.int g' t1', .int x' t2'] n') :: rs ∧ r = .int d tk) := by
  unfold Spec
  refine fill w ?_
  k_fill
  intro _ _
  intro mean mg mb dp un gd cn cs a ccd cl outer A₀ base h₀ L m s Q E H F N hk hd hu hret
  obtain ⟨B, X, T, BO⟩ := H
  have hU := UpdF.head (d := src) (o := listOf #[.int g t1, .int x t2] n) hall
  have hm : (src, listOf #[.int g t1, .int x t2] n) ∈ (src, listOf #[.int g t1, .int x t2] n) :: rs := .head _
  k_dflt cell_enter
  ktr_step
  · exact hret _ _ _ _ (by assumption) (by assumption) ⟨_, _, _, _, _, _, _, Int.fdiv_nonneg hg (by omega), hx, Int.fmod_nonneg_of_pos _ (by omega), Int.fmod_lt_of_pos _ (by omega), rfl, rfl⟩
  · exact hret _ _ _ _ (by assumption) (by assumption) ⟨_, _, _, _, _, _, _, hg, Int.fmod_nonneg_of_pos _ (by decide), Int.fmod_nonneg_of_pos _ (by omega), Int.fmod_lt_of_pos _ (by omega), rfl, rfl⟩
end

/- F13 -/
section

theorem one_len {prog : Program} {w : World} {A : Around} {s : Shared} {E : Value → Shared → Prop} {h₀ : Heap} {L : Addr} {news : List (Addr × Obj)} {a : Addr} {lo : Obj} {vs : List Value} {k : Nat} {Q : Value → Shared → Prop}
    (N : News h₀ L s.heap news) (hm : (a, lo) ∈ news) (hc : lo.cls = .type "list") (hd : lo.data = .seq vs.toArray k) (hz : vs.length ≤ 8) (h : ∀ t t', Q (.int (vs.length : Nat) t) { s with toks := t' }) : wpAny (model prog w) A (call (.builtin "len") [.ref a]) Q E s := by
  refine PyProof.Rows.len_list ⟨lo, (N _ hm).1, hc, k, hd⟩ (by simp; omega) ?_
  simpa using h _ _
theorem one_item {prog : Program} {w : World} {A : Around} {s : Shared} {E : Value → Shared → Prop} {h₀ : Heap} {L : Addr} {news : List (Addr × Obj)} {a : Addr} {lo : Obj} {vs : List Value} {k : Nat} {d : Int} {u : Tok} {value slice : PySem.Expr} {Q : Value → Shared → Prop}
    (N : News h₀ L s.heap news) (hm : (a, lo) ∈ news) (hc : lo.cls = .type "list") (hd : lo.data = .seq vs.toArray k) (h0 : 0 ≤ d) (h1 : d < (vs.length : Nat)) (hz : vs.length ≤ 8) (h : ∀ x, x ∈ vs → Q x s)
    (hs : subscripted slice false (.ref a) (.int d u) = operate [.ref a, .int d u] (getItem (.ref a) (.int d u)) := by with_unfolding_all rfl) (hg : ∀ r, letTemporaryGo value (.ref a) r = pure () := by intro _; with_unfolding_all rfl) :
    wpAny (model prog w) A (subscriptTail value slice (.ref a) (.int d u)) Q E s := by
  have hlt : d.toNat < vs.length := by omega
  exact PyProof.Rows.item_listL (l := vs) ⟨lo, (N _ hm).1, hc, k, hd⟩ h0 (by omega) (List.getElem?_eq_getElem hlt) (h _ (List.getElem_mem hlt)) hs hg

theorem one_spec (w : World) (src th : Addr) (g x : Int) (t1 t2 : Tok) (n : Nat) (lo : Obj) (vs : List Value) (k : Nat) (rs : List (Addr × Obj)) (hall : ∀ p ∈ rs, p.1 ≠ src)
    (hg : 0 ≤ g) (hx : 0 ≤ x) (hm : (th, lo) ∈ rs) (hc : lo.cls = .type "list") (hdt : lo.data = .seq vs.toArray k) (h1 : 1 ≤ vs.length) (h8 : vs.length ≤ 8) :
    Spec w 300 2 16 [.ref src, .ref th] ((src, listOf #[.int g t1, .int x t2] n) :: rs)
      (fun r news' => ∃ g' x' t1' t2' n', 0 ≤ g' ∧ 0 ≤ x' ∧ news' = (src, listOf #[.int g' t1', .int x' t2'] n') :: rs ∧ r ∈ vs) := by
  have h1' : (1 : Int) ≤ (vs.length : Nat) := by omega
  have h8' : ((vs.length : Nat) : Int) ≤ 8 := by omega
  unfold Spec
  refine fill w ?_
  k_fill
  intro _ _
  intro mean mg mb dp un gd cn cs a ccd cl outer A₀ base h₀ L m s Q E H F N hk hd hu hret
  obtain ⟨B, X, T, BO⟩ := H
  k_dflt cell_enter
  repeat' (first | ((fail_if_success (with_reducible show wpAny _ _ (exec (Stmt.While _ _ _ _) _) _ _ _)); (fail_if_success (with_reducible show wpAny _ _ (exec (Stmt.For _ _ _ _ _) _) _ _ _)); (first | ((with_reducible show wpAny _ _ (exec _ _) _ _ _); k_fold) | (k_unfold; (try dsimp only)) | (k_end; wrow_close) | (first | ((with_reducible show wpAny _ _ (call (Value.ref _) _) _ _ _); (k_here; k_dflt (refine' Spec.use2 (by k_asm) (by k_asm) (by k_asm) (by k_asm) (by k_asm) (by k_asm) (by first | exact rfl | assumption) (by ktr_room) (by ktr_units) (take_spec _ _ _ _ _ _ _ _ _ _ (by assumption) (by assumption) (by assumption) (by omega) (by omega)) ?_; k_whole); intro z_r9 z_h9 z_tk9 z_n9 z_F9 z_N9 z_P9; obtain ⟨z_g9, z_x9, z_a9, z_b9, z_c9, z_d9, z_e9, z_p1, z_p2, z_p3, z_p4, z_e1, z_e2⟩ := z_P9; subst z_e1 z_e2; (try dsimp only); (try k_sweep); (try k_fold))) | ((with_reducible show wpAny _ _ (subscriptTail _ _ _ _) _ _ _); (k_here; k_dflt (refine' one_item (by k_asm) (by k_mem) (by assumption) (by assumption) (by assumption) (by assumption) (by assumption) ?_; k_whole); intro z_x9 z_hx9)) | ((with_reducible show wpAny _ _ (call (Value.builtin "len") _) _ _ _); (k_here; k_dflt (refine' one_len (by k_asm) (by k_mem) (by assumption) (by assumption) (by assumption) ?_; k_whole); intro z_t9 z_t8)) | walk1) | (dsimp only; walk1) | (leave1; (try dsimp only)))))
  all_goals exact hret _ _ _ _ (by assumption) (by assumption) ⟨_, _, _, _, _, by assumption, by assumption, rfl, by assumption⟩
end

local macro_rules | `(tactic| walk_at "call ref") => `(tactic| (k_here; k_dflt (refine' Spec.use2 (by k_asm) (by k_asm) (by k_asm) (by k_asm) (by k_asm) (by k_asm) (by first | exact rfl | assumption) (by ktr_room) (by ktr_units) (joined_spec _ _ _ _ _ _ (by assumption) (by assumption)) ?_; k_whole); intro r9 h9 tk9 n9 F9 N9 P9; obtain ⟨e9, tk8, e8⟩ := P9; subst e9 e8; (try dsimp only); (try k_sweep); (try k_fold)))

/- F10 -/
section
open PyProof.Rows.LCg


local macro_rules | `(tactic| cell_enter) => `(tactic| (refine' code_defC ?k1 ?k2 ?k3 ?k4 ?k5 ?kA ?kF ?kK ?k6 ?k7 ?k8 ?k9 ?kB ?kD ?_ ?c2 ?c3 ?c4; (case kA => exact rfl); (case kF => exact rfl); (case kK => assumption); (case k1 => k_asm); (case k2 => k_asm); (case k3 => k_asm); (case k4 => k_asm); (case k5 => k_asm); (case k6 => k_is); (case k7 => k_is); (case k8 => ktr_room); (case k9 => first | exact BindsTo.of_eq rfl | exact binds_K (by k_in) rfl (by k_is) rfl rfl rfl); (case kB => exact rfl); (case kD => decide +kernel); (case c2 => exact rfl); (case c3 => exact rfl); (case c4 => exact rfl); k_whole; intro g' L' h' tk' cells' FG' F' N' Y' B' X' T' l1; (try k_lt l1); k_cells Y'; (try dsimp only [List.cons_append, List.nil_append] at N'); (try dsimp only); (try k_lift B'); (try k_fold)))
theorem csrc_keep {prog : Program} {w : World} {A : Around} {h₀ : Heap} {L : Addr} {m : Str → Option Value} {env : Env} {elt : PySem.Expr} {ifs : List PySem.Expr} {target : PySem.Expr} {scope : Scope} {cl : List (Str × Addr)} {ty : String} {Tg : Value → (Str → Option Value) → Prop} {Q : Value → Shared → Prop} {s₁ : Shared} {ax : Addr} {lo : Obj} {vs : List Value} {k : Nat} {news : List (Addr × Obj)}
    (hh : A.handled = none) (F : Fr h₀ L s₁.heap m) (N : News h₀ L s₁.heap news) (hm : (ax, lo) ∈ news) (hc : lo.cls = .type ty) (hd : lo.data = .seq vs.toArray k) (hsz : vs.length ≤ sizeLine)
    (hasg : ∀ (i : Nat) (v : Value) (s' : Shared) (C : Addr) (m' : Str → Option Value) (news' : List (Addr × Obj)) (Q : Unit → Shared → Prop) (E : Value → Shared → Prop), vs[i]? = some v → (∀ p ∈ news, p ∈ news') → News h₀ L s'.heap news' → s'.heap.Ns C m' →
      (∀ h' tk m'', h'.Ns C m'' → Tg v m'' → (∀ c o, c ≠ C → s'.heap.get? c = some o → h'.get? c = some o) → Q () { s' with heap := h', toks := tk }) → wpAny (model prog w) A (assign target (compEnvC scope cl C env) v) Q E s')
    (h : ∀ g : Heap, CRest prog w A h₀ L m env elt ifs scope cl Tg { s₁ with heap := g } (fun nw => ∀ p ∈ news, p ∈ nw) (fun (i : Nat) (v : Value) => vs[i]? = some v) (FinE h₀ L m { s₁ with heap := g } Q) vs.length 0 [] news) :
    CSrc prog w A h₀ L m env elt ifs target scope cl ty Tg Q (.ref ax) s₁ :=
  ⟨ax, lo, vs, k, fun nw => ∀ p ∈ news, p ∈ nw, news, rfl, hh, F, N, hc, hd, hsz, fun _ h => h, fun nw hS => hS _ hm, hasg, h⟩
theorem taken_spec (w : World) (tb td ty va us sp : Addr) (k1 k2 k3 u : Tok) (n : Nat) (nm : Str) (t1 : Tok) (isT : Bool) (oT oV oU : Obj) (kvT kvV : List (Str × Value)) (news : List (Addr × Obj))
    (htb : (tb, instObj 142 td) ∈ news) (htd : (td, dictOf (tabDict w k1 k2 k3 ty va us) n) ∈ news) (hT : (ty, oT) ∈ news) (hV : (va, oV) ∈ news) (hU : (us, oU) ∈ news) (hsp : (sp, tupObj [.str (if isT then Str.ofString "type" else Str.ofString "value") u]) ∈ news)
    (lT : (ty == sysModules) = false) (lV : (va == sysModules) = false) (lU : (us == sysModules) = false)
    (dT : oT.IsDictOf (kS w) kvT) (dV : oV.IsDictOf (kS w) kvV) (dU : oU.IsDictOf (kS w) []) (hno : valueAt (if isT then kvT else kvV) nm = none) (hz : kvT.length ≤ 100 ∧ kvV.length ≤ 100) :
    Spec w 139 3 40 [.ref tb, .str nm t1, .ref sp] news (fun r news' => (∀ p ∈ news, p ∈ news') ∧ r = .bool false) := by
  obtain ⟨hz1, hz2⟩ := hz
  unfold Spec
  refine fill w ?_
  k_fill
  intro _ _
  intro mean mg mb dp un gd cn cs a ccd cl outer A₀ base h₀ L m s Q E H F N hk hd hu hret
  obtain ⟨B, X, T, BO⟩ := H
  have hU0 : (valueAt ([] : List (Str × Value)) nm).isSome = false := rfl
  have hno' : (valueAt (if isT then kvT else kvV) nm).isSome = false := by rw [hno]; rfl
  cases isT
  all_goals simp only [if_true, if_false, Bool.false_eq_true] at hsp hno hno'
  all_goals k_dflt cell_enter
  all_goals repeat' (first | ((fail_if_success (with_reducible show wpAny _ _ (exec (Stmt.While _ _ _ _) _) _ _ _)); (fail_if_success (with_reducible show wpAny _ _ (exec (Stmt.For _ _ _ _ _) _) _ _ _)); (first | ((with_reducible show wpAny _ _ (exec _ _) _ _ _); k_fold) | (k_unfold; (try dsimp only)) | (k_end; wrow_close) | (first | ((with_reducible show wpAny _ _ (compareOp CmpOp.NotEq (Value.ref _) (Value.ref _)) _ _ _); (k_here; k_dflt (refine' ne_nil_list (by k_asm) (by k_mem) (by exact rfl) (by exact rfl) (by k_mem) (by exact rfl) (by exact rfl) (by ktr_units) ?_; k_whole); (try dsimp only [List.isEmpty]))) | ((with_reducible show wpAny _ _ (eval (PySem.Expr.ListComp _ _ _ _) _) _ _ _); (k_here; k_dflt (refine comp_tuple (fun v m₂ => m₂ (Str.ofString "space") = some v) (by k_asm) (by with_unfolding_all rfl) (by decide) (by rfl) (by decide) ?_))) | ((with_reducible show wpAny _ _ (compareOp CmpOp.In (Value.str _ _) (Value.ref _)) _ _ _); (k_here; k_dflt (refine' kda_in (knd := PySem.strKind _ _) (by k_asm) (by k_mem) (by assumption) (by assumption) (by exact strKind_is _ _ _ _) ?b (by first | assumption | exact rfl) ?_; k_whole))) | ((with_reducible show wpAny _ _ (subscriptTail _ _ _ _) _ _ _); (k_here; (with_reducible show wpAny _ _ (subscriptTail _ _ (Value.ref _) (Value.str _ _)) _ _ _); k_dflt (refine kda_item (knd := PySem.strKind _ _) (by k_asm) (by k_mem) (by assumption) (strKind_is _ _ _ _) (by assumption) ?_))) | walk1) | (dsimp only; walk1) | (leave1; (try dsimp only)))))
  all_goals
    refine csrc_keep (by rfl) (by k_asm) (by k_asm) (by k_mem) rfl rfl (Nat.le_of_ble_eq_true rfl) (fun i v s' C m' news' Q E hv hS hN hn k => assign_name (by rfl) (by rfl) hn k) fun g => ?_
    intro v I oI C oC D m₂ h tk E' hP hC hTg lF lN hS hoff hne
    obtain rfl := Option.some.inj hP
    refine wpAny_tests_one ?_
    repeat' (first | ((fail_if_success (with_reducible show wpAny _ _ (exec (Stmt.While _ _ _ _) _) _ _ _)); (fail_if_success (with_reducible show wpAny _ _ (exec (Stmt.For _ _ _ _ _) _) _ _ _)); (first | ((with_reducible show wpAny _ _ (exec _ _) _ _ _); k_fold) | (k_unfold; (try dsimp only)) | (k_end; wrow_close) | (first | ((with_reducible show wpAny _ _ (compareOp CmpOp.NotEq (Value.ref _) (Value.ref _)) _ _ _); (k_here; k_dflt (refine' ne_nil_list (by k_asm) (by k_mem) (by exact rfl) (by exact rfl) (by k_mem) (by exact rfl) (by exact rfl) (by ktr_units) ?_; k_whole); (try dsimp only [List.isEmpty]))) | ((with_reducible show wpAny _ _ (eval (PySem.Expr.ListComp _ _ _ _) _) _ _ _); (k_here; k_dflt (refine comp_tuple (fun v m₂ => m₂ (Str.ofString "space") = some v) (by k_asm) (by with_unfolding_all rfl) (by decide) (by rfl) (by decide) ?_))) | ((with_reducible show wpAny _ _ (compareOp CmpOp.In (Value.str _ _) (Value.ref _)) _ _ _); (k_here; k_dflt (refine' kda_in (knd := PySem.strKind _ _) (by k_asm) (by k_mem) (by assumption) (by assumption) (by exact strKind_is _ _ _ _) ?b (by first | assumption | exact rfl) ?_; k_whole))) | ((with_reducible show wpAny _ _ (subscriptTail _ _ _ _) _ _ _); (k_here; (with_reducible show wpAny _ _ (subscriptTail _ _ (Value.ref _) (Value.str _ _)) _ _ _); k_dflt (refine kda_item (knd := PySem.strKind _ _) (by k_asm) (by k_mem) (by assumption) (strKind_is _ _ _ _) (by assumption) ?_))) | walk1) | (dsimp only; walk1) | (leave1; (try dsimp only)))))
    refine CompEnd.intro (by k_asm) (by k_asm) _ (fun p hp => hp) hoff hS ?_
    intro D' h' tk' F' N' o1'
    repeat' (first | ((fail_if_success (with_reducible show wpAny _ _ (exec (Stmt.While _ _ _ _) _) _ _ _)); (fail_if_success (with_reducible show wpAny _ _ (exec (Stmt.For _ _ _ _ _) _) _ _ _)); (first | ((with_reducible show wpAny _ _ (exec _ _) _ _ _); k_fold) | (k_unfold; (try dsimp only)) | (k_end; wrow_close) | (first | ((with_reducible show wpAny _ _ (compareOp CmpOp.NotEq (Value.ref _) (Value.ref _)) _ _ _); (k_here; k_dflt (refine' ne_nil_list (by k_asm) (by k_mem) (by exact rfl) (by exact rfl) (by k_mem) (by exact rfl) (by exact rfl) (by ktr_units) ?_; k_whole); (try dsimp only [List.isEmpty]))) | ((with_reducible show wpAny _ _ (eval (PySem.Expr.ListComp _ _ _ _) _) _ _ _); (k_here; k_dflt (refine comp_tuple (fun v m₂ => m₂ (Str.ofString "space") = some v) (by k_asm) (by with_unfolding_all rfl) (by decide) (by rfl) (by decide) ?_))) | ((with_reducible show wpAny _ _ (compareOp CmpOp.In (Value.str _ _) (Value.ref _)) _ _ _); (k_here; k_dflt (refine' kda_in (knd := PySem.strKind _ _) (by k_asm) (by k_mem) (by assumption) (by assumption) (by exact strKind_is _ _ _ _) ?b (by first | assumption | exact rfl) ?_; k_whole))) | ((with_reducible show wpAny _ _ (subscriptTail _ _ _ _) _ _ _); (k_here; (with_reducible show wpAny _ _ (subscriptTail _ _ (Value.ref _) (Value.str _ _)) _ _ _); k_dflt (refine kda_item (knd := PySem.strKind _ _) (by k_asm) (by k_mem) (by assumption) (strKind_is _ _ _ _) (by assumption) ?_))) | walk1) | (dsimp only; walk1) | (leave1; (try dsimp only)))))
  all_goals exact hret _ _ _ _ (by assumption) (by assumption) ⟨fun p hp => .tail _ (.tail _ (.tail _ (.tail _ hp))), rfl⟩
structure TakenHyp (w : World) (news : List (Addr × Obj)) (tb sp : Addr) (nm : Str) (isT : Bool) : Prop where
  all : ∃ td ty va us k1 k2 k3 u n oT oV oU kvT kvV, (tb, instObj 142 td) ∈ news ∧ (td, dictOf (tabDict w k1 k2 k3 ty va us) n) ∈ news ∧ (ty, oT) ∈ news ∧ (va, oV) ∈ news ∧ (us, oU) ∈ news ∧ (sp, tupObj [.str (if isT then Str.ofString "type" else Str.ofString "value") u]) ∈ news ∧
    (ty == sysModules) = false ∧ (va == sysModules) = false ∧ (us == sysModules) = false ∧ oT.IsDictOf (kS w) kvT ∧ oV.IsDictOf (kS w) kvV ∧ oU.IsDictOf (kS w) [] ∧ valueAt (if isT then kvT else kvV) nm = none ∧ kvT.length ≤ 100 ∧ kvV.length ≤ 100
theorem TakenHyp.mono {w : World} {l l' : List (Addr × Obj)} {tb sp : Addr} {nm : Str} {isT : Bool} (H : TakenHyp w l tb sp nm isT) (h : ∀ p ∈ l, p ∈ l') : TakenHyp w l' tb sp nm isT := by
  obtain ⟨td, ty, va, us, k1, k2, k3, u, n, oT, oV, oU, kvT, kvV, a1, a2, a3, a4, a5, a6, r⟩ := H
  exact ⟨td, ty, va, us, k1, k2, k3, u, n, oT, oV, oU, kvT, kvV, h _ a1, h _ a2, h _ a3, h _ a4, h _ a5, h _ a6, r⟩
theorem taken_spec2 (w : World) (tb sp : Addr) (nm : Str) (t1 : Tok) (isT : Bool) (news : List (Addr × Obj)) (H : TakenHyp w news tb sp nm isT) :
    Spec w 139 3 40 [.ref tb, .str nm t1, .ref sp] news (fun r news' => (∀ p ∈ news, p ∈ news') ∧ r = .bool false) := by
  obtain ⟨td, ty, va, us, k1, k2, k3, u, n, oT, oV, oU, kvT, kvV, a1, a2, a3, a4, a5, a6, l1, l2, l3, d1, d2, d3, hno, hz⟩ := H
  exact taken_spec w tb td ty va us sp k1 k2 k3 u n nm t1 isT oT oV oU kvT kvV news a1 a2 a3 a4 a5 a6 l1 l2 l3 d1 d2 d3 hno hz
end

/- F14 -/
section

theorem ne_nil_ground {prog : Program} {w : World} {A : Around} {s : Shared} {E : Value → Shared → Prop} {h₀ : Heap} {L : Addr} {news : List (Addr × Obj)} {a b : Addr} {lo2 : Obj} {vs : List Value} {k2 : Nat} {Q : Value → Shared → Prop} (l1 : s.heap.IsList a vs.toArray) (N : News h₀ L s.heap news)
    (h2 : (b, lo2) ∈ news) (c2 : lo2.cls = .type "list") (d2 : lo2.data = .seq ([] : List Value).toArray k2) (hu : A.units < cLine) (h : Q (.bool (!vs.isEmpty)) s) :
    wpAny (model prog w) A (compareOp .NotEq (.ref a) (.ref b)) Q E s := by
  have l2 : s.heap.IsList b ([] : List Value).toArray := ⟨lo2, (N _ h2).1, c2, k2, d2⟩
  cases vs with
  | nil => exact PySem.SeqAt.RcNeAt.lists (e := fun _ => true) l1 l2 rfl hu (fun j h1 => absurd h1 (by simp)) prog w E Q h
  | cons v r => exact PySem.SeqAt.RcNeAt.lists_lengths l1 l2 (by simp) hu prog w E Q h
theorem item0_ground {prog : Program} {w : World} {A : Around} {s : Shared} {E : Value → Shared → Prop} {a : Addr} {v : Value} {vs : List Value} {u : Tok} {value slice : PySem.Expr} {Q : Value → Shared → Prop}
    (l1 : s.heap.IsList a (v :: vs).toArray) (h : Q v s)
    (hs : subscripted slice false (.ref a) (.int 0 u) = operate [.ref a, .int 0 u] (getItem (.ref a) (.int 0 u)) := by with_unfolding_all rfl) (hg : ∀ r, letTemporaryGo value (.ref a) r = pure () := by intro _; with_unfolding_all rfl) :
    wpAny (model prog w) A (subscriptTail value slice (.ref a) (.int 0 u)) Q E s := PyProof.Rows.item_listL (l := v :: vs) l1 (by decide) (by decide) rfl h hs hg
theorem allLt_all {d : Nat} : ∀ {l : List (Addr × Obj)}, AllLt d l → ∀ p ∈ l, p.1 ≠ d
  | [], _, p, hp => by cases hp
  | q :: r, h, p, hp => by
    rcases List.mem_cons.mp hp with rfl | hp
    · exact Nat.ne_of_lt h.1
    · exact allLt_all h.2 p hp
theorem great_nn (n : Int) : 0 ≤ (if -1 - n > n then -1 - n else n) := by split <;> omega
theorem pool_spec (w : World) (sc : Addr) (vs : List Value) (ns : List Int) (hi : IntsAre vs ns) (hz : ns.length ≤ 63) (news : List (Addr × Obj))
    (mean : ExcName → Option Value) (mg mb : Str → Option Value) (dp un : Nat) (gd : Option (List Code)) (cn : Str) (cs : Scope) (a : Addr) (ccd : Value) (cl : List (Str × Addr)) (outer : List Env) (A₀ : Around) (base h₀ : Heap) (L : Addr) (m : Str → Option Value) (s : Shared)
    (Q E : Value → Shared → Prop) (hsc : h₀.IsList sc vs.toArray)
    (H : Here w mean mg mb A₀ base h₀ outer) (F : Fr h₀ L s.heap m) (N : News h₀ L s.heap news) (hk : cs.kind = .function) (hd : dp + 2 < recursionLimit) (hu : un + 80 < cLine)
    (hret : ∀ r h' tk' news', Fr h₀ L h' m → News h₀ L h' news' → (∃ D g x t1 t2 n, 0 ≤ g ∧ 0 ≤ x ∧ r = .ref D ∧ news' = (D, listOf #[.int g t1, .int x t2] n) :: news ∧ ∀ p ∈ news, p.1 ≠ D) → Q r { s with heap := h', toks := tk' }) :
    codeAny (model Challenge.rw_up0052_01.row.prog w) (ktrTop dp un gd cn cs L a ccd cl outer) (.call (.ref 286) ⟨[.ref sc], []⟩) (Back Q E) s := by
  revert hret hu hd hk N F H hsc
  refine fill w ?_
  k_fill
  intro _ _
  intro hsc H F N hk hd hu hret
  obtain ⟨B, X, T, BO⟩ := H
  cases hi with
  | nil =>
    k_dflt cell_enter
    repeat' (first | ((fail_if_success (with_reducible show wpAny _ _ (exec (Stmt.While _ _ _ _) _) _ _ _)); (fail_if_success (with_reducible show wpAny _ _ (exec (Stmt.For _ _ _ _ _) _) _ _ _)); (first | ((with_reducible show wpAny _ _ (exec _ _) _ _ _); k_fold) | (k_unfold; (try dsimp only)) | (k_end; wrow_close) | (first | ((with_reducible show wpAny _ _ (subscriptTail _ _ _ _) _ _ _); (k_here; k_dflt (refine' item0_ground (by exact Fr.lst (by k_asm) (Fr.lst (by k_asm) (by assumption))) ?_; k_whole))) | ((with_reducible show wpAny _ _ (compareOp CmpOp.NotEq (Value.ref _) (Value.ref _)) _ _ _); (k_here; k_dflt (refine' ne_nil_ground (by exact Fr.lst (by k_asm) (Fr.lst (by k_asm) (by assumption))) (by k_asm) (by k_mem) (by exact rfl) (by exact rfl) (by ktr_units) ?_; k_whole); (try dsimp only [List.isEmpty]))) | walk1) | (dsimp only; walk1) | (leave1; (try dsimp only)))))
    all_goals exact hret _ _ _ _ (by assumption) (news_head (by assumption) (by ktd_sub)) ⟨_, _, _, _, _, _, (by first | exact great_nn _ | exact Int.le_refl _), Int.fmod_nonneg_of_pos _ (by decide), rfl, rfl, fun q hq => Nat.ne_of_lt ((by assumption : ∀ p ∈ _ :: news, p.1 < _) q (.tail _ hq))⟩
  | @cons n t vs' ns' hi' =>
    k_dflt cell_enter
    repeat' (first | ((fail_if_success (with_reducible show wpAny _ _ (exec (Stmt.While _ _ _ _) _) _ _ _)); (fail_if_success (with_reducible show wpAny _ _ (exec (Stmt.For _ _ _ _ _) _) _ _ _)); (first | ((with_reducible show wpAny _ _ (exec _ _) _ _ _); k_fold) | (k_unfold; (try dsimp only)) | (k_end; wrow_close) | (first | ((with_reducible show wpAny _ _ (subscriptTail _ _ _ _) _ _ _); (k_here; k_dflt (refine' item0_ground (by exact Fr.lst (by k_asm) (Fr.lst (by k_asm) (by assumption))) ?_; k_whole))) | ((with_reducible show wpAny _ _ (compareOp CmpOp.NotEq (Value.ref _) (Value.ref _)) _ _ _); (k_here; k_dflt (refine' ne_nil_ground (by exact Fr.lst (by k_asm) (Fr.lst (by k_asm) (by assumption))) (by k_asm) (by k_mem) (by exact rfl) (by exact rfl) (by ktr_units) ?_; k_whole); (try dsimp only [List.isEmpty]))) | walk1) | (dsimp only; walk1) | (leave1; (try dsimp only)))))
    all_goals exact hret _ _ _ _ (by assumption) (news_head (by assumption) (by ktd_sub)) ⟨_, _, _, _, _, _, (by first | exact great_nn _ | exact Int.le_refl _), Int.fmod_nonneg_of_pos _ (by decide), rfl, rfl, fun q hq => Nat.ne_of_lt ((by assumption : ∀ p ∈ _ :: news, p.1 < _) q (.tail _ hq))⟩
end

/- LI -/
section
theorem snoc_ne2 {α : Type} (l : List α) (x : α) : l ++ [x] ≠ [] := by simp
theorem lift_mem2 {x : Addr × Obj} {l l' : List (Addr × Obj)} (h : ∀ q ∈ l, q ∈ l') (m : x ∈ l) : x ∈ l' := h x m
theorem item_last {prog : Program} {w : World} {A : Around} {E : Value → Shared → Prop} {s : Shared} {h₀ : Heap} {L a : Addr} {news : List (Addr × Obj)} {vs : List Value} {ns : List Str} {Q : Value → Shared → Prop} {value slice : PySem.Expr} {u : Tok} {x : Str} (N : News h₀ L s.heap news) (hm : (a, tupObj vs) ∈ news) (hs : StrsAre vs ns) (hx : ns.getLast? = some x) (hz : ns.length ≤ 100) (h : ∀ tk, Q (.str x tk) s)
    (hsub : subscripted slice false (.ref a) (.int (-1) u) = operate [.ref a, .int (-1) u] (getItem (.ref a) (.int (-1) u)) := by with_unfolding_all rfl) :
    wpAny (model prog w) A (subscriptTail value slice (.ref a) (.int (-1) u)) Q E s := by
  rw [List.getLast?_eq_getElem?] at hx
  obtain ⟨tk, hv⟩ := strsAre_get hs hx
  have hk := (List.getElem?_eq_some_iff.mp hx).1
  have hl := strsAre_len hs
  refine item_tupleT (j := ns.length - 1) ⟨_, (N _ hm).1, rfl, _, rfl⟩ (by decide) (by decide) ?_ ?_ (h tk) hsub
  · have e1 : ((-1 : Int) < 0) := by decide
    have e3 : (-1 + (vs.length : Int)) = ((ns.length - 1 : Nat) : Int) := by omega
    unfold seqIndex?
    simp only [e1, if_true]
    have e4 : ¬ (-1 + (vs.length : Int) < 0) := by omega
    have e5 : (-1 + (vs.length : Int)).toNat = ns.length - 1 := by omega
    have e6 : -1 + (vs.length : Int) < (vs.length : Int) := by omega
    simp [e4, e5, e6]
    try omega
  · simpa using hv

noncomputable def kids (S : Seen) (p : Path) : Seen := S.filter fun x => decide (x.1.dropLast = p)
inductive All2 {α β : Type} (R : α → β → Prop) : List α → List β → Prop
  | nil : All2 R [] []
  | cons {a b l m} : R a b → All2 R l m → All2 R (a :: l) (b :: m)
theorem All2.snoc {α β : Type} {R : α → β → Prop} {l : List α} {m : List β} {a : α} {b : β} (h : All2 R l m) (r : R a b) : All2 R (l ++ [a]) (m ++ [b]) := by
  induction h with
  | nil => exact .cons r .nil
  | cons x _ ih => exact .cons x ih
theorem All2.rev {α β : Type} {R : α → β → Prop} {l : List α} {m : List β} (h : All2 R l m) : All2 R l.reverse m.reverse := by
  induction h with
  | nil => exact .nil
  | cons x _ ih => rw [List.reverse_cons, List.reverse_cons]; exact ih.snoc x
theorem All2.mono {α β : Type} {R R' : α → β → Prop} {l : List α} {m : List β} (h : All2 R l m) (k : ∀ a b, R a b → R' a b) : All2 R' l m := by
  induction h with
  | nil => exact .nil
  | cons x _ ih => exact .cons (k _ _ x) ih
theorem All2.len {α β : Type} {R : α → β → Prop} {l : List α} {m : List β} (h : All2 R l m) : l.length = m.length := by
  induction h with
  | nil => rfl
  | cons _ _ ih => simp [ih]

/-- an item of the list that stands for the child x; sub: what stands for the items within it -/
noncomputable def ItemAt (news : List (Addr × Obj)) (sub : Path → List Value → Prop) (x : Path × Bool) (v : Value) : Prop :=
  ∃ it, v = .ref it ∧ ((isFn x.1 = true ∧ ∃ e1 e2 u1 u2 u3, (it, tupObj [.str (Str.ofString "fn") u1, .int 0 u2, .str (Str.ofString "f") u3, .ref e1, .none, .ref e2, .none, .none, .bool x.2]) ∈ news) ∨
    (isFn x.1 = false ∧ ∃ n ti ws u1 u2 u3, x.1.getLast? = some n ∧ (it, tupObj [.str (Str.ofString "mod") u1, .int 0 u2, .str n u3, .ref ti, .bool x.2]) ∈ news ∧ (ti, tupObj ws) ∈ news ∧ sub x.1 ws))
noncomputable def SubOk (sub : List (Addr × Obj) → Path → List Value → Prop) : Prop := ∀ l l' q ws, (∀ x ∈ l, x.2.cls = .type "tuple" → x ∈ l') → sub l q ws → sub l' q ws
theorem ItemAt.mono {sub : List (Addr × Obj) → Path → List Value → Prop} (hs : SubOk sub) {l l' : List (Addr × Obj)} (h : ∀ x ∈ l, x.2.cls = .type "tuple" → x ∈ l') {x : Path × Bool} {v : Value} (I : ItemAt l (sub l) x v) : ItemAt l' (sub l') x v := by
  obtain ⟨it, e, I⟩ := I
  refine ⟨it, e, ?_⟩
  rcases I with ⟨a, e1, e2, u1, u2, u3, m⟩ | ⟨a, n, ti, ws, u1, u2, u3, b, m1, m2, s⟩
  · exact .inl ⟨a, e1, e2, u1, u2, u3, h _ m rfl⟩
  · exact .inr ⟨a, n, ti, ws, u1, u2, u3, b, h _ m1 rfl, h _ m2 rfl, hs _ _ _ _ h s⟩
noncomputable def ordered (t : Bool) (l : Seen) : Seen := if t then l.reverse else l
noncomputable def ItemsPost (news : List (Addr × Obj)) (sub : List (Addr × Obj) → Path → List Value → Prop) (q : Path) (r : Value) (n' : List (Addr × Obj)) : Prop :=
  (∀ x ∈ news, x ∈ n') ∧ ∃ D vs n, r = .ref D ∧ (D, listOf vs.toArray n) ∈ n' ∧ vs.length ≤ 100 ∧ sub n' q vs

theorem eq_strTupsB {prog : Program} {w : World} {A : Around} {E : Value → Shared → Prop} {s : Shared} {h₀ : Heap} {L a b : Addr} {news : List (Addr × Obj)} {vs us : List Value} {ns ms : List Str} {Q : Value → Shared → Prop} {c : Bool} (N : News h₀ L s.heap news) (h1 : (a, tupObj vs) ∈ news) (h2 : (b, tupObj us) ∈ news) (s1 : StrsAre vs ns) (s2 : StrsAre us ms) (hu : A.units < cLine) (hc : decide (ns = ms) = c) (h : Q (.bool c) s) :
    wpAny (model prog w) A (compareOp .Eq (.ref a) (.ref b)) Q E s := eq_strTups N h1 h2 s1 s2 hu (hc ▸ h)
theorem ne_strTupsB {prog : Program} {w : World} {A : Around} {E : Value → Shared → Prop} {s : Shared} {h₀ : Heap} {L a b : Addr} {news : List (Addr × Obj)} {vs us : List Value} {ns ms : List Str} {Q : Value → Shared → Prop} {c : Bool} (N : News h₀ L s.heap news) (h1 : (a, tupObj vs) ∈ news) (h2 : (b, tupObj us) ∈ news) (s1 : StrsAre vs ns) (s2 : StrsAre us ms) (hu : A.units < cLine) (hc : (!decide (ns = ms)) = c) (h : Q (.bool c) s) :
    wpAny (model prog w) A (compareOp .NotEq (.ref a) (.ref b)) Q E s := ne_strTups N h1 h2 s1 s2 hu (hc ▸ h)
theorem eq_strB {prog : Program} {w : World} {A : Around} {E : Value → Shared → Prop} {s : Shared} {x y : Str} {t u : Tok} {c : Bool} {Q : Value → Shared → Prop} (hc : (x == y) = c) (h : Q (.bool c) s) : wpAny (model prog w) A (compareOp .Eq (.str x t) (.str y u)) Q E s := PyProof.Rows.eq_str (hc ▸ h)
theorem off_cls {h₀ h : Heap} {L : Addr} {l : List (Addr × Obj)} {p q : Addr × Obj} {a b : String} (N : News h₀ L h l) (hp : p ∈ l) (hq : q ∈ l) (ha : p.2.cls = .type a) (hb : q.2.cls = .type b) (hc : a ≠ b) : p.1 ≠ q.1 := fun e => by
  have e1 := (N _ hp).1
  rw [e, (N _ hq).1] at e1
  have e2 := congrArg Obj.cls (Option.some.inj e1)
  rw [ha, hb] at e2
  injection e2 with e3
  exact hc e3.symm
theorem strTup_of {h₀ h : Heap} {L : Addr} {l : List (Addr × Obj)} {a : Addr} {vs : List Value} {ns : List Str} (_N : News h₀ L h l) (hm : (a, tupObj vs) ∈ l) (hs : StrsAre vs ns) : StrTup l a ns := ⟨vs, hm, hs⟩
theorem seen_of {w : World} {h₀ h : Heap} {L : Addr} {l rest : List (Addr × Obj)} {sd : Addr} {S : Seen} (_N : News h₀ L h l) (T : SeenTab w rest sd S) (hm : ∀ q ∈ rest, q ∈ l) : SeenTab w l sd S := T.mono hm
theorem rev_list {prog : Program} {w : World} {A : Around} {E : Value → Shared → Prop} {h₀ : Heap} {L D : Addr} {m : Str → Option Value} {l : List (Addr × Obj)} {vs : List Value} {n : Nat} {Q : Value → Shared → Prop} {value slice : PySem.Expr} {u : Tok} {hp : Heap} {g : Array GenState} {d : Drawn} {tk : Nat} {os : OsState} {ops : List Value}
    (F : Fr h₀ L hp m) (N : News h₀ L hp l) (hm : (D, listOf vs.toArray n) ∈ l) (hz : vs.length ≤ 100)
    (h : ∀ D' h', Fr h₀ L h' m → News h₀ L h' ((D', listOf vs.reverse.toArray 0) :: l) → Q (.ref D') ⟨h', g, d, tk, os⟩)
    (hs : subscripted slice false (.ref D) (.ref hp.objs.size) = operate ops (getItem (.ref D) (.ref hp.objs.size)) := by with_unfolding_all rfl)
    (ht : ∀ r, letTemporaryGo value (.ref D) r = pure () := by intro _; with_unfolding_all rfl) :
    wpAny (model prog w) A (subscriptTail value slice (.ref D) (.ref hp.objs.size)) Q E ⟨hp.push { cls := .type "slice", data := .fields #[.none, .none, .int (-1) u] }, g, d, tk, os⟩ :=
  krv_lit (s := ⟨hp, g, d, tk, os⟩) (its := vs.toArray) (zs := vs.reverse) F N (News.isList N hm) (IsPart.int _ _) (by simp) (fun D' h' F' N' _ => h D' h' F' N') hs ht (by rw [PySem.sizeLine_eq]; simp; omega)
theorem mem_of {h₀ h : Heap} {L : Addr} {l rest : List (Addr × Obj)} (_N : News h₀ L h l) (hm : ∀ q ∈ rest, q ∈ l) : ∀ q ∈ rest, q ∈ l := hm
theorem append_any {prog : Program} {w : World} {A : Around} {E : Value → Shared → Prop} {s : Shared} {h₀ : Heap} {L D : Addr} {m : Str → Option Value} {l : List (Addr × Obj)} {vs : List Value} {n : Nat} {x : Value} {Q : Value → Shared → Prop} (F : Fr h₀ L s.heap m) (N : News h₀ L s.heap l) (hm : (D, listOf vs.toArray n) ∈ l) (hz : vs.length ≤ 1000)
    (h : ∀ h' l', Fr h₀ L h' m → News h₀ L h' ((D, listOf (vs ++ [x]).toArray (n + 1)) :: l') → (∀ q ∈ l, q.1 ≠ D → q ∈ l') → (∀ q ∈ l', q.1 ≠ D) → Q .none { s with heap := h' }) : wpAny (model prog w) A (call (.builtin "list.append") [.ref D, x]) Q E s := by
  have hall : ∀ q ∈ l.filter (fun q => decide (q.1 ≠ D)), q.1 ≠ D := fun q hq => by simpa using (List.mem_filter.mp hq).2
  have N2 : News h₀ L s.heap ((D, listOf vs.toArray n) :: l.filter (fun q => decide (q.1 ≠ D))) := news_sub N fun q hq => by
    rcases List.mem_cons.mp hq with rfl | hq
    · exact hm
    · exact (List.mem_filter.mp hq).1
  refine append_K F N2 (.head hall) (fun h' F' N' => h h' _ F' ?_ (fun q hq hn => List.mem_filter.mpr ⟨hq, by simpa using hn⟩) hall) (by rw [PySem.sizeLine_eq]; simp; omega)
  simpa using N'
theorem items_turn_end {h₀ : Heap} {L I fd : Addr} {oI : Obj} {ws : List Value} {n : Nat} {s₁ : Shared} {h' : Heap} {tk : Nat} {m' : Str → Option Value} {l rest : List (Addr × Obj)} {R : (Str → Option Value) → List (Addr × Obj) → Prop}
    (F : Fr h₀ L h' m') (N : News h₀ L h' l) (hI : (I, oI) ∈ l) (hfd : (fd, listOf ws.toArray n) ∈ l) (hIfd : I ≠ fd) (hsub : ∀ q ∈ rest, q ∈ l) (h1 : ∀ q ∈ rest, q.1 ≠ fd) (h2 : ∀ q ∈ rest, q.1 ≠ I)
    (k : ∀ rest', (∀ q ∈ rest, q ∈ rest') → (∀ q ∈ l, q.1 ≠ I → q.1 ≠ fd → q ∈ rest') → (∀ q ∈ rest', q.1 ≠ fd) → (∀ q ∈ rest', q.1 ≠ I) → R m' ((fd, listOf ws.toArray n) :: rest')) :
    UnrEndW h₀ L s₁ [(I, oI)] R { s₁ with heap := h', toks := tk } := by
  have hf : ∀ q ∈ l.filter (fun q => decide (q.1 ≠ I ∧ q.1 ≠ fd)), q ∈ l ∧ q.1 ≠ I ∧ q.1 ≠ fd := fun q hq => by
    have := List.mem_filter.mp hq
    exact ⟨this.1, by simpa using this.2⟩
  refine ⟨h', tk, m', (fd, listOf ws.toArray n) :: l.filter (fun q => decide (q.1 ≠ I ∧ q.1 ≠ fd)), rfl, F, fun p hp => ?_, fun p hp q hq => ?_, k _ (fun q hq => List.mem_filter.mpr ⟨hsub q hq, by simp [h1 q hq, h2 q hq]⟩) (fun q hq a b => List.mem_filter.mpr ⟨hq, by simp [a, b]⟩) (fun q hq => (hf q hq).2.2) (fun q hq => (hf q hq).2.1)⟩
  · dsimp only [List.cons_append, List.nil_append] at hp
    rcases List.mem_cons.mp hp with rfl | hp
    · exact N _ hI
    · rcases List.mem_cons.mp hp with rfl | hp
      · exact N _ hfd
      · exact N _ (hf p hp).1
  · rw [List.mem_singleton.mp hq]
    rcases List.mem_cons.mp hp with rfl | hp
    · exact Ne.symm hIfd
    · exact (hf p hp).2.1
theorem kids_snoc_in {S : Seen} {p : Path} {x : Path × Bool} (h : x.1.dropLast = p) : kids (S ++ [x]) p = kids S p ++ [x] := by simp [kids, h]
theorem kids_snoc_out {S : Seen} {p : Path} {x : Path × Bool} (h : ¬ x.1.dropLast = p) : kids (S ++ [x]) p = kids S p := by simp [kids, h]
theorem over_path {m : Str → Option Value} {a : Str} {v : Value} {u : Option Value} : (fun y => if y = a then some v else if y = a then u else m y) = fun y => if y = a then some v else m y := by
  funext y
  by_cases e : y = a <;> simp [e]
theorem all2_mono {sub : List (Addr × Obj) → Path → List Value → Prop} (hs : SubOk sub) {l l' : List (Addr × Obj)} (h : ∀ x ∈ l, x ∈ l') {vs : List Value} {xs : Seen} (A : All2 (fun v x => ItemAt l (sub l) x v) vs xs) : All2 (fun v x => ItemAt l' (sub l') x v) vs xs :=
  A.mono fun _ _ r => r.mono hs fun x hx _ => h x hx
inductive ItemsJ (I fd : Addr) (sub : List (Addr × Obj) → Path → List Value → Prop) (base : List (Addr × Obj)) (S : Seen) (p : Path) (m0 : Str → Option Value) (its : List Itm) (m : Str → Option Value) (news : List (Addr × Obj)) : Prop
  | mk : ∀ (ys : List (Path × Addr × Value)) (S1 S2 : Seen) (vs : List Value) (n : Nat) (rest : List (Addr × Obj)) (u : Option Value), (its = ys.map (fun x => Itm.val (.ref x.2.1))) → (ys.map (fun x => (x.1, x.2.2)) = S2.map (fun p => (p.1, Value.bool p.2))) → (S = S1 ++ S2) → ((∀ x ∈ ys, ∃ vs, (x.2.1, tupObj vs) ∈ base ∧ StrsAre vs x.1)) → (news = (fd, listOf vs.toArray n) :: rest) → ((∀ q ∈ base, q ∈ rest)) → ((∀ q ∈ rest, q.1 ≠ fd)) → ((∀ q ∈ rest, q.1 ≠ I)) → (All2 (fun v x => ItemAt rest (sub rest) x v) vs (kids S1 p)) → (vs.length ≤ S1.length) → (m = fun y => if y = Str.ofString "path" then u else m0 y) → ItemsJ I fd sub base S p m0 its m news
local macro_rules | `(tactic| walk_at "callWith") => `(tactic| ((try dsimp only); with_reducible refine callWith_method1 ?_ (by with_unfolding_all rfl) (by with_unfolding_all rfl)))
theorem seenAt_mid {S1 S2 : Seen} {p : Path} {b : Bool} (hn : ((S1 ++ (p, b) :: S2).map (·.1)).Nodup) : seenAt (S1 ++ (p, b) :: S2) p = some b := by
  induction S1 with
  | nil => simp [seenAt]
  | cons x S1 ih =>
    simp only [List.cons_append, List.map_cons, List.nodup_cons] at hn
    have hx : ¬ x.1 = p := fun e => hn.1 (by rw [e]; simp)
    have := ih hn.2
    simp only [seenAt, List.cons_append] at this ⊢
    rw [List.find?_cons_of_neg (by simpa using hx)]
    exact this
theorem items_step (w : World) (sd pa : Addr) (S : Seen) (p : Path) (t : Bool) (d u : Nat) (sub : List (Addr × Obj) → Path → List Value → Prop) (hsub : SubOk sub) (news : List (Addr × Obj))
    (hrec : ∀ x ∈ kids S p, isFn x.1 = false → ∀ pa' news', StrTup news' pa' x.1 → SeenTab w news' sd S → Spec w 307 d u [.ref pa', .ref sd, .bool t] news' (ItemsPost news' sub x.1))
    (hS : S.length ≤ 100) (hne : ∀ x ∈ S, x.1 ≠ [] ∧ x.1.length ≤ 100) (hnd : (S.map (·.1)).Nodup)
    (hp : StrTup news pa p) (T : SeenTab w news sd S) :
    Spec w 307 (d + 4) (u + 80) [.ref pa, .ref sd, .bool t] news (ItemsPost news (fun n' q vs => All2 (fun v x => ItemAt n' (sub n') x v) vs (ordered t (kids S q))) p) := by
  obtain ⟨vp, hpa, hvp⟩ := hp
  have ST := T
  obtain ⟨o, es, ep, xs, lo, hmd, hc, hd', he, hn, hk, hSx⟩ := T
  unfold Spec
  refine fill w ?_
  k_fill
  intro _ _
  intro mean mg mb dp un gd cn cs a ccd cl outer A₀ base h₀ L m s Q E H F N hk' hd hu hret
  obtain ⟨B, X, T, BO⟩ := H
  k_dflt cell_enter
  repeat' (first | ((fail_if_success (with_reducible show wpAny _ _ (exec (Stmt.While _ _ _ _) _) _ _ _)); (fail_if_success (with_reducible show wpAny _ _ (exec (Stmt.For _ _ _ _ _) _) _ _ _)); (first | ((with_reducible show wpAny _ _ (exec _ _) _ _ _); k_fold) | (k_unfold; (try dsimp only)) | (k_end; wrow_close) | (first | ((with_reducible show wpAny _ _ (subscriptTail _ _ _ _) _ _ _); (k_here; (with_reducible show wpAny _ _ (subscriptTail _ (PySem.Expr.Slice none none (some _) _) (Value.ref _) (Value.ref _)) _ _ _); k_dflt (refine' rev_list (by k_asm) (by k_asm) (by k_mem) (by assumption) ?_; k_whole; intro z_D9 z_h9 z_F9 z_N9))) | ((with_reducible show wpAny _ _ (compareOp CmpOp.Eq (Value.str _ _) (Value.str _ _)) _ _ _); (k_here; k_dflt (refine' eq_strB (by assumption) ?_; k_whole))) | ((with_reducible show wpAny _ _ (compareOp CmpOp.NotEq (Value.ref _) (Value.ref _)) _ _ _); (k_here; k_dflt (refine' ne_strTupsB (by k_asm) (by k_mem) (by k_mem) (by kde_strs) (by kde_strs) (by ktr_units) (by assumption) ?_; k_whole))) | ((with_reducible show wpAny _ _ (compareOp CmpOp.Eq (Value.ref _) (Value.ref _)) _ _ _); (k_here; k_dflt (refine' eq_strTupsB (by k_asm) (by k_mem) (by k_mem) (by kde_strs) (by kde_strs) (by ktr_units) (by assumption) ?_; k_whole))) | ((with_reducible show wpAny _ _ (subscriptTail _ _ _ _) _ _ _); (k_here; (with_reducible show wpAny _ _ (subscriptTail _ _ (Value.ref _) (Value.ref _)) _ _ _); k_dflt (refine' seen_item (by k_asm) (by first | assumption | exact SeenTab.mono (by assumption) (by intro _ z_hq9; repeat (first | exact z_hq9 | apply List.Mem.tail))) (by k_mem) (by kde_strs) (by ktr_units) (by assumption) ?_; k_whole); intro z_t9)) | ((with_reducible show wpAny _ _ (subscriptTail _ _ _ _) _ _ _); (k_here; (with_reducible show wpAny _ _ (subscriptTail _ _ (Value.ref _) (Value.int _ _)) _ _ _); k_dflt (refine' item_last (by k_asm) (by k_mem) (by kde_strs) (by assumption) (by assumption) ?_; k_whole); intro _)) | ((with_reducible show wpAny _ _ (subscriptTail _ _ _ _) _ _ _); (k_here; (with_reducible show wpAny _ _ (subscriptTail _ (PySem.Expr.Slice _ _ _ _) (Value.ref _) (Value.ref _)) _ _ _); k_dflt (refine' init_strs (by k_asm) (by k_asm) (by k_mem) (by kde_strs) (by assumption) (by assumption) ?_; k_whole; intro z_D9 z_vs9 z_h9 z_F9 z_N9 z_S9 z_l9; (try k_sweep)))) | walk1) | (dsimp only; walk1) | (leave1; (try dsimp only)))))
  rename Fr _ _ _ _ => lF
  rename News _ _ _ _ => lN
  with_unfolding_all refine For_turns lF ?_
  repeat' (first | ((fail_if_success (with_reducible show wpAny _ _ (exec (Stmt.While _ _ _ _) _) _ _ _)); (fail_if_success (with_reducible show wpAny _ _ (exec (Stmt.For _ _ _ _ _) _) _ _ _)); (first | ((with_reducible show wpAny _ _ (exec _ _) _ _ _); k_fold) | (k_unfold; (try dsimp only)) | (k_end; wrow_close) | (first | ((with_reducible show wpAny _ _ (subscriptTail _ _ _ _) _ _ _); (k_here; (with_reducible show wpAny _ _ (subscriptTail _ (PySem.Expr.Slice none none (some _) _) (Value.ref _) (Value.ref _)) _ _ _); k_dflt (refine' rev_list (by k_asm) (by k_asm) (by k_mem) (by assumption) ?_; k_whole; intro z_D9 z_h9 z_F9 z_N9))) | ((with_reducible show wpAny _ _ (compareOp CmpOp.Eq (Value.str _ _) (Value.str _ _)) _ _ _); (k_here; k_dflt (refine' eq_strB (by assumption) ?_; k_whole))) | ((with_reducible show wpAny _ _ (compareOp CmpOp.NotEq (Value.ref _) (Value.ref _)) _ _ _); (k_here; k_dflt (refine' ne_strTupsB (by k_asm) (by k_mem) (by k_mem) (by kde_strs) (by kde_strs) (by ktr_units) (by assumption) ?_; k_whole))) | ((with_reducible show wpAny _ _ (compareOp CmpOp.Eq (Value.ref _) (Value.ref _)) _ _ _); (k_here; k_dflt (refine' eq_strTupsB (by k_asm) (by k_mem) (by k_mem) (by kde_strs) (by kde_strs) (by ktr_units) (by assumption) ?_; k_whole))) | ((with_reducible show wpAny _ _ (subscriptTail _ _ _ _) _ _ _); (k_here; (with_reducible show wpAny _ _ (subscriptTail _ _ (Value.ref _) (Value.ref _)) _ _ _); k_dflt (refine' seen_item (by k_asm) (by first | assumption | exact SeenTab.mono (by assumption) (by intro _ z_hq9; repeat (first | exact z_hq9 | apply List.Mem.tail))) (by k_mem) (by kde_strs) (by ktr_units) (by assumption) ?_; k_whole); intro z_t9)) | ((with_reducible show wpAny _ _ (subscriptTail _ _ _ _) _ _ _); (k_here; (with_reducible show wpAny _ _ (subscriptTail _ _ (Value.ref _) (Value.int _ _)) _ _ _); k_dflt (refine' item_last (by k_asm) (by k_mem) (by kde_strs) (by assumption) (by assumption) ?_; k_whole); intro _)) | ((with_reducible show wpAny _ _ (subscriptTail _ _ _ _) _ _ _); (k_here; (with_reducible show wpAny _ _ (subscriptTail _ (PySem.Expr.Slice _ _ _ _) (Value.ref _) (Value.ref _)) _ _ _); k_dflt (refine' init_strs (by k_asm) (by k_asm) (by k_mem) (by kde_strs) (by assumption) (by assumption) ?_; k_whole; intro z_D9 z_vs9 z_h9 z_F9 z_N9 z_S9 z_l9; (try k_sweep)))) | walk1) | (dsimp only; walk1) | (leave1; (try dsimp only)))))
  (rename Fr _ _ _ _ => lF)
  (rename News _ _ _ _ => lN)
  rename (∀ p ∈ news, p.1 < _) => lfd
  rename_i fd _ _ _ _
  with_unfolding_all refine raw_turns (by rfl) lF lN (.tail _ hmd) hc hd' lo ?_
  intro I lI
  clear lF lN
  have hIfd : I ≠ fd := Nat.ne_of_gt (lI _ (.head _))
  refine items_from (fun m0 n9 => ItemsJ I fd sub news S p m0) ?start ?zero ?turn
  case start => exact ⟨xs, [], S, [], 0, news, none, by rw [he, List.map_map]; rfl, hSx, rfl, hk, rfl, fun _ h => h, fun q hq => Nat.ne_of_lt (lfd q hq), fun q hq => Nat.ne_of_lt (lI q (.tail _ hq)), .nil, Nat.le_refl _, (by funext y; by_cases e : y = Str.ofString "path" <;> simp [e]; rfl)⟩
  case zero =>
    rintro m1 news1 ⟨ys, S1, S2, vs, n, rest, u, hits, hys, hSS, hka, rfl, hbase, hfd, hI, hAll, hvz, rfl⟩ h1 tk1 lF lN
    cases ys with
    | cons y ys => cases hits
    | nil =>
    cases S2 with
    | cons y S2 => cases hys
    | nil =>
    rw [List.append_nil] at hSS
    subst hSS
    have hvz2 : vs.length ≤ 100 := Nat.le_trans hvz hS
    have hfdm : (fd, listOf vs.toArray n) ∈ (fd, listOf vs.toArray n) :: rest := .head _
    dsimp only
    cases t with
    | false =>
      repeat' (first | ((fail_if_success (with_reducible show wpAny _ _ (exec (Stmt.While _ _ _ _) _) _ _ _)); (fail_if_success (with_reducible show wpAny _ _ (exec (Stmt.For _ _ _ _ _) _) _ _ _)); (first | ((with_reducible show wpAny _ _ (exec _ _) _ _ _); k_fold) | (k_unfold; (try dsimp only)) | (k_end; wrow_close) | (first | ((with_reducible show wpAny _ _ (subscriptTail _ _ _ _) _ _ _); (k_here; (with_reducible show wpAny _ _ (subscriptTail _ (PySem.Expr.Slice none none (some _) _) (Value.ref _) (Value.ref _)) _ _ _); k_dflt (refine' rev_list (by k_asm) (by k_asm) (by k_mem) (by assumption) ?_; k_whole; intro z_D9 z_h9 z_F9 z_N9))) | ((with_reducible show wpAny _ _ (compareOp CmpOp.Eq (Value.str _ _) (Value.str _ _)) _ _ _); (k_here; k_dflt (refine' eq_strB (by assumption) ?_; k_whole))) | ((with_reducible show wpAny _ _ (compareOp CmpOp.NotEq (Value.ref _) (Value.ref _)) _ _ _); (k_here; k_dflt (refine' ne_strTupsB (by k_asm) (by k_mem) (by k_mem) (by kde_strs) (by kde_strs) (by ktr_units) (by assumption) ?_; k_whole))) | ((with_reducible show wpAny _ _ (compareOp CmpOp.Eq (Value.ref _) (Value.ref _)) _ _ _); (k_here; k_dflt (refine' eq_strTupsB (by k_asm) (by k_mem) (by k_mem) (by kde_strs) (by kde_strs) (by ktr_units) (by assumption) ?_; k_whole))) | ((with_reducible show wpAny _ _ (subscriptTail _ _ _ _) _ _ _); (k_here; (with_reducible show wpAny _ _ (subscriptTail _ _ (Value.ref _) (Value.ref _)) _ _ _); k_dflt (refine' seen_item (by k_asm) (by first | assumption | exact SeenTab.mono (by assumption) (by intro _ z_hq9; repeat (first | exact z_hq9 | apply List.Mem.tail))) (by k_mem) (by kde_strs) (by ktr_units) (by assumption) ?_; k_whole); intro z_t9)) | ((with_reducible show wpAny _ _ (subscriptTail _ _ _ _) _ _ _); (k_here; (with_reducible show wpAny _ _ (subscriptTail _ _ (Value.ref _) (Value.int _ _)) _ _ _); k_dflt (refine' item_last (by k_asm) (by k_mem) (by kde_strs) (by assumption) (by assumption) ?_; k_whole); intro _)) | ((with_reducible show wpAny _ _ (subscriptTail _ _ _ _) _ _ _); (k_here; (with_reducible show wpAny _ _ (subscriptTail _ (PySem.Expr.Slice _ _ _ _) (Value.ref _) (Value.ref _)) _ _ _); k_dflt (refine' init_strs (by k_asm) (by k_asm) (by k_mem) (by kde_strs) (by assumption) (by assumption) ?_; k_whole; intro z_D9 z_vs9 z_h9 z_F9 z_N9 z_S9 z_l9; (try k_sweep)))) | walk1) | (dsimp only; walk1) | (leave1; (try dsimp only)))))
      all_goals exact hret _ _ _ _ (by assumption) (by assumption) ⟨fun q hq => .tail _ (hbase q hq), _, vs, n, rfl, .head _, hvz2, all2_mono hsub (fun q hq => .tail _ hq) hAll⟩
    | true =>
      repeat' (first | ((fail_if_success (with_reducible show wpAny _ _ (subscriptTail _ (PySem.Expr.Slice _ _ _ _) _ _) _ _ _)); (first | (k_unfold; (try dsimp only)) | (k_end; wrow_close) | (first | ((with_reducible show wpAny _ _ (subscriptTail _ _ _ _) _ _ _); (k_here; (with_reducible show wpAny _ _ (subscriptTail _ (PySem.Expr.Slice none none (some _) _) (Value.ref _) (Value.ref _)) _ _ _); k_dflt (refine' rev_list (by k_asm) (by k_asm) (by k_mem) (by assumption) ?_; k_whole; intro z_D9 z_h9 z_F9 z_N9))) | ((with_reducible show wpAny _ _ (compareOp CmpOp.Eq (Value.str _ _) (Value.str _ _)) _ _ _); (k_here; k_dflt (refine' eq_strB (by assumption) ?_; k_whole))) | ((with_reducible show wpAny _ _ (compareOp CmpOp.NotEq (Value.ref _) (Value.ref _)) _ _ _); (k_here; k_dflt (refine' ne_strTupsB (by k_asm) (by k_mem) (by k_mem) (by kde_strs) (by kde_strs) (by ktr_units) (by assumption) ?_; k_whole))) | ((with_reducible show wpAny _ _ (compareOp CmpOp.Eq (Value.ref _) (Value.ref _)) _ _ _); (k_here; k_dflt (refine' eq_strTupsB (by k_asm) (by k_mem) (by k_mem) (by kde_strs) (by kde_strs) (by ktr_units) (by assumption) ?_; k_whole))) | ((with_reducible show wpAny _ _ (subscriptTail _ _ _ _) _ _ _); (k_here; (with_reducible show wpAny _ _ (subscriptTail _ _ (Value.ref _) (Value.ref _)) _ _ _); k_dflt (refine' seen_item (by k_asm) (by first | assumption | exact SeenTab.mono (by assumption) (by intro _ z_hq9; repeat (first | exact z_hq9 | apply List.Mem.tail))) (by k_mem) (by kde_strs) (by ktr_units) (by assumption) ?_; k_whole); intro z_t9)) | ((with_reducible show wpAny _ _ (subscriptTail _ _ _ _) _ _ _); (k_here; (with_reducible show wpAny _ _ (subscriptTail _ _ (Value.ref _) (Value.int _ _)) _ _ _); k_dflt (refine' item_last (by k_asm) (by k_mem) (by kde_strs) (by assumption) (by assumption) ?_; k_whole); intro _)) | ((with_reducible show wpAny _ _ (subscriptTail _ _ _ _) _ _ _); (k_here; (with_reducible show wpAny _ _ (subscriptTail _ (PySem.Expr.Slice _ _ _ _) (Value.ref _) (Value.ref _)) _ _ _); k_dflt (refine' init_strs (by k_asm) (by k_asm) (by k_mem) (by kde_strs) (by assumption) (by assumption) ?_; k_whole; intro z_D9 z_vs9 z_h9 z_F9 z_N9 z_S9 z_l9; (try k_sweep)))) | walk1) | (dsimp only; walk1) | (leave1; try dsimp only))))
      refine rev_list lF lN hfdm hvz2 ?_
      intro D9 h9 F9 N9
      repeat' (first | ((fail_if_success (with_reducible show wpAny _ _ (exec (Stmt.While _ _ _ _) _) _ _ _)); (fail_if_success (with_reducible show wpAny _ _ (exec (Stmt.For _ _ _ _ _) _) _ _ _)); (first | ((with_reducible show wpAny _ _ (exec _ _) _ _ _); k_fold) | (k_unfold; (try dsimp only)) | (k_end; wrow_close) | (first | ((with_reducible show wpAny _ _ (subscriptTail _ _ _ _) _ _ _); (k_here; (with_reducible show wpAny _ _ (subscriptTail _ (PySem.Expr.Slice none none (some _) _) (Value.ref _) (Value.ref _)) _ _ _); k_dflt (refine' rev_list (by k_asm) (by k_asm) (by k_mem) (by assumption) ?_; k_whole; intro z_D9 z_h9 z_F9 z_N9))) | ((with_reducible show wpAny _ _ (compareOp CmpOp.Eq (Value.str _ _) (Value.str _ _)) _ _ _); (k_here; k_dflt (refine' eq_strB (by assumption) ?_; k_whole))) | ((with_reducible show wpAny _ _ (compareOp CmpOp.NotEq (Value.ref _) (Value.ref _)) _ _ _); (k_here; k_dflt (refine' ne_strTupsB (by k_asm) (by k_mem) (by k_mem) (by kde_strs) (by kde_strs) (by ktr_units) (by assumption) ?_; k_whole))) | ((with_reducible show wpAny _ _ (compareOp CmpOp.Eq (Value.ref _) (Value.ref _)) _ _ _); (k_here; k_dflt (refine' eq_strTupsB (by k_asm) (by k_mem) (by k_mem) (by kde_strs) (by kde_strs) (by ktr_units) (by assumption) ?_; k_whole))) | ((with_reducible show wpAny _ _ (subscriptTail _ _ _ _) _ _ _); (k_here; (with_reducible show wpAny _ _ (subscriptTail _ _ (Value.ref _) (Value.ref _)) _ _ _); k_dflt (refine' seen_item (by k_asm) (by first | assumption | exact SeenTab.mono (by assumption) (by intro _ z_hq9; repeat (first | exact z_hq9 | apply List.Mem.tail))) (by k_mem) (by kde_strs) (by ktr_units) (by assumption) ?_; k_whole); intro z_t9)) | ((with_reducible show wpAny _ _ (subscriptTail _ _ _ _) _ _ _); (k_here; (with_reducible show wpAny _ _ (subscriptTail _ _ (Value.ref _) (Value.int _ _)) _ _ _); k_dflt (refine' item_last (by k_asm) (by k_mem) (by kde_strs) (by assumption) (by assumption) ?_; k_whole); intro _)) | ((with_reducible show wpAny _ _ (subscriptTail _ _ _ _) _ _ _); (k_here; (with_reducible show wpAny _ _ (subscriptTail _ (PySem.Expr.Slice _ _ _ _) (Value.ref _) (Value.ref _)) _ _ _); k_dflt (refine' init_strs (by k_asm) (by k_asm) (by k_mem) (by kde_strs) (by assumption) (by assumption) ?_; k_whole; intro z_D9 z_vs9 z_h9 z_F9 z_N9 z_S9 z_l9; (try k_sweep)))) | walk1) | (dsimp only; walk1) | (leave1; (try dsimp only)))))
      all_goals exact hret _ _ _ _ (by assumption) (by assumption) ⟨fun q hq => .tail _ (.tail _ (hbase q hq)), _, vs.reverse, 0, rfl, .head _, by simpa using hvz2, (all2_mono hsub (fun q hq => .tail _ (.tail _ hq)) hAll).rev⟩
  case turn =>
    rintro it r m1 news1 ⟨ys, S1, S2, vs, n, rest, uu, hits, hys, hSS, hka, rfl, hbase, hfd, hI, hAll, hvz, rfl⟩ v1 h1 tk1 hv lF
    cases ys with
    | nil => cases hits
    | cons y ys =>
    injection hits with hx1 hx2
    subst hx1
    obtain rfl : v1 = Value.ref y.2.1 := hv
    cases S2 with
    | nil => cases hys
    | cons x S2 =>
    obtain ⟨yp, ya, yv⟩ := y
    obtain ⟨xp, xb⟩ := x
    simp only [List.map_cons, List.cons.injEq, Prod.mk.injEq] at hys
    obtain ⟨⟨rfl, rfl⟩, hys⟩ := hys
    obtain ⟨vsp, hyp, hyv⟩ := hka _ (.head _)
    have hxS : (yp, xb) ∈ S := by rw [hSS]; exact List.mem_append_right _ (.head _)
    obtain ⟨hy0, hyz⟩ := hne _ hxS
    dsimp only at hyp hyv hy0 hyz
    obtain ⟨nm, hnm⟩ : ∃ nm, yp.getLast? = some nm := by
      cases e : yp.getLast? with
      | none => exact absurd (List.getLast?_eq_none_iff.mp e) hy0
      | some z => exact ⟨z, rfl⟩
    refine AllObj.cons (fun oI hcI => AllObj.nil (fun lN => ?_))
    dsimp only [List.cons_append, List.nil_append] at lN
    have hcI' : oI.cls = .type "dict_keyiterator" := hcI
    have hyp' := hbase _ hyp
    have hpa' := hbase _ hpa
    have hd0 : (!decide (yp = [])) = true := by simpa using hy0
    have hSlen : S1.length + 1 + S2.length ≤ 100 := by rw [hSS] at hS; simp at hS; omega
    have hseen : seenAt S yp = some xb := by
      rw [hSS]
      exact seenAt_mid (by rw [← hSS]; exact hnd) 
    have ST1 : SeenTab w rest sd S := ST.mono hbase
    have hfdm : (fd, listOf vs.toArray n) ∈ (I, oI) :: (fd, listOf vs.toArray n) :: rest := .tail _ (.head _)
    have hIm : (I, oI) ∈ (I, oI) :: (fd, listOf vs.toArray n) :: rest := .head _
    have hvz2 : vs.toArray.size ≤ sizeLine := by rw [PySem.sizeLine_eq]; simp; omega
    have U : UpdF fd (listOf vs.toArray n) ((I, oI) :: (fd, listOf vs.toArray n) :: rest) _ := .tail hIfd (.head hfd)
    by_cases hkid : yp.dropLast = p
    · have hkid' : decide (yp.dropLast = p) = true := by simpa using hkid
      cases hf : (nm == Str.ofString "f") with
      | true =>
        repeat' (first | ((fail_if_success (with_reducible show wpAny _ _ (exec (Stmt.While _ _ _ _) _) _ _ _)); (fail_if_success (with_reducible show wpAny _ _ (exec (Stmt.For _ _ _ _ _) _) _ _ _)); (first | ((with_reducible show wpAny _ _ (exec _ _) _ _ _); k_fold) | (k_unfold; (try dsimp only)) | (k_end; wrow_close) | (first | ((with_reducible show wpAny _ _ (subscriptTail _ _ _ _) _ _ _); (k_here; (with_reducible show wpAny _ _ (subscriptTail _ (PySem.Expr.Slice none none (some _) _) (Value.ref _) (Value.ref _)) _ _ _); k_dflt (refine' rev_list (by k_asm) (by k_asm) (by k_mem) (by assumption) ?_; k_whole; intro z_D9 z_h9 z_F9 z_N9))) | ((with_reducible show wpAny _ _ (compareOp CmpOp.Eq (Value.str _ _) (Value.str _ _)) _ _ _); (k_here; k_dflt (refine' eq_strB (by assumption) ?_; k_whole))) | ((with_reducible show wpAny _ _ (compareOp CmpOp.NotEq (Value.ref _) (Value.ref _)) _ _ _); (k_here; k_dflt (refine' ne_strTupsB (by k_asm) (by k_mem) (by k_mem) (by kde_strs) (by kde_strs) (by ktr_units) (by assumption) ?_; k_whole))) | ((with_reducible show wpAny _ _ (compareOp CmpOp.Eq (Value.ref _) (Value.ref _)) _ _ _); (k_here; k_dflt (refine' eq_strTupsB (by k_asm) (by k_mem) (by k_mem) (by kde_strs) (by kde_strs) (by ktr_units) (by assumption) ?_; k_whole))) | ((with_reducible show wpAny _ _ (subscriptTail _ _ _ _) _ _ _); (k_here; (with_reducible show wpAny _ _ (subscriptTail _ _ (Value.ref _) (Value.ref _)) _ _ _); k_dflt (refine' seen_item (by k_asm) (by first | assumption | exact SeenTab.mono (by assumption) (by intro _ z_hq9; repeat (first | exact z_hq9 | apply List.Mem.tail))) (by k_mem) (by kde_strs) (by ktr_units) (by assumption) ?_; k_whole); intro z_t9)) | ((with_reducible show wpAny _ _ (subscriptTail _ _ _ _) _ _ _); (k_here; (with_reducible show wpAny _ _ (subscriptTail _ _ (Value.ref _) (Value.int _ _)) _ _ _); k_dflt (refine' item_last (by k_asm) (by k_mem) (by kde_strs) (by assumption) (by assumption) ?_; k_whole); intro _)) | ((with_reducible show wpAny _ _ (subscriptTail _ _ _ _) _ _ _); (k_here; (with_reducible show wpAny _ _ (subscriptTail _ (PySem.Expr.Slice _ _ _ _) (Value.ref _) (Value.ref _)) _ _ _); k_dflt (refine' init_strs (by k_asm) (by k_asm) (by k_mem) (by kde_strs) (by assumption) (by assumption) ?_; k_whole; intro z_D9 z_vs9 z_h9 z_F9 z_N9 z_S9 z_l9; (try k_sweep)))) | walk1) | (dsimp only; walk1) | (leave1; (try dsimp only)))))
        rename Fr _ _ _ _ => lF
        rename News _ _ _ _ => lN
        refine append_any lF lN (by repeat (first | exact List.Mem.head _ | apply List.Mem.tail)) (by omega) ?_
        intro h9 l9 F9 N9 K9 A9
        repeat' (first | ((fail_if_success (with_reducible show wpAny _ _ (exec (Stmt.While _ _ _ _) _) _ _ _)); (fail_if_success (with_reducible show wpAny _ _ (exec (Stmt.For _ _ _ _ _) _) _ _ _)); (first | ((with_reducible show wpAny _ _ (exec _ _) _ _ _); k_fold) | (k_unfold; (try dsimp only)) | (k_end; wrow_close) | (first | ((with_reducible show wpAny _ _ (subscriptTail _ _ _ _) _ _ _); (k_here; (with_reducible show wpAny _ _ (subscriptTail _ (PySem.Expr.Slice none none (some _) _) (Value.ref _) (Value.ref _)) _ _ _); k_dflt (refine' rev_list (by k_asm) (by k_asm) (by k_mem) (by assumption) ?_; k_whole; intro z_D9 z_h9 z_F9 z_N9))) | ((with_reducible show wpAny _ _ (compareOp CmpOp.Eq (Value.str _ _) (Value.str _ _)) _ _ _); (k_here; k_dflt (refine' eq_strB (by assumption) ?_; k_whole))) | ((with_reducible show wpAny _ _ (compareOp CmpOp.NotEq (Value.ref _) (Value.ref _)) _ _ _); (k_here; k_dflt (refine' ne_strTupsB (by k_asm) (by k_mem) (by k_mem) (by kde_strs) (by kde_strs) (by ktr_units) (by assumption) ?_; k_whole))) | ((with_reducible show wpAny _ _ (compareOp CmpOp.Eq (Value.ref _) (Value.ref _)) _ _ _); (k_here; k_dflt (refine' eq_strTupsB (by k_asm) (by k_mem) (by k_mem) (by kde_strs) (by kde_strs) (by ktr_units) (by assumption) ?_; k_whole))) | ((with_reducible show wpAny _ _ (subscriptTail _ _ _ _) _ _ _); (k_here; (with_reducible show wpAny _ _ (subscriptTail _ _ (Value.ref _) (Value.ref _)) _ _ _); k_dflt (refine' seen_item (by k_asm) (by first | assumption | exact SeenTab.mono (by assumption) (by intro _ z_hq9; repeat (first | exact z_hq9 | apply List.Mem.tail))) (by k_mem) (by kde_strs) (by ktr_units) (by assumption) ?_; k_whole); intro z_t9)) | ((with_reducible show wpAny _ _ (subscriptTail _ _ _ _) _ _ _); (k_here; (with_reducible show wpAny _ _ (subscriptTail _ _ (Value.ref _) (Value.int _ _)) _ _ _); k_dflt (refine' item_last (by k_asm) (by k_mem) (by kde_strs) (by assumption) (by assumption) ?_; k_whole); intro _)) | ((with_reducible show wpAny _ _ (subscriptTail _ _ _ _) _ _ _); (k_here; (with_reducible show wpAny _ _ (subscriptTail _ (PySem.Expr.Slice _ _ _ _) (Value.ref _) (Value.ref _)) _ _ _); k_dflt (refine' init_strs (by k_asm) (by k_asm) (by k_mem) (by kde_strs) (by assumption) (by assumption) ?_; k_whole; intro z_D9 z_vs9 z_h9 z_F9 z_N9 z_S9 z_l9; (try k_sweep)))) | walk1) | (dsimp only; walk1) | (leave1; (try dsimp only)))))
        have hit : (_, tupObj [.str (Str.ofString "fn") _, .int 0 _, .str (Str.ofString "f") _, .ref _, .none, .ref _, .none, .none, .bool xb]) ∈ l9 := K9 _ (.head _) (off_cls lN (.head _) (by repeat (first | exact List.Mem.head _ | apply List.Mem.tail) : (fd, listOf vs.toArray n) ∈ _) rfl rfl (by decide))
        refine items_turn_end (ws := _) (n := n + 1) (rest := rest) F9 N9 (.tail _ (K9 _ (by repeat (first | exact List.Mem.head _ | apply List.Mem.tail)) hIfd)) (.head _) hIfd (by intro q hq; exact .tail _ (K9 q (by repeat (first | exact hq | apply List.Mem.tail)) (hfd q hq))) hfd hI fun rest' a1 a2 a3 a4 => ⟨And.intro (.tail _ (a1 _ (hbase _ hmd))) trivial, ys, S1 ++ [(yp, xb)], S2, _, _, rest', _, hx2, hys, by rw [hSS, List.append_assoc]; rfl, fun x hx => hka x (.tail _ hx), rfl, fun q hq => a1 q (hbase q hq), a3, a4, by rw [kids_snoc_in hkid]; exact (all2_mono hsub a1 hAll).snoc ⟨_, rfl, .inl ⟨by simp [isFn, hnm]; simpa using hf, _, _, _, _, _, a2 _ (.tail _ hit) (off_cls N9 (.tail _ hit) (.tail _ (K9 (I, oI) (by repeat (first | exact List.Mem.head _ | apply List.Mem.tail)) hIfd)) rfl hcI' (by decide)) (A9 _ hit)⟩⟩, by simp; omega, over_path⟩
      | false =>
        repeat' (first | ((fail_if_success (with_reducible show wpAny _ _ (call (Value.ref 307) _) _ _ _)); (first | (k_unfold; (try dsimp only)) | (k_end; wrow_close) | (first | ((with_reducible show wpAny _ _ (subscriptTail _ _ _ _) _ _ _); (k_here; (with_reducible show wpAny _ _ (subscriptTail _ (PySem.Expr.Slice none none (some _) _) (Value.ref _) (Value.ref _)) _ _ _); k_dflt (refine' rev_list (by k_asm) (by k_asm) (by k_mem) (by assumption) ?_; k_whole; intro z_D9 z_h9 z_F9 z_N9))) | ((with_reducible show wpAny _ _ (compareOp CmpOp.Eq (Value.str _ _) (Value.str _ _)) _ _ _); (k_here; k_dflt (refine' eq_strB (by assumption) ?_; k_whole))) | ((with_reducible show wpAny _ _ (compareOp CmpOp.NotEq (Value.ref _) (Value.ref _)) _ _ _); (k_here; k_dflt (refine' ne_strTupsB (by k_asm) (by k_mem) (by k_mem) (by kde_strs) (by kde_strs) (by ktr_units) (by assumption) ?_; k_whole))) | ((with_reducible show wpAny _ _ (compareOp CmpOp.Eq (Value.ref _) (Value.ref _)) _ _ _); (k_here; k_dflt (refine' eq_strTupsB (by k_asm) (by k_mem) (by k_mem) (by kde_strs) (by kde_strs) (by ktr_units) (by assumption) ?_; k_whole))) | ((with_reducible show wpAny _ _ (subscriptTail _ _ _ _) _ _ _); (k_here; (with_reducible show wpAny _ _ (subscriptTail _ _ (Value.ref _) (Value.ref _)) _ _ _); k_dflt (refine' seen_item (by k_asm) (by first | assumption | exact SeenTab.mono (by assumption) (by intro _ z_hq9; repeat (first | exact z_hq9 | apply List.Mem.tail))) (by k_mem) (by kde_strs) (by ktr_units) (by assumption) ?_; k_whole); intro z_t9)) | ((with_reducible show wpAny _ _ (subscriptTail _ _ _ _) _ _ _); (k_here; (with_reducible show wpAny _ _ (subscriptTail _ _ (Value.ref _) (Value.int _ _)) _ _ _); k_dflt (refine' item_last (by k_asm) (by k_mem) (by kde_strs) (by assumption) (by assumption) ?_; k_whole); intro _)) | ((with_reducible show wpAny _ _ (subscriptTail _ _ _ _) _ _ _); (k_here; (with_reducible show wpAny _ _ (subscriptTail _ (PySem.Expr.Slice _ _ _ _) (Value.ref _) (Value.ref _)) _ _ _); k_dflt (refine' init_strs (by k_asm) (by k_asm) (by k_mem) (by kde_strs) (by assumption) (by assumption) ?_; k_whole; intro z_D9 z_vs9 z_h9 z_F9 z_N9 z_S9 z_l9; (try k_sweep)))) | walk1) | (dsimp only; walk1) | (leave1; try dsimp only))))
        rename Fr _ _ _ _ => lF
        rename News _ _ _ _ => lN
        have hkx : (yp, xb) ∈ kids S p := List.mem_filter.mpr ⟨hxS, by simpa using hkid⟩
        have hfn : isFn yp = false := by simp only [isFn, hnm]; simpa using hf
        have hyL := strTup_of lN (by repeat (first | exact hyp' | apply List.Mem.tail)) hyv
        have hsL := seen_of lN ST1 (by intro _ hq9; repeat (first | exact hq9 | apply List.Mem.tail))
        k_dflt (refine' Spec.use (hrec _ hkx hfn ya _ hyL hsL) ?k1 ?k2 ?k3 ?k4 ?k5 ?k6 ?k7 ?k8 ?k9 ?_; (case k1 => k_asm); (case k2 => k_asm); (case k3 => k_asm); (case k4 => k_asm); (case k5 => k_asm); (case k6 => k_asm); (case k7 => first | exact rfl | assumption); (case k8 => ktr_room); (case k9 => ktr_units); k_whole)
        intro r9 h9 tk9 n9 F9 N9 P9
        obtain ⟨K9, D9, ws, k9, rfl, hD9, hz9, hs9⟩ := P9
        have hr9 : ∀ q ∈ rest, q ∈ n9 := fun q hq => K9 q (by repeat (first | exact hq | apply List.Mem.tail))
        have hfd9 : (fd, listOf vs.toArray n) ∈ n9 := K9 _ (by repeat (first | exact List.Mem.head _ | apply List.Mem.tail))
        have hI9 : (I, oI) ∈ n9 := K9 _ (by repeat (first | exact List.Mem.head _ | apply List.Mem.tail))
        clear lF lN hyL hsL K9 hfdm hIm U
        have hyp9 := hr9 _ hyp'
        have ST9 := ST1.mono hr9
        (try dsimp only)
        repeat' (first | ((fail_if_success (with_reducible show wpAny _ _ (exec (Stmt.While _ _ _ _) _) _ _ _)); (fail_if_success (with_reducible show wpAny _ _ (exec (Stmt.For _ _ _ _ _) _) _ _ _)); (first | ((with_reducible show wpAny _ _ (exec _ _) _ _ _); k_fold) | (k_unfold; (try dsimp only)) | (k_end; wrow_close) | (first | ((with_reducible show wpAny _ _ (subscriptTail _ _ _ _) _ _ _); (k_here; (with_reducible show wpAny _ _ (subscriptTail _ (PySem.Expr.Slice none none (some _) _) (Value.ref _) (Value.ref _)) _ _ _); k_dflt (refine' rev_list (by k_asm) (by k_asm) (by k_mem) (by assumption) ?_; k_whole; intro z_D9 z_h9 z_F9 z_N9))) | ((with_reducible show wpAny _ _ (compareOp CmpOp.Eq (Value.str _ _) (Value.str _ _)) _ _ _); (k_here; k_dflt (refine' eq_strB (by assumption) ?_; k_whole))) | ((with_reducible show wpAny _ _ (compareOp CmpOp.NotEq (Value.ref _) (Value.ref _)) _ _ _); (k_here; k_dflt (refine' ne_strTupsB (by k_asm) (by k_mem) (by k_mem) (by kde_strs) (by kde_strs) (by ktr_units) (by assumption) ?_; k_whole))) | ((with_reducible show wpAny _ _ (compareOp CmpOp.Eq (Value.ref _) (Value.ref _)) _ _ _); (k_here; k_dflt (refine' eq_strTupsB (by k_asm) (by k_mem) (by k_mem) (by kde_strs) (by kde_strs) (by ktr_units) (by assumption) ?_; k_whole))) | ((with_reducible show wpAny _ _ (subscriptTail _ _ _ _) _ _ _); (k_here; (with_reducible show wpAny _ _ (subscriptTail _ _ (Value.ref _) (Value.ref _)) _ _ _); k_dflt (refine' seen_item (by k_asm) (by first | assumption | exact SeenTab.mono (by assumption) (by intro _ z_hq9; repeat (first | exact z_hq9 | apply List.Mem.tail))) (by k_mem) (by kde_strs) (by ktr_units) (by assumption) ?_; k_whole); intro z_t9)) | ((with_reducible show wpAny _ _ (subscriptTail _ _ _ _) _ _ _); (k_here; (with_reducible show wpAny _ _ (subscriptTail _ _ (Value.ref _) (Value.int _ _)) _ _ _); k_dflt (refine' item_last (by k_asm) (by k_mem) (by kde_strs) (by assumption) (by assumption) ?_; k_whole); intro _)) | ((with_reducible show wpAny _ _ (subscriptTail _ _ _ _) _ _ _); (k_here; (with_reducible show wpAny _ _ (subscriptTail _ (PySem.Expr.Slice _ _ _ _) (Value.ref _) (Value.ref _)) _ _ _); k_dflt (refine' init_strs (by k_asm) (by k_asm) (by k_mem) (by kde_strs) (by assumption) (by assumption) ?_; k_whole; intro z_D9 z_vs9 z_h9 z_F9 z_N9 z_S9 z_l9; (try k_sweep)))) | walk1) | (dsimp only; walk1) | (leave1; (try dsimp only)))))
        refine kde_tupleOf F9 N9 (News.isList N9 hD9) (by simp; omega) (zs := ws) (by simp) ?_
        intro ti h8 F8 N8 l8
        clear F9 N9
        have hti : (ti, tupObj ws) ∈ (ti, tupObj ws) :: n9 := .head _
        have hyp8 : (ya, tupObj vsp) ∈ (ti, tupObj ws) :: n9 := .tail _ hyp9
        repeat' (first | ((fail_if_success (with_reducible show wpAny _ _ (exec (Stmt.While _ _ _ _) _) _ _ _)); (fail_if_success (with_reducible show wpAny _ _ (exec (Stmt.For _ _ _ _ _) _) _ _ _)); (first | ((with_reducible show wpAny _ _ (exec _ _) _ _ _); k_fold) | (k_unfold; (try dsimp only)) | (k_end; wrow_close) | (first | ((with_reducible show wpAny _ _ (subscriptTail _ _ _ _) _ _ _); (k_here; (with_reducible show wpAny _ _ (subscriptTail _ (PySem.Expr.Slice none none (some _) _) (Value.ref _) (Value.ref _)) _ _ _); k_dflt (refine' rev_list (by k_asm) (by k_asm) (by k_mem) (by assumption) ?_; k_whole; intro z_D9 z_h9 z_F9 z_N9))) | ((with_reducible show wpAny _ _ (compareOp CmpOp.Eq (Value.str _ _) (Value.str _ _)) _ _ _); (k_here; k_dflt (refine' eq_strB (by assumption) ?_; k_whole))) | ((with_reducible show wpAny _ _ (compareOp CmpOp.NotEq (Value.ref _) (Value.ref _)) _ _ _); (k_here; k_dflt (refine' ne_strTupsB (by k_asm) (by k_mem) (by k_mem) (by kde_strs) (by kde_strs) (by ktr_units) (by assumption) ?_; k_whole))) | ((with_reducible show wpAny _ _ (compareOp CmpOp.Eq (Value.ref _) (Value.ref _)) _ _ _); (k_here; k_dflt (refine' eq_strTupsB (by k_asm) (by k_mem) (by k_mem) (by kde_strs) (by kde_strs) (by ktr_units) (by assumption) ?_; k_whole))) | ((with_reducible show wpAny _ _ (subscriptTail _ _ _ _) _ _ _); (k_here; (with_reducible show wpAny _ _ (subscriptTail _ _ (Value.ref _) (Value.ref _)) _ _ _); k_dflt (refine' seen_item (by k_asm) (by first | assumption | exact SeenTab.mono (by assumption) (by intro _ z_hq9; repeat (first | exact z_hq9 | apply List.Mem.tail))) (by k_mem) (by kde_strs) (by ktr_units) (by assumption) ?_; k_whole); intro z_t9)) | ((with_reducible show wpAny _ _ (subscriptTail _ _ _ _) _ _ _); (k_here; (with_reducible show wpAny _ _ (subscriptTail _ _ (Value.ref _) (Value.int _ _)) _ _ _); k_dflt (refine' item_last (by k_asm) (by k_mem) (by kde_strs) (by assumption) (by assumption) ?_; k_whole); intro _)) | ((with_reducible show wpAny _ _ (subscriptTail _ _ _ _) _ _ _); (k_here; (with_reducible show wpAny _ _ (subscriptTail _ (PySem.Expr.Slice _ _ _ _) (Value.ref _) (Value.ref _)) _ _ _); k_dflt (refine' init_strs (by k_asm) (by k_asm) (by k_mem) (by kde_strs) (by assumption) (by assumption) ?_; k_whole; intro z_D9 z_vs9 z_h9 z_F9 z_N9 z_S9 z_l9; (try k_sweep)))) | walk1) | (dsimp only; walk1) | (leave1; (try dsimp only)))))
        rename Fr _ _ _ _ => lF
        rename News _ _ _ _ => lN
        have hL9 := mem_of lN (by intro q hq; repeat (first | exact hq | apply List.Mem.tail) : ∀ q ∈ (ti, tupObj ws) :: n9, q ∈ _)
        refine append_any lF lN (hL9 _ (.tail _ hfd9)) (by omega) ?_
        intro h7 l7 F7 N7 K7 A7
        repeat' (first | ((fail_if_success (with_reducible show wpAny _ _ (exec (Stmt.While _ _ _ _) _) _ _ _)); (fail_if_success (with_reducible show wpAny _ _ (exec (Stmt.For _ _ _ _ _) _) _ _ _)); (first | ((with_reducible show wpAny _ _ (exec _ _) _ _ _); k_fold) | (k_unfold; (try dsimp only)) | (k_end; wrow_close) | (first | ((with_reducible show wpAny _ _ (subscriptTail _ _ _ _) _ _ _); (k_here; (with_reducible show wpAny _ _ (subscriptTail _ (PySem.Expr.Slice none none (some _) _) (Value.ref _) (Value.ref _)) _ _ _); k_dflt (refine' rev_list (by k_asm) (by k_asm) (by k_mem) (by assumption) ?_; k_whole; intro z_D9 z_h9 z_F9 z_N9))) | ((with_reducible show wpAny _ _ (compareOp CmpOp.Eq (Value.str _ _) (Value.str _ _)) _ _ _); (k_here; k_dflt (refine' eq_strB (by assumption) ?_; k_whole))) | ((with_reducible show wpAny _ _ (compareOp CmpOp.NotEq (Value.ref _) (Value.ref _)) _ _ _); (k_here; k_dflt (refine' ne_strTupsB (by k_asm) (by k_mem) (by k_mem) (by kde_strs) (by kde_strs) (by ktr_units) (by assumption) ?_; k_whole))) | ((with_reducible show wpAny _ _ (compareOp CmpOp.Eq (Value.ref _) (Value.ref _)) _ _ _); (k_here; k_dflt (refine' eq_strTupsB (by k_asm) (by k_mem) (by k_mem) (by kde_strs) (by kde_strs) (by ktr_units) (by assumption) ?_; k_whole))) | ((with_reducible show wpAny _ _ (subscriptTail _ _ _ _) _ _ _); (k_here; (with_reducible show wpAny _ _ (subscriptTail _ _ (Value.ref _) (Value.ref _)) _ _ _); k_dflt (refine' seen_item (by k_asm) (by first | assumption | exact SeenTab.mono (by assumption) (by intro _ z_hq9; repeat (first | exact z_hq9 | apply List.Mem.tail))) (by k_mem) (by kde_strs) (by ktr_units) (by assumption) ?_; k_whole); intro z_t9)) | ((with_reducible show wpAny _ _ (subscriptTail _ _ _ _) _ _ _); (k_here; (with_reducible show wpAny _ _ (subscriptTail _ _ (Value.ref _) (Value.int _ _)) _ _ _); k_dflt (refine' item_last (by k_asm) (by k_mem) (by kde_strs) (by assumption) (by assumption) ?_; k_whole); intro _)) | ((with_reducible show wpAny _ _ (subscriptTail _ _ _ _) _ _ _); (k_here; (with_reducible show wpAny _ _ (subscriptTail _ (PySem.Expr.Slice _ _ _ _) (Value.ref _) (Value.ref _)) _ _ _); k_dflt (refine' init_strs (by k_asm) (by k_asm) (by k_mem) (by kde_strs) (by assumption) (by assumption) ?_; k_whole; intro z_D9 z_vs9 z_h9 z_F9 z_N9 z_S9 z_l9; (try k_sweep)))) | walk1) | (dsimp only; walk1) | (leave1; (try dsimp only)))))
        have hit : (_, tupObj [.str (Str.ofString "mod") _, .int 0 _, .str nm _, .ref ti, .bool xb]) ∈ l7 := K7 _ (.head _) (off_cls lN (.head _) (hL9 _ (.tail _ hfd9)) rfl rfl (by decide))
        have hti7 : (ti, tupObj ws) ∈ l7 := K7 _ (hL9 _ (.head _)) (off_cls lN (hL9 _ (.head _)) (hL9 _ (.tail _ hfd9)) rfl rfl (by decide))
        have hI7 : (I, oI) ∈ l7 := K7 _ (hL9 _ (.tail _ hI9)) hIfd
        have hs7 : ∀ q ∈ rest, q ∈ l7 := fun q hq => K7 q (hL9 _ (.tail _ (hr9 q hq))) (hfd q hq)
        refine items_turn_end (ws := _) (n := n + 1) (rest := rest) F7 N7 (.tail _ hI7) (.head _) hIfd (fun q hq => .tail _ (hs7 q hq)) hfd hI fun rest' a1 a2 a3 a4 => ⟨And.intro (.tail _ (a1 _ (hbase _ hmd))) trivial, ys, S1 ++ [(yp, xb)], S2, _, _, rest', _, hx2, hys, by rw [hSS, List.append_assoc]; rfl, fun x hx => hka x (.tail _ hx), rfl, fun q hq => a1 q (hbase q hq), a3, a4, by rw [kids_snoc_in hkid]; exact (all2_mono hsub a1 hAll).snoc ⟨_, rfl, .inr ⟨hfn, nm, ti, ws, _, _, _, hnm, a2 _ (.tail _ hit) (off_cls N7 (.tail _ hit) (.tail _ hI7) rfl hcI' (by decide)) (A7 _ hit), a2 _ (.tail _ hti7) (off_cls N7 (.tail _ hti7) (.tail _ hI7) rfl hcI' (by decide)) (A7 _ hti7), hsub _ _ _ _ (fun q hq ht => a2 q (.tail _ (K7 q (hL9 _ (.tail _ hq)) (off_cls lN (hL9 _ (.tail _ hq)) (hL9 _ (.tail _ hfd9)) ht rfl (by decide)))) (off_cls lN (hL9 _ (.tail _ hq)) (hL9 _ (.tail _ hI9)) ht hcI' (by decide)) (off_cls lN (hL9 _ (.tail _ hq)) (hL9 _ (.tail _ hfd9)) ht rfl (by decide))) hs9⟩⟩, by simp; omega, over_path⟩
    · have hkid' : decide (yp.dropLast = p) = false := by simpa using hkid
      repeat' (first | ((fail_if_success (with_reducible show wpAny _ _ (exec (Stmt.While _ _ _ _) _) _ _ _)); (fail_if_success (with_reducible show wpAny _ _ (exec (Stmt.For _ _ _ _ _) _) _ _ _)); (first | ((with_reducible show wpAny _ _ (exec _ _) _ _ _); k_fold) | (k_unfold; (try dsimp only)) | (k_end; wrow_close) | (first | ((with_reducible show wpAny _ _ (subscriptTail _ _ _ _) _ _ _); (k_here; (with_reducible show wpAny _ _ (subscriptTail _ (PySem.Expr.Slice none none (some _) _) (Value.ref _) (Value.ref _)) _ _ _); k_dflt (refine' rev_list (by k_asm) (by k_asm) (by k_mem) (by assumption) ?_; k_whole; intro z_D9 z_h9 z_F9 z_N9))) | ((with_reducible show wpAny _ _ (compareOp CmpOp.Eq (Value.str _ _) (Value.str _ _)) _ _ _); (k_here; k_dflt (refine' eq_strB (by assumption) ?_; k_whole))) | ((with_reducible show wpAny _ _ (compareOp CmpOp.NotEq (Value.ref _) (Value.ref _)) _ _ _); (k_here; k_dflt (refine' ne_strTupsB (by k_asm) (by k_mem) (by k_mem) (by kde_strs) (by kde_strs) (by ktr_units) (by assumption) ?_; k_whole))) | ((with_reducible show wpAny _ _ (compareOp CmpOp.Eq (Value.ref _) (Value.ref _)) _ _ _); (k_here; k_dflt (refine' eq_strTupsB (by k_asm) (by k_mem) (by k_mem) (by kde_strs) (by kde_strs) (by ktr_units) (by assumption) ?_; k_whole))) | ((with_reducible show wpAny _ _ (subscriptTail _ _ _ _) _ _ _); (k_here; (with_reducible show wpAny _ _ (subscriptTail _ _ (Value.ref _) (Value.ref _)) _ _ _); k_dflt (refine' seen_item (by k_asm) (by first | assumption | exact SeenTab.mono (by assumption) (by intro _ z_hq9; repeat (first | exact z_hq9 | apply List.Mem.tail))) (by k_mem) (by kde_strs) (by ktr_units) (by assumption) ?_; k_whole); intro z_t9)) | ((with_reducible show wpAny _ _ (subscriptTail _ _ _ _) _ _ _); (k_here; (with_reducible show wpAny _ _ (subscriptTail _ _ (Value.ref _) (Value.int _ _)) _ _ _); k_dflt (refine' item_last (by k_asm) (by k_mem) (by kde_strs) (by assumption) (by assumption) ?_; k_whole); intro _)) | ((with_reducible show wpAny _ _ (subscriptTail _ _ _ _) _ _ _); (k_here; (with_reducible show wpAny _ _ (subscriptTail _ (PySem.Expr.Slice _ _ _ _) (Value.ref _) (Value.ref _)) _ _ _); k_dflt (refine' init_strs (by k_asm) (by k_asm) (by k_mem) (by kde_strs) (by assumption) (by assumption) ?_; k_whole; intro z_D9 z_vs9 z_h9 z_F9 z_N9 z_S9 z_l9; (try k_sweep)))) | walk1) | (dsimp only; walk1) | (leave1; (try dsimp only)))))
      rename Fr _ _ _ _ => lF
      rename News _ _ _ _ => lN
      refine items_turn_end (ws := vs) (n := n) (rest := rest) lF lN (by k_mem) (by k_mem) hIfd (by intro q hq; repeat (first | exact hq | apply List.Mem.tail)) hfd hI fun rest' a1 a2 a3 a4 => ⟨And.intro (.tail _ (a1 _ (hbase _ hmd))) trivial, ys, S1 ++ [(yp, xb)], S2, vs, n, rest', _, hx2, hys, by rw [hSS, List.append_assoc]; rfl, fun x hx => hka x (.tail _ hx), rfl, fun q hq => a1 q (hbase q hq), a3, a4, by rw [kids_snoc_out hkid]; exact all2_mono hsub a1 hAll, by simp; omega, over_path⟩
noncomputable def ItemsK (S : Seen) (t : Bool) : Nat → List (Addr × Obj) → Path → List Value → Prop
  | 0 => fun _ _ _ => False
  | k + 1 => fun l p vs => All2 (fun v x => ItemAt l (ItemsK S t k l) x v) vs (ordered t (kids S p))
theorem itemsK_ok (S : Seen) (t : Bool) : ∀ k, SubOk (ItemsK S t k)
  | 0 => fun _ _ _ _ _ h => h.elim
  | k + 1 => fun _ _ _ _ h A => All2.mono A fun _ _ r => r.mono (itemsK_ok S t k) h
theorem kid_len {S : Seen} {p : Path} {x : Path × Bool} (hx : x ∈ kids S p) (hne : ∀ x ∈ S, x.1 ≠ [] ∧ x.1.length ≤ 100) : x ∈ S ∧ x.1.length = p.length + 1 := by
  obtain ⟨h1, h2⟩ := List.mem_filter.mp hx
  have h3 : x.1.dropLast = p := by simpa using h2
  have h4 := List.length_pos_iff.mpr (hne x h1).1
  refine ⟨h1, ?_⟩
  rw [← h3, List.length_dropLast]
  omega
theorem items_spec (w : World) (sd : Addr) (S : Seen) (t : Bool) (hS : S.length ≤ 100) (hne : ∀ x ∈ S, x.1 ≠ [] ∧ x.1.length ≤ 100) (hnd : (S.map (·.1)).Nodup) : ∀ (n : Nat) (p : Path) (pa : Addr) (news : List (Addr × Obj)),
    (∀ x ∈ S, x.1.length ≤ p.length + n) → StrTup news pa p → SeenTab w news sd S →
    Spec w 307 (4 * n + 4) (80 * n + 80) [.ref pa, .ref sd, .bool t] news (ItemsPost news (ItemsK S t (n + 1)) p)
  | 0, p, pa, news, hl, hp, T => items_step w sd pa S p t 0 0 (ItemsK S t 0) (itemsK_ok S t 0) news
      (fun x hx _ => absurd (hl x (kid_len hx hne).1) (by rw [(kid_len hx hne).2]; omega)) hS hne hnd hp T
  | n + 1, p, pa, news, hl, hp, T => items_step w sd pa S p t (4 * n + 4) (80 * n + 80) (ItemsK S t (n + 1)) (itemsK_ok S t (n + 1)) news
      (fun x hx _ pa' news' hp' T' => items_spec w sd S t hS hne hnd n x.1 pa' news' (fun y hy => by rw [(kid_len hx hne).2]; have := hl y hy; omega) hp' T') hS hne hnd hp T
end

local macro_rules | `(tactic| walk_at "setAttr ref") => `(tactic| (k_here; k_dflt (refine' set_dictN (by k_asm) (by k_asm) (by k_asm) (by k_inst) (by exact rfl) (by k_is) (by k_is) (by k_is) (by k_is) (by k_get) (by k_put) (by k_upd) (by exact Nat.le_of_ble_eq_true rfl) ?_); k_whole; intro h' t' F' N'; (try k_sweep)))
local macro_rules | `(tactic| walk_at "eval Dict nil nil") => `(tactic| (k_here; k_dflt (refine' new_dictN (by k_asm) (by k_asm) (TopRead.nolimit (by k_asm)) ?_); k_whole; intro d' h' t' o' F' N' l1 lo' hs'; (try k_lt l1); (try k_sweep)))

/- F15 -/
section

theorem table_make (w : World) (news : List (Addr × Obj)) (mean : ExcName → Option Value) (mg mb : Str → Option Value) (dp un : Nat) (gd : Option (List Code)) (cn : Str) (cs : Scope) (a : Addr) (ccd : Value) (cl : List (Str × Addr)) (outer : List Env) (A₀ : Around) (base h₀ : Heap) (L : Addr) (m : Str → Option Value) (s : Shared)
    (Q E : Value → Shared → Prop) (H : Here w mean mg mb A₀ base h₀ outer) (F : Fr h₀ L s.heap m) (N : News h₀ L s.heap news) (hk : cs.kind = .function) (hd : dp + 3 < recursionLimit) (hu : un + 80 < cLine)
    (hret : ∀ r h' tk' news', Fr h₀ L h' m → News h₀ L h' news' → (∃ tb td ty va us k1 k2 k3 oT oV oU, r = .ref tb ∧ news' = (us, oU) :: (va, oV) :: (ty, oT) :: (tb, instObj 142 td) :: (td, dictOf (tabDict w k1 k2 k3 ty va us) 3) :: news ∧
      oT.IsDictOf (kS w) [] ∧ oV.IsDictOf (kS w) [] ∧ oU.IsDictOf (kS w) [] ∧ (ty == sysModules) = false ∧ (va == sysModules) = false ∧ (us == sysModules) = false ∧ (∀ p ∈ news, p.1 < td) ∧ td < tb ∧ tb < ty ∧ ty < va ∧ va < us) → Q r { s with heap := h', toks := tk' }) :
    wpAny (model Challenge.rw_up0052_01.row.prog w) (ktrTop dp un gd cn cs L a ccd cl outer) (call (.ref 142) []) Q E s := by
  revert hret hu hd hk N F H
  refine fill w ?_
  k_fill
  intro _ _
  intro H F N hk hd hu hret
  obtain ⟨B, X, T, BO⟩ := H
  k_dflt (refine' call_cls ?k1 ?k2 ?k3 ?k4 ?k5 ?k6 ?_; (case k1 => k_asm); (case k2 => k_asm); (case k3 => k_asm); (case k4 => k_is); (case k5 => k_is); (case k6 => k_is); k_whole; intro x' d' h' F' N' l1 l2; (try k_lt l1); (try k_lt2 l2); (try k_sweep))
  k_dflt cell_enter
  ktr_step
  all_goals exact hret _ _ _ _ (by assumption) (by assumption) ⟨_, _, _, _, _, _, _, _, _, _, _, rfl, rfl, by assumption, by assumption, by assumption, by assumption, by assumption, by assumption, l1, l2, And.left (by assumption : _ < _ ∧ _ < _ ∧ AllLt _ news), And.left (by assumption : _ < _ ∧ _ < _ ∧ _ < _ ∧ AllLt _ news), And.left (by assumption : _ < _ ∧ _ < _ ∧ _ < _ ∧ _ < _ ∧ AllLt _ news)⟩
end

/- F9 -/
section
theorem snoc_ne {α : Type} (l : List α) (x : α) : l ++ [x] ≠ [] := by simp

theorem lift_mem {x : Addr × Obj} {l l' : List (Addr × Obj)} (h : ∀ q ∈ l, q ∈ l') (m : x ∈ l) : x ∈ l' := h x m
local macro_rules | `(tactic| k_mem) => `(tactic| first | assumption | exact lift_mem (by assumption) (by assumption) | fail "k_mem")
theorem add_strs {prog : Program} {w : World} {A : Around} {E : Value → Shared → Prop} {h₀ : Heap} {L : Addr} {m : Str → Option Value} {news : List (Addr × Obj)} {a b : Addr} {us vs : List Value} {p q : List Str} {Q : Value → Shared → Prop} {hp : Heap} {g : Array GenState} {d : Drawn} {tk : Nat} {os : OsState}
    (F : Fr h₀ L hp m) (N : News h₀ L hp news) (h1 : (a, tupObj us) ∈ news) (h2 : (b, tupObj vs) ∈ news) (s1 : StrsAre us p) (s2 : StrsAre vs q) (hz1 : p.length ≤ 100) (hz2 : q.length ≤ 100)
    (h : ∀ D ws h', Fr h₀ L h' m → News h₀ L h' ((D, tupObj ws) :: news) → StrsAre ws (p ++ q) → Q (.ref D) ⟨h', g, d, tk, os⟩) :
    wpAny (model prog w) A (binaryOp .Add (.ref a) (.ref b)) Q E ⟨hp, g, d, tk, os⟩ := by
  have l1 := strsAre_len s1
  have l2 := strsAre_len s2
  refine add_tuples (s := ⟨hp, g, d, tk, os⟩) (vs := us) (ws := vs) F N ⟨_, (N _ h1).1, rfl, _, rfl⟩ ⟨_, (N _ h2).1, rfl, _, rfl⟩ (fun e => ?_) (fun _ e => ?_) (fun _ _ h' F' N' => h _ _ h' F' N' (strsAre_append s1 s2)) (Nat.le_trans (show us.length + vs.length ≤ 200 by omega) (by decide +kernel))
  · have e1 : p = [] := List.eq_nil_of_length_eq_zero (by rw [← l1, e]; rfl)
    exact h b vs hp F (news_dup N h2) (by rw [e1]; exact s2)
  · have e2 : q = [] := List.eq_nil_of_length_eq_zero (by rw [← l2, e]; rfl)
    exact h a us hp F (news_dup N h1) (by rw [e2, List.append_nil]; exact s1)


theorem over_turn3 {m u : Str → Option Value} {a b c : Str} {v0 v' bv cv : Value} :
    (fun y => if y = a then some v' else if y = c then some cv else if y = b then some bv else if y = a then some v0 else if y = b then u y else if y = c then u y else m y) =
    fun y => if y = a then some v' else if y = b then (fun y => if y = c then some cv else some bv) y else if y = c then (fun y => if y = c then some cv else some bv) y else m y := by
  funext y
  by_cases e1 : y = a
  · simp [e1]
  by_cases e2 : y = b
  · subst e2; simp [e1]
  by_cases e3 : y = c
  · simp [e1, e3]
  simp [e1, e2, e3]
theorem due_next {S : Seen} {p : Path} {n : Str} {l' : List Str} {b : Bool} (hL : LeftOk (n :: l')) (hs : seenAt S (p ++ [n]) = some b) : (l' ≠ [] → LeftOk l' ∧ isMod S (p ++ [n])) ∧ (l' = [] → (seenAt S (p ++ [n])).isSome = true) := by
  refine ⟨fun hne => ?_, fun _ => by rw [hs]; rfl⟩
  rcases hL.tail with ⟨e, _⟩ | ⟨_, hz, hr⟩
  · exact absurd e hne
  · exact ⟨hr, .inr ⟨by rw [hs]; rfl, by simp [isFn, hz]⟩⟩
theorem due_in {asker p : Path} {n : Str} {X R : Res} (h : List.take p.length asker = (p ++ [n]).dropLast) (hg : (if (false || decide (List.take p.length asker = p)) = true then X else Res.vis) = R) : X = R := by
  rw [List.dropLast_concat] at h
  have e : decide (List.take p.length asker = p) = true := by simpa using h
  rw [e] at hg
  exact hg
theorem due_out {asker p : Path} {n : Str} {X R : Res} (h : ¬ List.take p.length asker = (p ++ [n]).dropLast) (hg : (if (false || decide (List.take p.length asker = p)) = true then X else Res.vis) = R) : R = .vis := by
  rw [List.dropLast_concat] at h
  have e : decide (List.take p.length asker = p) = false := by simpa using h
  rw [e] at hg
  exact hg.symm
theorem due_end {h₀ : Heap} {L : Addr} {s₁ : Shared} {I : Addr} {o1 o2 : Obj} {news1 : List (Addr × Obj)} {D : Addr} {ws : List Value} {hp : Heap} {tk : Nat} {m' : Str → Option Value} {rest : (Str → Option Value) → List (Addr × Obj) → Prop} {l : List (Addr × Obj)}
    (F : Fr h₀ L hp m') (N : News h₀ L hp l) (hl : ∀ p ∈ (D, tupObj ws) :: (I + 1, o1) :: (I, o2) :: news1, p ∈ l)
    (hoff : ∀ p ∈ news1, p.1 ≠ I ∧ p.1 ≠ I + 1) (h1 : o1.cls = .type "enumerate") (h2 : o2.cls = .type "tuple_iterator")
    (r : (∀ p ∈ (D, tupObj ws) :: news1, p.1 ≠ I ∧ p.1 ≠ I + 1) → rest m' ((D, tupObj ws) :: news1)) : UnrEndW h₀ L s₁ [(I + 1, o1), (I, o2)] rest { s₁ with heap := hp, toks := tk } := by
  have ne : ∀ (q : Addr) (o : Obj) (c : String), (q, o) ∈ l → o.cls = .type c → c ≠ "tuple" → D ≠ q := by
    intro q o c hq hc hne e
    have e1 := (N _ hq).1
    have e2 := (N _ (hl _ (.head _))).1
    dsimp only at e1 e2
    rw [← e, e2] at e1
    have e3 := congrArg Obj.cls (Option.some.inj e1)
    rw [hc] at e3
    injection e3 with e4
    exact hne e4.symm
  have d1 := ne _ _ _ (hl _ (.tail _ (.head _))) h1 (by decide)
  have d2 := ne _ _ _ (hl _ (.tail _ (.tail _ (.head _)))) h2 (by decide)
  have hoff2 : ∀ p ∈ (D, tupObj ws) :: news1, p.1 ≠ I ∧ p.1 ≠ I + 1 := by
    intro p hp
    rcases List.mem_cons.mp hp with rfl | hp
    · exact ⟨d2, d1⟩
    · exact hoff p hp
  refine ⟨hp, tk, m', (D, tupObj ws) :: news1, rfl, F, fun p hp => ?_, fun p hp q hq => ?_, r hoff2⟩
  · refine N p (hl p ?_)
    simp only [List.cons_append, List.nil_append, List.mem_cons] at hp ⊢
    rcases hp with h | h | h | h
    · exact .inr (.inl h)
    · exact .inr (.inr (.inl h))
    · exact .inl h
    · exact .inr (.inr (.inr h))
  · rcases List.mem_cons.mp hq with rfl | hq
    · exact (hoff2 p hp).2
    · rw [List.mem_singleton.mp hq]; exact (hoff2 p hp).1

inductive DueJ (I : Addr) (S : Seen) (asker : Path) (n9 : List (Addr × Obj)) (N0 : Nat) (R : Res) (m0 : Str → Option Value) (xs : List Itm) (m : Str → Option Value) (news : List (Addr × Obj)) : Prop
  | mk : ∀ (i : Nat) (p : Path) (l : List Str) (vl us : List Value) (H : Addr) (u : Str → Option Value), (xs = enumItems i vl) → (StrsAre vl l) → (i + l.length = N0) → ((∀ q ∈ n9, q ∈ news)) → ((H, tupObj us) ∈ news) → (StrsAre us p) → ((∀ q ∈ news, q.1 ≠ I ∧ q.1 ≠ I + 1)) → ((l ≠ [] → LeftOk l ∧ isMod S p)) → ((l = [] → (seenAt S p).isSome = true)) → (goP S asker p l = R) → (m = (fun y => if y = Str.ofString "here" then some (.ref H) else if y = Str.ofString "at" then u y else if y = Str.ofString "name" then u y else m0 y)) → DueJ I S asker n9 N0 R m0 xs m news

local macro_rules | `(tactic| walk_at "call type:enumerate") => `(tactic| (k_here; (with_reducible show wpAny _ _ (call (Value.type _) [Value.ref _]) (fun xv s₁ => wpAny _ _ (pyIter xv) (fun it s₂ => TurnsAt _ _ _ _ _ _ _ _ _ it s₂) _ s₁) _ _); (rename Fr _ _ _ _ => lF'); (rename News _ _ _ _ => lN'); (with_unfolding_all refine enum_tupTurns (by rfl) lF' lN' (by k_mem) ?_); intro i' l1))

theorem over_three {m : Str → Option Value} {a b c : Str} {v : Value} (h1 : m a = some v) : m = fun y => if y = a then some v else if y = b then m y else if y = c then m y else m y := by
  funext y
  by_cases e1 : y = a
  · rw [if_pos e1, e1]; exact h1
  · rw [if_neg e1]; simp
theorem due_spec (w : World) (sd na aa : Addr) (S : Seen) (asker : Path) (ns : List Str) (news : List (Addr × Obj))
    (ST : SeenTab w news sd S) (A : AskOk S asker) (haa : StrTup news aa asker) (hns : StrTup news na ns) (hL : LeftOk ns) (hz : ns.length ≤ 100) (hza : asker.length ≤ 100)
    (WQ : ∀ p, isMod S p → withinF (pth asker) (pth p) = decide (asker.take p.length = p))
    (JQ : ∀ p, (seenAt S p).isSome = true → Txt.join (Str.ofString "::") p = pth p ∧ p.length ≤ 20 ∧ (p.map (·.length)).sum ≤ 10000) :
    Spec w 321 6 100 [.ref aa, .ref na, .ref sd] news
      (fun r news' => (∀ p ∈ news, p ∈ news') ∧ ∃ tk, r = .str (resStr (findP S asker ns)) tk) := by
  unfold Spec
  refine fill w ?_
  k_fill
  intro _ _
  intro mean mg mb dp un gd cn cs a ccd cl outer A₀ base h₀ L m s Q E H F N hk hd hu hret
  obtain ⟨B, X, T, BO⟩ := H
  cases hb : beginP asker ns with
  | none =>
    k_dflt cell_enter
    repeat' (first | ((fail_if_success (with_reducible show wpAny _ _ (exec (Stmt.While _ _ _ _) _) _ _ _)); (fail_if_success (with_reducible show wpAny _ _ (exec (Stmt.For _ _ _ _ _) _) _ _ _)); (first | ((with_reducible show wpAny _ _ (exec _ _) _ _ _); k_fold) | (k_unfold; (try dsimp only)) | (k_end; wrow_close) | (first | ((with_reducible show wpAny _ _ (subscriptTail _ _ _ _) _ _ _); (k_here; (with_reducible show wpAny _ _ (subscriptTail _ _ (Value.ref _) (Value.ref _)) _ _ _); k_dflt (refine' seen_item (by k_asm) (by first | assumption | exact SeenTab.mono (by assumption) (fun _ h => List.Mem.tail _ h) | exact SeenTab.mono (by assumption) (fun _ h => List.Mem.tail _ (List.Mem.tail _ h)) | exact SeenTab.mono (by assumption) (fun _ h => List.Mem.tail _ (List.Mem.tail _ (List.Mem.tail _ h))) | exact SeenTab.mono (by assumption) (fun _ h => List.Mem.tail _ (List.Mem.tail _ (List.Mem.tail _ (List.Mem.tail _ h))))) (by k_mem) (by kde_strs) (by ktr_units) (by assumption) ?_; k_whole); intro z_t9)) | ((with_reducible show wpAny _ _ (compareOp CmpOp.NotIn (Value.ref _) (Value.ref _)) _ _ _); (k_here; k_dflt (refine' seen_notin (by k_asm) (by first | assumption | exact SeenTab.mono (by assumption) (fun _ h => List.Mem.tail _ h) | exact SeenTab.mono (by assumption) (fun _ h => List.Mem.tail _ (List.Mem.tail _ h)) | exact SeenTab.mono (by assumption) (fun _ h => List.Mem.tail _ (List.Mem.tail _ (List.Mem.tail _ h))) | exact SeenTab.mono (by assumption) (fun _ h => List.Mem.tail _ (List.Mem.tail _ (List.Mem.tail _ (List.Mem.tail _ h))))) (by k_mem) (by kde_strs) (by ktr_units) ?_; k_whole); intro z_t9; (try simp only [‹seenAt _ _ = _›]))) | ((with_reducible show wpAny _ _ (binaryOp _ (Value.ref _) (Value.ref _)) _ _ _); (k_here; k_dflt (refine' add_strs (by k_asm) (by k_asm) (by k_mem) (by k_mem) (by kde_strs) (by kde_strs) (by assumption) (by simp) ?_; k_whole); intro z_D9 z_vs9 z_h9 z_F9 z_N9 z_S9; (try k_sweep))) | ((with_reducible show wpAny _ _ (call (Value.ref _) _) _ _ _); (k_here; k_dflt (refine' Spec.use2 (by k_asm) (by k_asm) (by k_asm) (by k_asm) (by k_asm) (by k_asm) (by first | exact rfl | assumption) (by ktr_room) (by ktr_units) (law_begin_spec _ _ _ _ _ _ (by assumption) (by assumption) (by assumption) (by assumption) (by assumption)) ?_; k_whole); intro z_r9 z_h9 z_tk9 z_n9 z_F9 z_N9 z_P9; obtain ⟨z_K9, z_P9⟩ := z_P9; (simp only [‹beginP _ _ = _›] at z_P9); first | (obtain ⟨z_D9, z_H9, z_L9, z_e9, z_m9, ⟨z_us9, z_mu9, z_su9⟩, ⟨z_vs9, z_mv9, z_sv9⟩⟩ := z_P9; subst z_e9; (try dsimp only); (try k_sweep); (try k_fold)) | (subst z_P9; (try dsimp only); (try k_sweep); (try k_fold)))) | ((with_reducible show wpAny _ _ (call (Value.builtin "str.join") _) _ _ _); (k_here; (with_reducible show wpAny _ _ (call (Value.builtin "str.join") [Value.str _ _, Value.ref _]) _ _ _); k_dflt (refine' join_strs (by k_asm) (by k_mem) (by kde_strs) (by decide +kernel) (by assumption) (by assumption) ?_; k_whole); intro z_x9 z_t9 z_k9 z_hx9 z_e9; (rw [‹Txt.join _ _ = _›] at z_e9); subst z_e9)) | ((with_reducible show wpAny _ _ (subscriptTail _ _ _ _) _ _ _); (k_here; (with_reducible show wpAny _ _ (subscriptTail _ (PySem.Expr.Slice _ _ _ _) (Value.ref _) (Value.ref _)) _ _ _); k_dflt (first | (refine' init_strs (by k_asm) (by k_asm) (by k_mem) (by kde_strs) (by first | assumption | exact List.cons_ne_nil _ _ | exact snoc_ne _ _) (by assumption) ?_; k_whole; intro z_D9 z_vs9 z_h9 z_F9 z_N9 z_S9 z_l9; (try k_sweep)) | (refine' upto_strs (by k_asm) (by k_asm) (by k_mem) (by kde_strs) (by first | assumption | rfl) (by assumption) ?_; k_whole; intro z_D9 z_vs9 z_h9 z_F9 z_N9 z_S9; (try k_sweep))))) | walk1) | (dsimp only; walk1) | (leave1; (try dsimp only)))))
    all_goals exact hret _ _ _ _ (by assumption) (by assumption) ⟨by assumption, _, by unfold findP; rw [hb]; rfl⟩
  | some y =>
    obtain ⟨q0, left⟩ := y
    have hfind : findP S asker ns = goP S asker q0 left := by unfold findP; rw [hb]
    have hbr := begin_rel A ns hL
    rw [hb] at hbr
    obtain ⟨hm0, hL0, o9, j9, _, hdr, _⟩ := hbr
    have hll : left.length ≤ 100 := by rw [← hdr, List.length_drop]; omega
    k_dflt cell_enter
    repeat' (first | ((fail_if_success (with_reducible show wpAny _ _ (exec (Stmt.While _ _ _ _) _) _ _ _)); (fail_if_success (with_reducible show wpAny _ _ (exec (Stmt.For _ _ _ _ _) _) _ _ _)); (first | ((with_reducible show wpAny _ _ (exec _ _) _ _ _); k_fold) | (k_unfold; (try dsimp only)) | (k_end; wrow_close) | (first | ((with_reducible show wpAny _ _ (subscriptTail _ _ _ _) _ _ _); (k_here; (with_reducible show wpAny _ _ (subscriptTail _ _ (Value.ref _) (Value.ref _)) _ _ _); k_dflt (refine' seen_item (by k_asm) (by first | assumption | exact SeenTab.mono (by assumption) (fun _ h => List.Mem.tail _ h) | exact SeenTab.mono (by assumption) (fun _ h => List.Mem.tail _ (List.Mem.tail _ h)) | exact SeenTab.mono (by assumption) (fun _ h => List.Mem.tail _ (List.Mem.tail _ (List.Mem.tail _ h))) | exact SeenTab.mono (by assumption) (fun _ h => List.Mem.tail _ (List.Mem.tail _ (List.Mem.tail _ (List.Mem.tail _ h))))) (by k_mem) (by kde_strs) (by ktr_units) (by assumption) ?_; k_whole); intro z_t9)) | ((with_reducible show wpAny _ _ (compareOp CmpOp.NotIn (Value.ref _) (Value.ref _)) _ _ _); (k_here; k_dflt (refine' seen_notin (by k_asm) (by first | assumption | exact SeenTab.mono (by assumption) (fun _ h => List.Mem.tail _ h) | exact SeenTab.mono (by assumption) (fun _ h => List.Mem.tail _ (List.Mem.tail _ h)) | exact SeenTab.mono (by assumption) (fun _ h => List.Mem.tail _ (List.Mem.tail _ (List.Mem.tail _ h))) | exact SeenTab.mono (by assumption) (fun _ h => List.Mem.tail _ (List.Mem.tail _ (List.Mem.tail _ (List.Mem.tail _ h))))) (by k_mem) (by kde_strs) (by ktr_units) ?_; k_whole); intro z_t9; (try simp only [‹seenAt _ _ = _›]))) | ((with_reducible show wpAny _ _ (binaryOp _ (Value.ref _) (Value.ref _)) _ _ _); (k_here; k_dflt (refine' add_strs (by k_asm) (by k_asm) (by k_mem) (by k_mem) (by kde_strs) (by kde_strs) (by assumption) (by simp) ?_; k_whole); intro z_D9 z_vs9 z_h9 z_F9 z_N9 z_S9; (try k_sweep))) | ((with_reducible show wpAny _ _ (call (Value.ref _) _) _ _ _); (k_here; k_dflt (refine' Spec.use2 (by k_asm) (by k_asm) (by k_asm) (by k_asm) (by k_asm) (by k_asm) (by first | exact rfl | assumption) (by ktr_room) (by ktr_units) (law_begin_spec _ _ _ _ _ _ (by assumption) (by assumption) (by assumption) (by assumption) (by assumption)) ?_; k_whole); intro z_r9 z_h9 z_tk9 z_n9 z_F9 z_N9 z_P9; obtain ⟨z_K9, z_P9⟩ := z_P9; (simp only [‹beginP _ _ = _›] at z_P9); first | (obtain ⟨z_D9, z_H9, z_L9, z_e9, z_m9, ⟨z_us9, z_mu9, z_su9⟩, ⟨z_vs9, z_mv9, z_sv9⟩⟩ := z_P9; subst z_e9; (try dsimp only); (try k_sweep); (try k_fold)) | (subst z_P9; (try dsimp only); (try k_sweep); (try k_fold)))) | ((with_reducible show wpAny _ _ (call (Value.builtin "str.join") _) _ _ _); (k_here; (with_reducible show wpAny _ _ (call (Value.builtin "str.join") [Value.str _ _, Value.ref _]) _ _ _); k_dflt (refine' join_strs (by k_asm) (by k_mem) (by kde_strs) (by decide +kernel) (by assumption) (by assumption) ?_; k_whole); intro z_x9 z_t9 z_k9 z_hx9 z_e9; (rw [‹Txt.join _ _ = _›] at z_e9); subst z_e9)) | ((with_reducible show wpAny _ _ (subscriptTail _ _ _ _) _ _ _); (k_here; (with_reducible show wpAny _ _ (subscriptTail _ (PySem.Expr.Slice _ _ _ _) (Value.ref _) (Value.ref _)) _ _ _); k_dflt (first | (refine' init_strs (by k_asm) (by k_asm) (by k_mem) (by kde_strs) (by first | assumption | exact List.cons_ne_nil _ _ | exact snoc_ne _ _) (by assumption) ?_; k_whole; intro z_D9 z_vs9 z_h9 z_F9 z_N9 z_S9 z_l9; (try k_sweep)) | (refine' upto_strs (by k_asm) (by k_asm) (by k_mem) (by kde_strs) (by first | assumption | rfl) (by assumption) ?_; k_whole; intro z_D9 z_vs9 z_h9 z_F9 z_N9 z_S9; (try k_sweep))))) | walk1) | (dsimp only; walk1) | (leave1; (try dsimp only)))))
    rename Fr _ _ _ _ => lF
    rename News _ _ _ _ => lN
    rename (∀ p ∈ news, p ∈ _) => hK
    have ST' := ST.mono hK
    have haa' := haa.mono hK
    with_unfolding_all refine For_turns lF ?_
    repeat' (first | ((fail_if_success (with_reducible show wpAny _ _ (exec (Stmt.While _ _ _ _) _) _ _ _)); (fail_if_success (with_reducible show wpAny _ _ (exec (Stmt.For _ _ _ _ _) _) _ _ _)); (first | ((with_reducible show wpAny _ _ (exec _ _) _ _ _); k_fold) | (k_unfold; (try dsimp only)) | (k_end; wrow_close) | (first | ((with_reducible show wpAny _ _ (subscriptTail _ _ _ _) _ _ _); (k_here; (with_reducible show wpAny _ _ (subscriptTail _ _ (Value.ref _) (Value.ref _)) _ _ _); k_dflt (refine' seen_item (by k_asm) (by first | assumption | exact SeenTab.mono (by assumption) (fun _ h => List.Mem.tail _ h) | exact SeenTab.mono (by assumption) (fun _ h => List.Mem.tail _ (List.Mem.tail _ h)) | exact SeenTab.mono (by assumption) (fun _ h => List.Mem.tail _ (List.Mem.tail _ (List.Mem.tail _ h))) | exact SeenTab.mono (by assumption) (fun _ h => List.Mem.tail _ (List.Mem.tail _ (List.Mem.tail _ (List.Mem.tail _ h))))) (by k_mem) (by kde_strs) (by ktr_units) (by assumption) ?_; k_whole); intro z_t9)) | ((with_reducible show wpAny _ _ (compareOp CmpOp.NotIn (Value.ref _) (Value.ref _)) _ _ _); (k_here; k_dflt (refine' seen_notin (by k_asm) (by first | assumption | exact SeenTab.mono (by assumption) (fun _ h => List.Mem.tail _ h) | exact SeenTab.mono (by assumption) (fun _ h => List.Mem.tail _ (List.Mem.tail _ h)) | exact SeenTab.mono (by assumption) (fun _ h => List.Mem.tail _ (List.Mem.tail _ (List.Mem.tail _ h))) | exact SeenTab.mono (by assumption) (fun _ h => List.Mem.tail _ (List.Mem.tail _ (List.Mem.tail _ (List.Mem.tail _ h))))) (by k_mem) (by kde_strs) (by ktr_units) ?_; k_whole); intro z_t9; (try simp only [‹seenAt _ _ = _›]))) | ((with_reducible show wpAny _ _ (binaryOp _ (Value.ref _) (Value.ref _)) _ _ _); (k_here; k_dflt (refine' add_strs (by k_asm) (by k_asm) (by k_mem) (by k_mem) (by kde_strs) (by kde_strs) (by assumption) (by simp) ?_; k_whole); intro z_D9 z_vs9 z_h9 z_F9 z_N9 z_S9; (try k_sweep))) | ((with_reducible show wpAny _ _ (call (Value.ref _) _) _ _ _); (k_here; k_dflt (refine' Spec.use2 (by k_asm) (by k_asm) (by k_asm) (by k_asm) (by k_asm) (by k_asm) (by first | exact rfl | assumption) (by ktr_room) (by ktr_units) (law_begin_spec _ _ _ _ _ _ (by assumption) (by assumption) (by assumption) (by assumption) (by assumption)) ?_; k_whole); intro z_r9 z_h9 z_tk9 z_n9 z_F9 z_N9 z_P9; obtain ⟨z_K9, z_P9⟩ := z_P9; (simp only [‹beginP _ _ = _›] at z_P9); first | (obtain ⟨z_D9, z_H9, z_L9, z_e9, z_m9, ⟨z_us9, z_mu9, z_su9⟩, ⟨z_vs9, z_mv9, z_sv9⟩⟩ := z_P9; subst z_e9; (try dsimp only); (try k_sweep); (try k_fold)) | (subst z_P9; (try dsimp only); (try k_sweep); (try k_fold)))) | ((with_reducible show wpAny _ _ (call (Value.builtin "str.join") _) _ _ _); (k_here; (with_reducible show wpAny _ _ (call (Value.builtin "str.join") [Value.str _ _, Value.ref _]) _ _ _); k_dflt (refine' join_strs (by k_asm) (by k_mem) (by kde_strs) (by decide +kernel) (by assumption) (by assumption) ?_; k_whole); intro z_x9 z_t9 z_k9 z_hx9 z_e9; (rw [‹Txt.join _ _ = _›] at z_e9); subst z_e9)) | ((with_reducible show wpAny _ _ (subscriptTail _ _ _ _) _ _ _); (k_here; (with_reducible show wpAny _ _ (subscriptTail _ (PySem.Expr.Slice _ _ _ _) (Value.ref _) (Value.ref _)) _ _ _); k_dflt (first | (refine' init_strs (by k_asm) (by k_asm) (by k_mem) (by kde_strs) (by first | assumption | exact List.cons_ne_nil _ _ | exact snoc_ne _ _) (by assumption) ?_; k_whole; intro z_D9 z_vs9 z_h9 z_F9 z_N9 z_S9 z_l9; (try k_sweep)) | (refine' upto_strs (by k_asm) (by k_asm) (by k_mem) (by kde_strs) (by first | assumption | rfl) (by assumption) ?_; k_whole; intro z_D9 z_vs9 z_h9 z_F9 z_N9 z_S9; (try k_sweep))))) | walk1) | (dsimp only; walk1) | (leave1; (try dsimp only)))))
    rename Fr _ _ _ _ => lF
    rename News _ _ _ _ => lN
    clear lF lN
    rename StrsAre _ q0 => hsq
    rename StrsAre _ left => hsl
    rename_i I lI
    refine items_from (fun m0 n9 => DueJ I S asker n9 left.length (findP S asker ns) m0) ?start ?zero ?turn
    case start => exact ⟨0, q0, left, _, _, _, _, rfl, hsl, Nat.zero_add _, fun _ h => h, by assumption, hsq, fun q hq => ⟨Nat.ne_of_lt (lI q hq), Nat.ne_of_lt (Nat.lt_succ_of_lt (lI q hq))⟩, fun _ => ⟨hL0, hm0⟩, fun e => absurd e hL0.ne, hfind.symm, over_three rfl⟩
    case zero =>
      rintro m1 news1 ⟨i, p, l, vl, us, H, u, hxs, hvl, hi, hsub, hH, hus, hoff, hl1, hl2, hg, rfl⟩ h1 tk1 lF lN
      cases hvl with
      | cons y t hr => cases hxs
      | nil =>
      obtain ⟨hj1, hj2, hj3⟩ := JQ p (hl2 rfl)
      have hz9 : p.length ≤ 100 := Nat.le_trans hj2 (by decide)
      dsimp only
      repeat' (first | ((fail_if_success (with_reducible show wpAny _ _ (exec (Stmt.While _ _ _ _) _) _ _ _)); (fail_if_success (with_reducible show wpAny _ _ (exec (Stmt.For _ _ _ _ _) _) _ _ _)); (first | ((with_reducible show wpAny _ _ (exec _ _) _ _ _); k_fold) | (k_unfold; (try dsimp only)) | (k_end; wrow_close) | (first | ((with_reducible show wpAny _ _ (subscriptTail _ _ _ _) _ _ _); (k_here; (with_reducible show wpAny _ _ (subscriptTail _ _ (Value.ref _) (Value.ref _)) _ _ _); k_dflt (refine' seen_item (by k_asm) (by first | assumption | exact SeenTab.mono (by assumption) (fun _ h => List.Mem.tail _ h) | exact SeenTab.mono (by assumption) (fun _ h => List.Mem.tail _ (List.Mem.tail _ h)) | exact SeenTab.mono (by assumption) (fun _ h => List.Mem.tail _ (List.Mem.tail _ (List.Mem.tail _ h))) | exact SeenTab.mono (by assumption) (fun _ h => List.Mem.tail _ (List.Mem.tail _ (List.Mem.tail _ (List.Mem.tail _ h))))) (by k_mem) (by kde_strs) (by ktr_units) (by assumption) ?_; k_whole); intro z_t9)) | ((with_reducible show wpAny _ _ (compareOp CmpOp.NotIn (Value.ref _) (Value.ref _)) _ _ _); (k_here; k_dflt (refine' seen_notin (by k_asm) (by first | assumption | exact SeenTab.mono (by assumption) (fun _ h => List.Mem.tail _ h) | exact SeenTab.mono (by assumption) (fun _ h => List.Mem.tail _ (List.Mem.tail _ h)) | exact SeenTab.mono (by assumption) (fun _ h => List.Mem.tail _ (List.Mem.tail _ (List.Mem.tail _ h))) | exact SeenTab.mono (by assumption) (fun _ h => List.Mem.tail _ (List.Mem.tail _ (List.Mem.tail _ (List.Mem.tail _ h))))) (by k_mem) (by kde_strs) (by ktr_units) ?_; k_whole); intro z_t9; (try simp only [‹seenAt _ _ = _›]))) | ((with_reducible show wpAny _ _ (binaryOp _ (Value.ref _) (Value.ref _)) _ _ _); (k_here; k_dflt (refine' add_strs (by k_asm) (by k_asm) (by k_mem) (by k_mem) (by kde_strs) (by kde_strs) (by assumption) (by simp) ?_; k_whole); intro z_D9 z_vs9 z_h9 z_F9 z_N9 z_S9; (try k_sweep))) | ((with_reducible show wpAny _ _ (call (Value.ref _) _) _ _ _); (k_here; k_dflt (refine' Spec.use2 (by k_asm) (by k_asm) (by k_asm) (by k_asm) (by k_asm) (by k_asm) (by first | exact rfl | assumption) (by ktr_room) (by ktr_units) (law_begin_spec _ _ _ _ _ _ (by assumption) (by assumption) (by assumption) (by assumption) (by assumption)) ?_; k_whole); intro z_r9 z_h9 z_tk9 z_n9 z_F9 z_N9 z_P9; obtain ⟨z_K9, z_P9⟩ := z_P9; (simp only [‹beginP _ _ = _›] at z_P9); first | (obtain ⟨z_D9, z_H9, z_L9, z_e9, z_m9, ⟨z_us9, z_mu9, z_su9⟩, ⟨z_vs9, z_mv9, z_sv9⟩⟩ := z_P9; subst z_e9; (try dsimp only); (try k_sweep); (try k_fold)) | (subst z_P9; (try dsimp only); (try k_sweep); (try k_fold)))) | ((with_reducible show wpAny _ _ (call (Value.builtin "str.join") _) _ _ _); (k_here; (with_reducible show wpAny _ _ (call (Value.builtin "str.join") [Value.str _ _, Value.ref _]) _ _ _); k_dflt (refine' join_strs (by k_asm) (by k_mem) (by kde_strs) (by decide +kernel) (by assumption) (by assumption) ?_; k_whole); intro z_x9 z_t9 z_k9 z_hx9 z_e9; (rw [‹Txt.join _ _ = _›] at z_e9); subst z_e9)) | ((with_reducible show wpAny _ _ (subscriptTail _ _ _ _) _ _ _); (k_here; (with_reducible show wpAny _ _ (subscriptTail _ (PySem.Expr.Slice _ _ _ _) (Value.ref _) (Value.ref _)) _ _ _); k_dflt (first | (refine' init_strs (by k_asm) (by k_asm) (by k_mem) (by kde_strs) (by first | assumption | exact List.cons_ne_nil _ _ | exact snoc_ne _ _) (by assumption) ?_; k_whole; intro z_D9 z_vs9 z_h9 z_F9 z_N9 z_S9 z_l9; (try k_sweep)) | (refine' upto_strs (by k_asm) (by k_asm) (by k_mem) (by kde_strs) (by first | assumption | rfl) (by assumption) ?_; k_whole; intro z_D9 z_vs9 z_h9 z_F9 z_N9 z_S9; (try k_sweep))))) | walk1) | (dsimp only; walk1) | (leave1; (try dsimp only)))))
      all_goals exact hret _ _ _ _ (by assumption) (by assumption) ⟨fun q hq => hsub q (hK q hq), _, by rw [← hg]; rfl⟩
    case turn =>
      rintro it r m1 news1 ⟨i, p, l, vl, us, H, u, hxs, hvl, hi, hsub, hH, hus, hoff, hl1, hl2, hg, rfl⟩ v1 h1 tk1 hv lF
      cases hvl with
      | nil => cases hxs
      | @cons n tn vr l' hr =>
      injection hxs with hx1 hx2
      subst hx1
      obtain ⟨T9, t9, rfl, hT9⟩ := hv
      obtain ⟨hLl, hmp⟩ := hl1 (List.cons_ne_nil _ _)
      have hpz : p.length ≤ 20 := by
        rcases hmp with rfl | ⟨h, _⟩
        · exact Nat.zero_le _
        · exact (JQ p h).2.1
      have hpz1 : p.length ≤ 100 := Nat.le_trans hpz (by decide)
      have hpz2 : (p ++ [n]).length ≤ 100 := by rw [List.length_append]; simp; omega
      have ST1 := ST'.mono hsub
      have haa1 := haa'.mono hsub
      obtain ⟨vaa, haa2, haa3⟩ := haa1
      refine AllObj.cons (fun o1 hc1 => AllObj.cons (fun o2 hc2 => AllObj.nil (fun lN => ?_)))
      dsimp only [List.cons_append, List.nil_append] at lN
      unfold goP at hg
      have hty : ((n == Str.ofString "f") == (!l'.isEmpty)) = false := by
        rcases hLl.tail with ⟨rfl, rfl⟩ | ⟨h1, h2, _⟩
        · decide +kernel
        · have e1 : (n == Str.ofString "f") = false := by simpa using h2
          have e2 : l'.isEmpty = false := by cases l' <;> simp_all
          rw [e1, e2]; rfl
      have hnf : ((n == Str.ofString "f") != ((i : Int) == ((left.length : Nat) : Int) - 1)) = false := by
        have hi' : i + l'.length + 1 = left.length := by simpa [Nat.add_assoc] using hi
        rcases hLl.tail with ⟨rfl, rfl⟩ | ⟨h1, h2, _⟩
        · have e1 : ((i : Int) == ((left.length : Nat) : Int) - 1) = true := by rw [beq_iff_eq]; simp at hi'; omega
          rw [e1]; decide +kernel
        · have e0 : 0 < l'.length := List.length_pos_iff.mpr h1
          have e1 : ((i : Int) == ((left.length : Nat) : Int) - 1) = false := by rw [beq_eq_false_iff_ne]; omega
          have e2 : (n == Str.ofString "f") = false := by simpa using h2
          rw [e1, e2]; rfl
      have hnx : nextP S p n (!l'.isEmpty) = seenAt S (p ++ [n]) := by unfold nextP; rw [hty]; simp
      rw [hnx] at hg
      cases hsn : seenAt S (p ++ [n]) with
      | none =>
        rw [hsn] at hg
        repeat' (first | ((fail_if_success (with_reducible show wpAny _ _ (exec (Stmt.While _ _ _ _) _) _ _ _)); (fail_if_success (with_reducible show wpAny _ _ (exec (Stmt.For _ _ _ _ _) _) _ _ _)); (first | ((with_reducible show wpAny _ _ (exec _ _) _ _ _); k_fold) | (k_unfold; (try dsimp only)) | (k_end; wrow_close) | (first | ((with_reducible show wpAny _ _ (subscriptTail _ _ _ _) _ _ _); (k_here; (with_reducible show wpAny _ _ (subscriptTail _ _ (Value.ref _) (Value.ref _)) _ _ _); k_dflt (refine' seen_item (by k_asm) (by first | assumption | exact SeenTab.mono (by assumption) (fun _ h => List.Mem.tail _ h) | exact SeenTab.mono (by assumption) (fun _ h => List.Mem.tail _ (List.Mem.tail _ h)) | exact SeenTab.mono (by assumption) (fun _ h => List.Mem.tail _ (List.Mem.tail _ (List.Mem.tail _ h))) | exact SeenTab.mono (by assumption) (fun _ h => List.Mem.tail _ (List.Mem.tail _ (List.Mem.tail _ (List.Mem.tail _ h))))) (by k_mem) (by kde_strs) (by ktr_units) (by assumption) ?_; k_whole); intro z_t9)) | ((with_reducible show wpAny _ _ (compareOp CmpOp.NotIn (Value.ref _) (Value.ref _)) _ _ _); (k_here; k_dflt (refine' seen_notin (by k_asm) (by first | assumption | exact SeenTab.mono (by assumption) (fun _ h => List.Mem.tail _ h) | exact SeenTab.mono (by assumption) (fun _ h => List.Mem.tail _ (List.Mem.tail _ h)) | exact SeenTab.mono (by assumption) (fun _ h => List.Mem.tail _ (List.Mem.tail _ (List.Mem.tail _ h))) | exact SeenTab.mono (by assumption) (fun _ h => List.Mem.tail _ (List.Mem.tail _ (List.Mem.tail _ (List.Mem.tail _ h))))) (by k_mem) (by kde_strs) (by ktr_units) ?_; k_whole); intro z_t9; (try simp only [‹seenAt _ _ = _›]))) | ((with_reducible show wpAny _ _ (binaryOp _ (Value.ref _) (Value.ref _)) _ _ _); (k_here; k_dflt (refine' add_strs (by k_asm) (by k_asm) (by k_mem) (by k_mem) (by kde_strs) (by kde_strs) (by assumption) (by simp) ?_; k_whole); intro z_D9 z_vs9 z_h9 z_F9 z_N9 z_S9; (try k_sweep))) | ((with_reducible show wpAny _ _ (call (Value.ref _) _) _ _ _); (k_here; k_dflt (refine' Spec.use2 (by k_asm) (by k_asm) (by k_asm) (by k_asm) (by k_asm) (by k_asm) (by first | exact rfl | assumption) (by ktr_room) (by ktr_units) (law_begin_spec _ _ _ _ _ _ (by assumption) (by assumption) (by assumption) (by assumption) (by assumption)) ?_; k_whole); intro z_r9 z_h9 z_tk9 z_n9 z_F9 z_N9 z_P9; obtain ⟨z_K9, z_P9⟩ := z_P9; (simp only [‹beginP _ _ = _›] at z_P9); first | (obtain ⟨z_D9, z_H9, z_L9, z_e9, z_m9, ⟨z_us9, z_mu9, z_su9⟩, ⟨z_vs9, z_mv9, z_sv9⟩⟩ := z_P9; subst z_e9; (try dsimp only); (try k_sweep); (try k_fold)) | (subst z_P9; (try dsimp only); (try k_sweep); (try k_fold)))) | ((with_reducible show wpAny _ _ (call (Value.builtin "str.join") _) _ _ _); (k_here; (with_reducible show wpAny _ _ (call (Value.builtin "str.join") [Value.str _ _, Value.ref _]) _ _ _); k_dflt (refine' join_strs (by k_asm) (by k_mem) (by kde_strs) (by decide +kernel) (by assumption) (by assumption) ?_; k_whole); intro z_x9 z_t9 z_k9 z_hx9 z_e9; (rw [‹Txt.join _ _ = _›] at z_e9); subst z_e9)) | ((with_reducible show wpAny _ _ (subscriptTail _ _ _ _) _ _ _); (k_here; (with_reducible show wpAny _ _ (subscriptTail _ (PySem.Expr.Slice _ _ _ _) (Value.ref _) (Value.ref _)) _ _ _); k_dflt (first | (refine' init_strs (by k_asm) (by k_asm) (by k_mem) (by kde_strs) (by first | assumption | exact List.cons_ne_nil _ _ | exact snoc_ne _ _) (by assumption) ?_; k_whole; intro z_D9 z_vs9 z_h9 z_F9 z_N9 z_S9 z_l9; (try k_sweep)) | (refine' upto_strs (by k_asm) (by k_asm) (by k_mem) (by kde_strs) (by first | assumption | rfl) (by assumption) ?_; k_whole; intro z_D9 z_vs9 z_h9 z_F9 z_N9 z_S9; (try k_sweep))))) | walk1) | (dsimp only; walk1) | (leave1; (try dsimp only)))))
        all_goals exact hret _ _ _ _ (by assumption) (by assumption) ⟨fun q hq => .tail _ (.tail _ (.tail _ (.tail _ (hsub q (hK q hq))))), _, by rw [← hg]; rfl⟩
      | some b =>
        rw [hsn] at hg
        have hk1 : (((p ++ [n]).length : Nat) : Int) - 1 = ((p.length : Nat) : Int) := by simp
        obtain ⟨hn1, hn2⟩ := due_next hLl hsn
        have hmL := (by assumption : (_, tupObj _) ∈ _)
        cases b with
        | true =>
          repeat' (first | ((fail_if_success (with_reducible show wpAny _ _ (exec (Stmt.While _ _ _ _) _) _ _ _)); (fail_if_success (with_reducible show wpAny _ _ (exec (Stmt.For _ _ _ _ _) _) _ _ _)); (first | ((with_reducible show wpAny _ _ (exec _ _) _ _ _); k_fold) | (k_unfold; (try dsimp only)) | (k_end; wrow_close) | (first | ((with_reducible show wpAny _ _ (subscriptTail _ _ _ _) _ _ _); (k_here; (with_reducible show wpAny _ _ (subscriptTail _ _ (Value.ref _) (Value.ref _)) _ _ _); k_dflt (refine' seen_item (by k_asm) (by first | assumption | exact SeenTab.mono (by assumption) (fun _ h => List.Mem.tail _ h) | exact SeenTab.mono (by assumption) (fun _ h => List.Mem.tail _ (List.Mem.tail _ h)) | exact SeenTab.mono (by assumption) (fun _ h => List.Mem.tail _ (List.Mem.tail _ (List.Mem.tail _ h))) | exact SeenTab.mono (by assumption) (fun _ h => List.Mem.tail _ (List.Mem.tail _ (List.Mem.tail _ (List.Mem.tail _ h))))) (by k_mem) (by kde_strs) (by ktr_units) (by assumption) ?_; k_whole); intro z_t9)) | ((with_reducible show wpAny _ _ (compareOp CmpOp.NotIn (Value.ref _) (Value.ref _)) _ _ _); (k_here; k_dflt (refine' seen_notin (by k_asm) (by first | assumption | exact SeenTab.mono (by assumption) (fun _ h => List.Mem.tail _ h) | exact SeenTab.mono (by assumption) (fun _ h => List.Mem.tail _ (List.Mem.tail _ h)) | exact SeenTab.mono (by assumption) (fun _ h => List.Mem.tail _ (List.Mem.tail _ (List.Mem.tail _ h))) | exact SeenTab.mono (by assumption) (fun _ h => List.Mem.tail _ (List.Mem.tail _ (List.Mem.tail _ (List.Mem.tail _ h))))) (by k_mem) (by kde_strs) (by ktr_units) ?_; k_whole); intro z_t9; (try simp only [‹seenAt _ _ = _›]))) | ((with_reducible show wpAny _ _ (binaryOp _ (Value.ref _) (Value.ref _)) _ _ _); (k_here; k_dflt (refine' add_strs (by k_asm) (by k_asm) (by k_mem) (by k_mem) (by kde_strs) (by kde_strs) (by assumption) (by simp) ?_; k_whole); intro z_D9 z_vs9 z_h9 z_F9 z_N9 z_S9; (try k_sweep))) | ((with_reducible show wpAny _ _ (call (Value.ref _) _) _ _ _); (k_here; k_dflt (refine' Spec.use2 (by k_asm) (by k_asm) (by k_asm) (by k_asm) (by k_asm) (by k_asm) (by first | exact rfl | assumption) (by ktr_room) (by ktr_units) (law_begin_spec _ _ _ _ _ _ (by assumption) (by assumption) (by assumption) (by assumption) (by assumption)) ?_; k_whole); intro z_r9 z_h9 z_tk9 z_n9 z_F9 z_N9 z_P9; obtain ⟨z_K9, z_P9⟩ := z_P9; (simp only [‹beginP _ _ = _›] at z_P9); first | (obtain ⟨z_D9, z_H9, z_L9, z_e9, z_m9, ⟨z_us9, z_mu9, z_su9⟩, ⟨z_vs9, z_mv9, z_sv9⟩⟩ := z_P9; subst z_e9; (try dsimp only); (try k_sweep); (try k_fold)) | (subst z_P9; (try dsimp only); (try k_sweep); (try k_fold)))) | ((with_reducible show wpAny _ _ (call (Value.builtin "str.join") _) _ _ _); (k_here; (with_reducible show wpAny _ _ (call (Value.builtin "str.join") [Value.str _ _, Value.ref _]) _ _ _); k_dflt (refine' join_strs (by k_asm) (by k_mem) (by kde_strs) (by decide +kernel) (by assumption) (by assumption) ?_; k_whole); intro z_x9 z_t9 z_k9 z_hx9 z_e9; (rw [‹Txt.join _ _ = _›] at z_e9); subst z_e9)) | ((with_reducible show wpAny _ _ (subscriptTail _ _ _ _) _ _ _); (k_here; (with_reducible show wpAny _ _ (subscriptTail _ (PySem.Expr.Slice _ _ _ _) (Value.ref _) (Value.ref _)) _ _ _); k_dflt (first | (refine' init_strs (by k_asm) (by k_asm) (by k_mem) (by kde_strs) (by first | assumption | exact List.cons_ne_nil _ _ | exact snoc_ne _ _) (by assumption) ?_; k_whole; intro z_D9 z_vs9 z_h9 z_F9 z_N9 z_S9 z_l9; (try k_sweep)) | (refine' upto_strs (by k_asm) (by k_asm) (by k_mem) (by kde_strs) (by first | assumption | rfl) (by assumption) ?_; k_whole; intro z_D9 z_vs9 z_h9 z_F9 z_N9 z_S9; (try k_sweep))))) | walk1) | (dsimp only; walk1) | (leave1; (try dsimp only)))))
          have hS := (by assumption : StrsAre _ (p ++ [n]))
          all_goals exact due_end (by k_asm) (by k_asm) (by intro q hq; simp only [List.mem_cons] at hq ⊢; (rcases hq with h | h | h | h <;> simp [h])) hoff hc1 hc2 fun ho => ⟨And.intro (.tail _ (lift_mem hsub (by assumption))) trivial, i + 1, p ++ [n], l', vr, _, _, _, hx2, hr, by simp at hi; omega, fun q hq => .tail _ (hsub q hq), .head _, hS, ho, hn1, hn2, hg, over_turn3⟩
        | false =>
          rw [WQ p hmp] at hg
          repeat' (first | ((fail_if_success (with_reducible show wpAny _ _ (exec (Stmt.While _ _ _ _) _) _ _ _)); (fail_if_success (with_reducible show wpAny _ _ (exec (Stmt.For _ _ _ _ _) _) _ _ _)); (first | ((with_reducible show wpAny _ _ (exec _ _) _ _ _); k_fold) | (k_unfold; (try dsimp only)) | (k_end; wrow_close) | (first | ((with_reducible show wpAny _ _ (subscriptTail _ _ _ _) _ _ _); (k_here; (with_reducible show wpAny _ _ (subscriptTail _ _ (Value.ref _) (Value.ref _)) _ _ _); k_dflt (refine' seen_item (by k_asm) (by first | assumption | exact SeenTab.mono (by assumption) (fun _ h => List.Mem.tail _ h) | exact SeenTab.mono (by assumption) (fun _ h => List.Mem.tail _ (List.Mem.tail _ h)) | exact SeenTab.mono (by assumption) (fun _ h => List.Mem.tail _ (List.Mem.tail _ (List.Mem.tail _ h))) | exact SeenTab.mono (by assumption) (fun _ h => List.Mem.tail _ (List.Mem.tail _ (List.Mem.tail _ (List.Mem.tail _ h))))) (by k_mem) (by kde_strs) (by ktr_units) (by assumption) ?_; k_whole); intro z_t9)) | ((with_reducible show wpAny _ _ (compareOp CmpOp.NotIn (Value.ref _) (Value.ref _)) _ _ _); (k_here; k_dflt (refine' seen_notin (by k_asm) (by first | assumption | exact SeenTab.mono (by assumption) (fun _ h => List.Mem.tail _ h) | exact SeenTab.mono (by assumption) (fun _ h => List.Mem.tail _ (List.Mem.tail _ h)) | exact SeenTab.mono (by assumption) (fun _ h => List.Mem.tail _ (List.Mem.tail _ (List.Mem.tail _ h))) | exact SeenTab.mono (by assumption) (fun _ h => List.Mem.tail _ (List.Mem.tail _ (List.Mem.tail _ (List.Mem.tail _ h))))) (by k_mem) (by kde_strs) (by ktr_units) ?_; k_whole); intro z_t9; (try simp only [‹seenAt _ _ = _›]))) | ((with_reducible show wpAny _ _ (binaryOp _ (Value.ref _) (Value.ref _)) _ _ _); (k_here; k_dflt (refine' add_strs (by k_asm) (by k_asm) (by k_mem) (by k_mem) (by kde_strs) (by kde_strs) (by assumption) (by simp) ?_; k_whole); intro z_D9 z_vs9 z_h9 z_F9 z_N9 z_S9; (try k_sweep))) | ((with_reducible show wpAny _ _ (call (Value.ref _) _) _ _ _); (k_here; k_dflt (refine' Spec.use2 (by k_asm) (by k_asm) (by k_asm) (by k_asm) (by k_asm) (by k_asm) (by first | exact rfl | assumption) (by ktr_room) (by ktr_units) (law_begin_spec _ _ _ _ _ _ (by assumption) (by assumption) (by assumption) (by assumption) (by assumption)) ?_; k_whole); intro z_r9 z_h9 z_tk9 z_n9 z_F9 z_N9 z_P9; obtain ⟨z_K9, z_P9⟩ := z_P9; (simp only [‹beginP _ _ = _›] at z_P9); first | (obtain ⟨z_D9, z_H9, z_L9, z_e9, z_m9, ⟨z_us9, z_mu9, z_su9⟩, ⟨z_vs9, z_mv9, z_sv9⟩⟩ := z_P9; subst z_e9; (try dsimp only); (try k_sweep); (try k_fold)) | (subst z_P9; (try dsimp only); (try k_sweep); (try k_fold)))) | ((with_reducible show wpAny _ _ (call (Value.builtin "str.join") _) _ _ _); (k_here; (with_reducible show wpAny _ _ (call (Value.builtin "str.join") [Value.str _ _, Value.ref _]) _ _ _); k_dflt (refine' join_strs (by k_asm) (by k_mem) (by kde_strs) (by decide +kernel) (by assumption) (by assumption) ?_; k_whole); intro z_x9 z_t9 z_k9 z_hx9 z_e9; (rw [‹Txt.join _ _ = _›] at z_e9); subst z_e9)) | ((with_reducible show wpAny _ _ (subscriptTail _ _ _ _) _ _ _); (k_here; (with_reducible show wpAny _ _ (subscriptTail _ (PySem.Expr.Slice _ _ _ _) (Value.ref _) (Value.ref _)) _ _ _); k_dflt (first | (refine' init_strs (by k_asm) (by k_asm) (by k_mem) (by kde_strs) (by first | assumption | exact List.cons_ne_nil _ _ | exact snoc_ne _ _) (by assumption) ?_; k_whole; intro z_D9 z_vs9 z_h9 z_F9 z_N9 z_S9 z_l9; (try k_sweep)) | (refine' upto_strs (by k_asm) (by k_asm) (by k_mem) (by kde_strs) (by first | assumption | rfl) (by assumption) ?_; k_whole; intro z_D9 z_vs9 z_h9 z_F9 z_N9 z_S9; (try k_sweep))))) | walk1) | (dsimp only; walk1) | (leave1; (try dsimp only)))))
          · have hS := (by assumption : StrsAre _ (p ++ [n]))
            exact due_end (by k_asm) (by k_asm) (by intro q hq; simp only [List.mem_cons] at hq ⊢; (rcases hq with h | h | h | h <;> simp [h])) hoff hc1 hc2 fun ho => ⟨And.intro (.tail _ (lift_mem hsub (by assumption))) trivial, i + 1, p ++ [n], l', vr, _, _, _, hx2, hr, by simp at hi; omega, fun q hq => .tail _ (hsub q hq), .head _, hS, ho, hn1, hn2, due_in (n := n) (by assumption) hg, over_turn3⟩
          · exact hret _ _ _ _ (by assumption) (by assumption) ⟨fun q hq => .tail _ (.tail _ (.tail _ (.tail _ (.tail _ (.tail _ (hsub q (hK q hq))))))), _, by rw [due_out (n := n) (by assumption) hg]; rfl⟩
end

/- F11 -/
section
open PyProof.Rows.LCg


theorem in_strs {prog : Program} {w : World} {A : Around} {s : Shared} {E : Value → Shared → Prop} {h₀ : Heap} {L : Addr} {news : List (Addr × Obj)} {a : Addr} {vs : List Value} {ns : List Str} {x : Str} {u : Tok} {b : Bool} {Q : Value → Shared → Prop}
    (N : News h₀ L s.heap news) (hm : (a, tupObj vs) ∈ news) (hs : StrsAre vs ns) (hb : ns.any (· == x) = b) (h : Q (.bool b) s) : wpAny (model prog w) A (compareOp .In (.str x u) (.ref a)) Q E s :=
  in_tuple_strs ⟨_, (N _ hm).1, rfl, _, rfl⟩ hs (by rw [hb]; exact h)


theorem unr_end1 {h₀ : Heap} {L : Addr} {s₁ : Shared} {I d : Addr} {oI o o' : Obj} {r : List (Addr × Obj)} {hp : Heap} {tk : Nat} {m' : Str → Option Value} {rest : (Str → Option Value) → List (Addr × Obj) → Prop}
    (F : Fr h₀ L hp m') (N : News h₀ L hp ((I, oI) :: (d, o') :: r)) (lI : ∀ p ∈ (d, o) :: r, p.1 < I) (h : rest m' ((d, o') :: r)) : UnrEndW h₀ L s₁ [(I, oI)] rest { s₁ with heap := hp, toks := tk } :=
  ⟨hp, tk, m', (d, o') :: r, rfl, F, N, fun p hp q hq => by
    rw [List.mem_singleton.mp hq]
    rcases List.mem_cons.mp hp with rfl | hp
    · exact Nat.ne_of_lt (lI (d, o) (.head _))
    · exact Nat.ne_of_lt (lI p (.tail _ hp)), h⟩

/-- declare, a module or a function: the ledger has the three dicts that change at its head -/
theorem declare_mod (w : World) (mo dx tb td ty va us sp ka pa ta ga ia ke : Addr) (k1 k2 k3 j1 j2 j3 j4 j5 j6 u : Tok) (n n2 : Nat) (md nm : Str) (t1 t2 t3 t4 : Tok) (isT b : Bool) (oT oV oU oK oP oB : Obj) (kvT kvV kvK kvP kvB : List (Str × Value)) (rs : List (Addr × Obj))
    (hmo : (mo, instObj 275 dx) ∈ rs) (hdx : (dx, dictOf (modsDict w j1 j2 j3 j4 j5 j6 ka pa ta ga ia ke) n2) ∈ rs)
    (htb : (tb, instObj 142 td) ∈ rs) (htd : (td, dictOf (tabDict w k1 k2 k3 ty va us) n) ∈ rs) (hU : (us, oU) ∈ rs) (hB : (ta, oB) ∈ rs) (hsp : (sp, tupObj [.str (if isT then Str.ofString "type" else Str.ofString "value") u]) ∈ rs)
    (hoth : ((if isT then va else ty), (if isT then oV else oT)) ∈ rs)
    (lT : (ty == sysModules) = false) (lV : (va == sysModules) = false) (lU : (us == sysModules) = false) (lK : (ka == sysModules) = false)
    (dT : oT.IsDictOf (kS w) kvT) (dV : oV.IsDictOf (kS w) kvV) (dU : oU.IsDictOf (kS w) []) (dK : oK.IsDictOf (kS w) kvK) (dP : oP.IsDictOf (kS w) kvP) (dB : oB.IsDictOf (kS w) kvB)
    (hno : valueAt (if isT then kvT else kvV) nm = none) (hnk : valueAt kvK (joinedF md nm) = none) (hvb : valueAt kvB md = some (.ref tb))
    (hz : kvT.length ≤ 100 ∧ kvV.length ≤ 100) (hzk : kvK.length ≤ 100) (hzp : kvP.length ≤ 100) (hmd : md.length ≤ 100) (hnm : nm.length ≤ 100)
    (hpl : plainL.any (· == nm) = false)
    (hall1 : ∀ p ∈ (ka, oK) :: (pa, oP) :: rs, p.1 ≠ (if isT then ty else va)) (hall2 : ∀ p ∈ (pa, oP) :: rs, p.1 ≠ ka) (hall3 : ∀ p ∈ rs, p.1 ≠ pa)
    (hT : isT = true) : Spec w 174 6 100 [.ref mo, .str md t1, .str nm t2, .str (if isT then Str.ofString "mod" else Str.ofString "fn") t3, .ref sp, .bool b, .int 0 t4] (((if isT then ty else va), (if isT then oT else oV)) :: (ka, oK) :: (pa, oP) :: rs)
      (fun r news' => r = .none ∧ ∃ o1 o2 o3 tk, news' = ((if isT then ty else va), o1) :: (ka, o2) :: (pa, o3) :: rs ∧ o1.IsDictOf (kS w) (stored (if isT then kvT else kvV) nm (.str (joinedF md nm) tk)) ∧
        o2.IsDictOf (kS w) (stored kvK (joinedF md nm) (.str (if isT then Str.ofString "mod" else Str.ofString "fn") t3)) ∧ o3.IsDictOf (kS w) (stored kvP (joinedF md nm) (.bool b))) := by
  have hU0 : (valueAt ([] : List (Str × Value)) nm).isSome = false := rfl
  have hnk' : (valueAt kvK (joinedF md nm)).isSome = false := by rw [hnk]; rfl
  have TH : TakenHyp w (((if isT then ty else va), (if isT then oT else oV)) :: (ka, oK) :: (pa, oP) :: rs) tb sp nm isT := by
    refine ⟨td, ty, va, us, k1, k2, k3, u, n, oT, oV, oU, kvT, kvV, .tail _ (.tail _ (.tail _ htb)), .tail _ (.tail _ (.tail _ htd)), ?_, ?_, .tail _ (.tail _ (.tail _ hU)), .tail _ (.tail _ (.tail _ hsp)), lT, lV, lU, dT, dV, dU, hno, hz⟩
    · cases isT
      · exact .tail _ (.tail _ (.tail _ hoth))
      · exact .head _
    · cases isT
      · exact .head _
      · exact .tail _ (.tail _ (.tail _ hoth))
  unfold Spec
  refine fill w ?_
  k_fill
  intro _ _
  intro mean mg mb dp un gd cn cs a ccd cl outer A₀ base h₀ L m s Q E H F N hk hd hu hret
  obtain ⟨B, X, T, BO⟩ := H
  subst hT
  simp only [if_true, if_false, Bool.false_eq_true] at *
  k_dflt cell_enter
  · have hne1 : ty ≠ ka := fun e => hall1 _ (.head _) e.symm
    have hne2 : ty ≠ pa := fun e => hall1 _ (.tail _ (.head _)) e.symm
    have hne3 : ka ≠ pa := fun e => hall2 _ (.head _) e.symm
    have hz1 := hz.1
    repeat' (first | ((fail_if_success (with_reducible show wpAny _ _ (exec (Stmt.While _ _ _ _) _) _ _ _)); (fail_if_success (with_reducible show wpAny _ _ (exec (Stmt.For _ _ _ _ _) _) _ _ _)); (first | ((with_reducible show wpAny _ _ (exec _ _) _ _ _); k_fold) | (k_unfold; (try dsimp only)) | (k_end; wrow_close) | (first | ((with_reducible show wpAny _ _ (setItem (Value.ref _) (Value.str _ _) _) _ _ _); (k_here; k_dflt (refine' kda_set (knd := PySem.strKind _ _) (by k_asm) (by k_asm) (by first | exact UpdF.head (by assumption) | exact UpdF.tail (by assumption) (UpdF.head (by assumption)) | exact UpdF.tail (by assumption) (UpdF.tail (by assumption) (UpdF.head (by assumption))) | fail "upd") (by assumption) (by exact strKind_is _ _ _ _) (by exact Nat.le_trans (by assumption) (by decide +kernel)) ?_; k_whole); intro z_h' z_o' z_F' z_N' z_d'; (try dsimp only at z_N'); (try k_sweep))) | ((with_reducible show wpAny _ _ (pyIter (Value.ref _)) _ _ _); (k_here; (with_reducible show wpAny _ _ (pyIter (Value.ref _)) (fun it s₂ => TurnsAt _ _ _ _ _ _ _ _ _ it s₂) _ _); (rename Fr _ _ _ _ => z_lF'); (rename News _ _ _ _ => z_lN'); (with_unfolding_all refine iter_tupTurns (by rfl) z_lF' z_lN' (by k_mem) (by rfl) (by rfl) ?_); intro z_i' z_l1)) | ((with_reducible show wpAny _ _ (call (Value.ref _) _) _ _ _); (k_here; k_dflt (refine' Spec.use2 (by k_asm) (by k_asm) (by k_asm) (by k_asm) (by k_asm) (by k_asm) (by first | exact rfl | assumption) (by ktr_room) (by ktr_units) (taken_spec2 _ _ _ _ _ _ _ (by first | assumption | exact TakenHyp.mono (by assumption) (fun _ h => List.Mem.tail _ h) | exact TakenHyp.mono (by assumption) (fun _ h => List.Mem.tail _ (List.Mem.tail _ h)) | fail "taken")) ?_; k_whole); intro z_r9 z_h9 z_tk9 z_n9 z_F9 z_N9 z_P9; obtain ⟨z_K9, z_e8⟩ := z_P9; subst z_e8; replace z_N9 := news_sub z_N9 z_K9; clear z_K9; (try dsimp only); (try k_sweep); (try k_fold))) | ((with_reducible show wpAny _ _ (compareOp CmpOp.In (Value.str _ _) (Value.ref _)) _ _ _); (k_here; k_dflt (first | (refine' in_strs (b := true) (by k_asm) (by k_mem) (by kde_strs) (by decide +kernel) ?_; k_whole) | (refine' in_strs (b := false) (by k_asm) (by k_mem) (by kde_strs) (by decide +kernel) ?_; k_whole)))) | ((with_reducible show wpAny _ _ (compareOp CmpOp.In (Value.str _ _) (Value.ref _)) _ _ _); (k_here; k_dflt (refine' in_top_tuple (ys := plainL) (by k_in) (by k_is) (by exact rfl) (by exact rfl) (by repeat constructor) (by assumption) ?_; k_whole))) | ((with_reducible show wpAny _ _ (compareOp CmpOp.In (Value.str _ _) (Value.ref _)) _ _ _); (k_here; k_dflt (refine' kda_in (knd := PySem.strKind _ _) (by k_asm) (by k_mem) (by assumption) (by assumption) (by exact strKind_is _ _ _ _) ?b (by first | assumption | exact rfl) ?_; k_whole))) | ((with_reducible show wpAny _ _ (subscriptTail _ _ _ _) _ _ _); (k_here; (with_reducible show wpAny _ _ (subscriptTail _ _ (Value.ref _) (Value.str _ _)) _ _ _); k_dflt (refine kda_item (knd := PySem.strKind _ _) (by k_asm) (by k_mem) (by assumption) (strKind_is _ _ _ _) (by assumption) ?_))) | walk1) | (dsimp only; walk1) | (leave1; (try dsimp only)))))
    rename Fr _ _ _ _ => lF
    rename News _ _ _ _ => lN
    have lN2 := news_tail lN
    clear lN
    with_unfolding_all refine For_turns lF ?_
    repeat' (first | ((fail_if_success (with_reducible show wpAny _ _ (exec (Stmt.While _ _ _ _) _) _ _ _)); (fail_if_success (with_reducible show wpAny _ _ (exec (Stmt.For _ _ _ _ _) _) _ _ _)); (first | ((with_reducible show wpAny _ _ (exec _ _) _ _ _); k_fold) | (k_unfold; (try dsimp only)) | (k_end; wrow_close) | (first | ((with_reducible show wpAny _ _ (setItem (Value.ref _) (Value.str _ _) _) _ _ _); (k_here; k_dflt (refine' kda_set (knd := PySem.strKind _ _) (by k_asm) (by k_asm) (by first | exact UpdF.head (by assumption) | exact UpdF.tail (by assumption) (UpdF.head (by assumption)) | exact UpdF.tail (by assumption) (UpdF.tail (by assumption) (UpdF.head (by assumption))) | fail "upd") (by assumption) (by exact strKind_is _ _ _ _) (by exact Nat.le_trans (by assumption) (by decide +kernel)) ?_; k_whole); intro z_h' z_o' z_F' z_N' z_d'; (try dsimp only at z_N'); (try k_sweep))) | ((with_reducible show wpAny _ _ (pyIter (Value.ref _)) _ _ _); (k_here; (with_reducible show wpAny _ _ (pyIter (Value.ref _)) (fun it s₂ => TurnsAt _ _ _ _ _ _ _ _ _ it s₂) _ _); (rename Fr _ _ _ _ => z_lF'); (rename News _ _ _ _ => z_lN'); (with_unfolding_all refine iter_tupTurns (by rfl) z_lF' z_lN' (by k_mem) (by rfl) (by rfl) ?_); intro z_i' z_l1)) | ((with_reducible show wpAny _ _ (call (Value.ref _) _) _ _ _); (k_here; k_dflt (refine' Spec.use2 (by k_asm) (by k_asm) (by k_asm) (by k_asm) (by k_asm) (by k_asm) (by first | exact rfl | assumption) (by ktr_room) (by ktr_units) (taken_spec2 _ _ _ _ _ _ _ (by first | assumption | exact TakenHyp.mono (by assumption) (fun _ h => List.Mem.tail _ h) | exact TakenHyp.mono (by assumption) (fun _ h => List.Mem.tail _ (List.Mem.tail _ h)) | fail "taken")) ?_; k_whole); intro z_r9 z_h9 z_tk9 z_n9 z_F9 z_N9 z_P9; obtain ⟨z_K9, z_e8⟩ := z_P9; subst z_e8; replace z_N9 := news_sub z_N9 z_K9; clear z_K9; (try dsimp only); (try k_sweep); (try k_fold))) | ((with_reducible show wpAny _ _ (compareOp CmpOp.In (Value.str _ _) (Value.ref _)) _ _ _); (k_here; k_dflt (first | (refine' in_strs (b := true) (by k_asm) (by k_mem) (by kde_strs) (by decide +kernel) ?_; k_whole) | (refine' in_strs (b := false) (by k_asm) (by k_mem) (by kde_strs) (by decide +kernel) ?_; k_whole)))) | ((with_reducible show wpAny _ _ (compareOp CmpOp.In (Value.str _ _) (Value.ref _)) _ _ _); (k_here; k_dflt (refine' in_top_tuple (ys := plainL) (by k_in) (by k_is) (by exact rfl) (by exact rfl) (by repeat constructor) (by assumption) ?_; k_whole))) | ((with_reducible show wpAny _ _ (compareOp CmpOp.In (Value.str _ _) (Value.ref _)) _ _ _); (k_here; k_dflt (refine' kda_in (knd := PySem.strKind _ _) (by k_asm) (by k_mem) (by assumption) (by assumption) (by exact strKind_is _ _ _ _) ?b (by first | assumption | exact rfl) ?_; k_whole))) | ((with_reducible show wpAny _ _ (subscriptTail _ _ _ _) _ _ _); (k_here; (with_reducible show wpAny _ _ (subscriptTail _ _ (Value.ref _) (Value.str _ _)) _ _ _); k_dflt (refine kda_item (knd := PySem.strKind _ _) (by k_asm) (by k_mem) (by assumption) (strKind_is _ _ _ _) (by assumption) ?_))) | walk1) | (dsimp only; walk1) | (leave1; (try dsimp only)))))
    rename (∀ p ∈ (ty, oT) :: (ka, oK) :: (pa, oP) :: rs, p.1 < _) => lI
    have hIv := Nat.ne_of_gt (lI _ (.head _))
    dsimp only at hIv
    repeat' (first | ((fail_if_success (with_reducible show wpAny _ _ (exec (Stmt.While _ _ _ _) _) _ _ _)); (fail_if_success (with_reducible show wpAny _ _ (exec (Stmt.For _ _ _ _ _) _) _ _ _)); (first | ((with_reducible show wpAny _ _ (exec _ _) _ _ _); k_fold) | (k_unfold; (try dsimp only)) | (k_end; wrow_close) | (first | ((with_reducible show wpAny _ _ (setItem (Value.ref _) (Value.str _ _) _) _ _ _); (k_here; k_dflt (refine' kda_set (knd := PySem.strKind _ _) (by k_asm) (by k_asm) (by first | exact UpdF.head (by assumption) | exact UpdF.tail (by assumption) (UpdF.head (by assumption)) | exact UpdF.tail (by assumption) (UpdF.tail (by assumption) (UpdF.head (by assumption))) | fail "upd") (by assumption) (by exact strKind_is _ _ _ _) (by exact Nat.le_trans (by assumption) (by decide +kernel)) ?_; k_whole); intro z_h' z_o' z_F' z_N' z_d'; (try dsimp only at z_N'); (try k_sweep))) | ((with_reducible show wpAny _ _ (pyIter (Value.ref _)) _ _ _); (k_here; (with_reducible show wpAny _ _ (pyIter (Value.ref _)) (fun it s₂ => TurnsAt _ _ _ _ _ _ _ _ _ it s₂) _ _); (rename Fr _ _ _ _ => z_lF'); (rename News _ _ _ _ => z_lN'); (with_unfolding_all refine iter_tupTurns (by rfl) z_lF' z_lN' (by k_mem) (by rfl) (by rfl) ?_); intro z_i' z_l1)) | ((with_reducible show wpAny _ _ (call (Value.ref _) _) _ _ _); (k_here; k_dflt (refine' Spec.use2 (by k_asm) (by k_asm) (by k_asm) (by k_asm) (by k_asm) (by k_asm) (by first | exact rfl | assumption) (by ktr_room) (by ktr_units) (taken_spec2 _ _ _ _ _ _ _ (by first | assumption | exact TakenHyp.mono (by assumption) (fun _ h => List.Mem.tail _ h) | exact TakenHyp.mono (by assumption) (fun _ h => List.Mem.tail _ (List.Mem.tail _ h)) | fail "taken")) ?_; k_whole); intro z_r9 z_h9 z_tk9 z_n9 z_F9 z_N9 z_P9; obtain ⟨z_K9, z_e8⟩ := z_P9; subst z_e8; replace z_N9 := news_sub z_N9 z_K9; clear z_K9; (try dsimp only); (try k_sweep); (try k_fold))) | ((with_reducible show wpAny _ _ (compareOp CmpOp.In (Value.str _ _) (Value.ref _)) _ _ _); (k_here; k_dflt (first | (refine' in_strs (b := true) (by k_asm) (by k_mem) (by kde_strs) (by decide +kernel) ?_; k_whole) | (refine' in_strs (b := false) (by k_asm) (by k_mem) (by kde_strs) (by decide +kernel) ?_; k_whole)))) | ((with_reducible show wpAny _ _ (compareOp CmpOp.In (Value.str _ _) (Value.ref _)) _ _ _); (k_here; k_dflt (refine' in_top_tuple (ys := plainL) (by k_in) (by k_is) (by exact rfl) (by exact rfl) (by repeat constructor) (by assumption) ?_; k_whole))) | ((with_reducible show wpAny _ _ (compareOp CmpOp.In (Value.str _ _) (Value.ref _)) _ _ _); (k_here; k_dflt (refine' kda_in (knd := PySem.strKind _ _) (by k_asm) (by k_mem) (by assumption) (by assumption) (by exact strKind_is _ _ _ _) ?b (by first | assumption | exact rfl) ?_; k_whole))) | ((with_reducible show wpAny _ _ (subscriptTail _ _ _ _) _ _ _); (k_here; (with_reducible show wpAny _ _ (subscriptTail _ _ (Value.ref _) (Value.str _ _)) _ _ _); k_dflt (refine kda_item (knd := PySem.strKind _ _) (by k_asm) (by k_mem) (by assumption) (strKind_is _ _ _ _) (by assumption) ?_))) | walk1) | (dsimp only; walk1) | (leave1; (try dsimp only)))))
    refine unr_end1 (by k_asm) (by k_asm) lI ⟨And.intro (.tail _ (.tail _ (.tail _ hsp))) trivial, ItemsRest.zero fun h8 tk8 lF8 lN8 => ?_⟩
    dsimp only
    repeat' (first | ((fail_if_success (with_reducible show wpAny _ _ (exec (Stmt.While _ _ _ _) _) _ _ _)); (fail_if_success (with_reducible show wpAny _ _ (exec (Stmt.For _ _ _ _ _) _) _ _ _)); (first | ((with_reducible show wpAny _ _ (exec _ _) _ _ _); k_fold) | (k_unfold; (try dsimp only)) | (k_end; wrow_close) | (first | ((with_reducible show wpAny _ _ (setItem (Value.ref _) (Value.str _ _) _) _ _ _); (k_here; k_dflt (refine' kda_set (knd := PySem.strKind _ _) (by k_asm) (by k_asm) (by first | exact UpdF.head (by assumption) | exact UpdF.tail (by assumption) (UpdF.head (by assumption)) | exact UpdF.tail (by assumption) (UpdF.tail (by assumption) (UpdF.head (by assumption))) | fail "upd") (by assumption) (by exact strKind_is _ _ _ _) (by exact Nat.le_trans (by assumption) (by decide +kernel)) ?_; k_whole); intro z_h' z_o' z_F' z_N' z_d'; (try dsimp only at z_N'); (try k_sweep))) | ((with_reducible show wpAny _ _ (pyIter (Value.ref _)) _ _ _); (k_here; (with_reducible show wpAny _ _ (pyIter (Value.ref _)) (fun it s₂ => TurnsAt _ _ _ _ _ _ _ _ _ it s₂) _ _); (rename Fr _ _ _ _ => z_lF'); (rename News _ _ _ _ => z_lN'); (with_unfolding_all refine iter_tupTurns (by rfl) z_lF' z_lN' (by k_mem) (by rfl) (by rfl) ?_); intro z_i' z_l1)) | ((with_reducible show wpAny _ _ (call (Value.ref _) _) _ _ _); (k_here; k_dflt (refine' Spec.use2 (by k_asm) (by k_asm) (by k_asm) (by k_asm) (by k_asm) (by k_asm) (by first | exact rfl | assumption) (by ktr_room) (by ktr_units) (taken_spec2 _ _ _ _ _ _ _ (by first | assumption | exact TakenHyp.mono (by assumption) (fun _ h => List.Mem.tail _ h) | exact TakenHyp.mono (by assumption) (fun _ h => List.Mem.tail _ (List.Mem.tail _ h)) | fail "taken")) ?_; k_whole); intro z_r9 z_h9 z_tk9 z_n9 z_F9 z_N9 z_P9; obtain ⟨z_K9, z_e8⟩ := z_P9; subst z_e8; replace z_N9 := news_sub z_N9 z_K9; clear z_K9; (try dsimp only); (try k_sweep); (try k_fold))) | ((with_reducible show wpAny _ _ (compareOp CmpOp.In (Value.str _ _) (Value.ref _)) _ _ _); (k_here; k_dflt (first | (refine' in_strs (b := true) (by k_asm) (by k_mem) (by kde_strs) (by decide +kernel) ?_; k_whole) | (refine' in_strs (b := false) (by k_asm) (by k_mem) (by kde_strs) (by decide +kernel) ?_; k_whole)))) | ((with_reducible show wpAny _ _ (compareOp CmpOp.In (Value.str _ _) (Value.ref _)) _ _ _); (k_here; k_dflt (refine' in_top_tuple (ys := plainL) (by k_in) (by k_is) (by exact rfl) (by exact rfl) (by repeat constructor) (by assumption) ?_; k_whole))) | ((with_reducible show wpAny _ _ (compareOp CmpOp.In (Value.str _ _) (Value.ref _)) _ _ _); (k_here; k_dflt (refine' kda_in (knd := PySem.strKind _ _) (by k_asm) (by k_mem) (by assumption) (by assumption) (by exact strKind_is _ _ _ _) ?b (by first | assumption | exact rfl) ?_; k_whole))) | ((with_reducible show wpAny _ _ (subscriptTail _ _ _ _) _ _ _); (k_here; (with_reducible show wpAny _ _ (subscriptTail _ _ (Value.ref _) (Value.str _ _)) _ _ _); k_dflt (refine kda_item (knd := PySem.strKind _ _) (by k_asm) (by k_mem) (by assumption) (strKind_is _ _ _ _) (by assumption) ?_))) | walk1) | (dsimp only; walk1) | (leave1; (try dsimp only)))))
    all_goals exact hret _ _ _ _ (by assumption) (by assumption) ⟨rfl, _, _, _, _, rfl, by assumption, by assumption, by assumption⟩

/-- declare, a module or a function: the ledger has the three dicts that change at its head -/
theorem declare_fn (w : World) (mo dx tb td ty va us sp ka pa ta ga ia ke : Addr) (k1 k2 k3 j1 j2 j3 j4 j5 j6 u : Tok) (n n2 : Nat) (md nm : Str) (t1 t2 t3 t4 : Tok) (isT b : Bool) (oT oV oU oK oP oB : Obj) (kvT kvV kvK kvP kvB : List (Str × Value)) (rs : List (Addr × Obj))
    (hmo : (mo, instObj 275 dx) ∈ rs) (hdx : (dx, dictOf (modsDict w j1 j2 j3 j4 j5 j6 ka pa ta ga ia ke) n2) ∈ rs)
    (htb : (tb, instObj 142 td) ∈ rs) (htd : (td, dictOf (tabDict w k1 k2 k3 ty va us) n) ∈ rs) (hU : (us, oU) ∈ rs) (hB : (ta, oB) ∈ rs) (hsp : (sp, tupObj [.str (if isT then Str.ofString "type" else Str.ofString "value") u]) ∈ rs)
    (hoth : ((if isT then va else ty), (if isT then oV else oT)) ∈ rs)
    (lT : (ty == sysModules) = false) (lV : (va == sysModules) = false) (lU : (us == sysModules) = false) (lK : (ka == sysModules) = false)
    (dT : oT.IsDictOf (kS w) kvT) (dV : oV.IsDictOf (kS w) kvV) (dU : oU.IsDictOf (kS w) []) (dK : oK.IsDictOf (kS w) kvK) (dP : oP.IsDictOf (kS w) kvP) (dB : oB.IsDictOf (kS w) kvB)
    (hno : valueAt (if isT then kvT else kvV) nm = none) (hnk : valueAt kvK (joinedF md nm) = none) (hvb : valueAt kvB md = some (.ref tb))
    (hz : kvT.length ≤ 100 ∧ kvV.length ≤ 100) (hzk : kvK.length ≤ 100) (hzp : kvP.length ≤ 100) (hmd : md.length ≤ 100) (hnm : nm.length ≤ 100)
    (hpl : plainL.any (· == nm) = false)
    (hall1 : ∀ p ∈ (ka, oK) :: (pa, oP) :: rs, p.1 ≠ (if isT then ty else va)) (hall2 : ∀ p ∈ (pa, oP) :: rs, p.1 ≠ ka) (hall3 : ∀ p ∈ rs, p.1 ≠ pa)
    (hT : isT = false) : Spec w 174 6 100 [.ref mo, .str md t1, .str nm t2, .str (if isT then Str.ofString "mod" else Str.ofString "fn") t3, .ref sp, .bool b, .int 0 t4] (((if isT then ty else va), (if isT then oT else oV)) :: (ka, oK) :: (pa, oP) :: rs)
      (fun r news' => r = .none ∧ ∃ o1 o2 o3 tk, news' = ((if isT then ty else va), o1) :: (ka, o2) :: (pa, o3) :: rs ∧ o1.IsDictOf (kS w) (stored (if isT then kvT else kvV) nm (.str (joinedF md nm) tk)) ∧
        o2.IsDictOf (kS w) (stored kvK (joinedF md nm) (.str (if isT then Str.ofString "mod" else Str.ofString "fn") t3)) ∧ o3.IsDictOf (kS w) (stored kvP (joinedF md nm) (.bool b))) := by
  have hU0 : (valueAt ([] : List (Str × Value)) nm).isSome = false := rfl
  have hnk' : (valueAt kvK (joinedF md nm)).isSome = false := by rw [hnk]; rfl
  have TH : TakenHyp w (((if isT then ty else va), (if isT then oT else oV)) :: (ka, oK) :: (pa, oP) :: rs) tb sp nm isT := by
    refine ⟨td, ty, va, us, k1, k2, k3, u, n, oT, oV, oU, kvT, kvV, .tail _ (.tail _ (.tail _ htb)), .tail _ (.tail _ (.tail _ htd)), ?_, ?_, .tail _ (.tail _ (.tail _ hU)), .tail _ (.tail _ (.tail _ hsp)), lT, lV, lU, dT, dV, dU, hno, hz⟩
    · cases isT
      · exact .tail _ (.tail _ (.tail _ hoth))
      · exact .head _
    · cases isT
      · exact .head _
      · exact .tail _ (.tail _ (.tail _ hoth))
  unfold Spec
  refine fill w ?_
  k_fill
  intro _ _
  intro mean mg mb dp un gd cn cs a ccd cl outer A₀ base h₀ L m s Q E H F N hk hd hu hret
  obtain ⟨B, X, T, BO⟩ := H
  subst hT
  simp only [if_true, if_false, Bool.false_eq_true] at *
  k_dflt cell_enter
  · have hne1 : va ≠ ka := fun e => hall1 _ (.head _) e.symm
    have hne2 : va ≠ pa := fun e => hall1 _ (.tail _ (.head _)) e.symm
    have hne3 : ka ≠ pa := fun e => hall2 _ (.head _) e.symm
    have hz1 := hz.2
    repeat' (first | ((fail_if_success (with_reducible show wpAny _ _ (exec (Stmt.While _ _ _ _) _) _ _ _)); (fail_if_success (with_reducible show wpAny _ _ (exec (Stmt.For _ _ _ _ _) _) _ _ _)); (first | ((with_reducible show wpAny _ _ (exec _ _) _ _ _); k_fold) | (k_unfold; (try dsimp only)) | (k_end; wrow_close) | (first | ((with_reducible show wpAny _ _ (setItem (Value.ref _) (Value.str _ _) _) _ _ _); (k_here; k_dflt (refine' kda_set (knd := PySem.strKind _ _) (by k_asm) (by k_asm) (by first | exact UpdF.head (by assumption) | exact UpdF.tail (by assumption) (UpdF.head (by assumption)) | exact UpdF.tail (by assumption) (UpdF.tail (by assumption) (UpdF.head (by assumption))) | fail "upd") (by assumption) (by exact strKind_is _ _ _ _) (by exact Nat.le_trans (by assumption) (by decide +kernel)) ?_; k_whole); intro z_h' z_o' z_F' z_N' z_d'; (try dsimp only at z_N'); (try k_sweep))) | ((with_reducible show wpAny _ _ (pyIter (Value.ref _)) _ _ _); (k_here; (with_reducible show wpAny _ _ (pyIter (Value.ref _)) (fun it s₂ => TurnsAt _ _ _ _ _ _ _ _ _ it s₂) _ _); (rename Fr _ _ _ _ => z_lF'); (rename News _ _ _ _ => z_lN'); (with_unfolding_all refine iter_tupTurns (by rfl) z_lF' z_lN' (by k_mem) (by rfl) (by rfl) ?_); intro z_i' z_l1)) | ((with_reducible show wpAny _ _ (call (Value.ref _) _) _ _ _); (k_here; k_dflt (refine' Spec.use2 (by k_asm) (by k_asm) (by k_asm) (by k_asm) (by k_asm) (by k_asm) (by first | exact rfl | assumption) (by ktr_room) (by ktr_units) (taken_spec2 _ _ _ _ _ _ _ (by first | assumption | exact TakenHyp.mono (by assumption) (fun _ h => List.Mem.tail _ h) | exact TakenHyp.mono (by assumption) (fun _ h => List.Mem.tail _ (List.Mem.tail _ h)) | fail "taken")) ?_; k_whole); intro z_r9 z_h9 z_tk9 z_n9 z_F9 z_N9 z_P9; obtain ⟨z_K9, z_e8⟩ := z_P9; subst z_e8; replace z_N9 := news_sub z_N9 z_K9; clear z_K9; (try dsimp only); (try k_sweep); (try k_fold))) | ((with_reducible show wpAny _ _ (compareOp CmpOp.In (Value.str _ _) (Value.ref _)) _ _ _); (k_here; k_dflt (first | (refine' in_strs (b := true) (by k_asm) (by k_mem) (by kde_strs) (by decide +kernel) ?_; k_whole) | (refine' in_strs (b := false) (by k_asm) (by k_mem) (by kde_strs) (by decide +kernel) ?_; k_whole)))) | ((with_reducible show wpAny _ _ (compareOp CmpOp.In (Value.str _ _) (Value.ref _)) _ _ _); (k_here; k_dflt (refine' in_top_tuple (ys := plainL) (by k_in) (by k_is) (by exact rfl) (by exact rfl) (by repeat constructor) (by assumption) ?_; k_whole))) | ((with_reducible show wpAny _ _ (compareOp CmpOp.In (Value.str _ _) (Value.ref _)) _ _ _); (k_here; k_dflt (refine' kda_in (knd := PySem.strKind _ _) (by k_asm) (by k_mem) (by assumption) (by assumption) (by exact strKind_is _ _ _ _) ?b (by first | assumption | exact rfl) ?_; k_whole))) | ((with_reducible show wpAny _ _ (subscriptTail _ _ _ _) _ _ _); (k_here; (with_reducible show wpAny _ _ (subscriptTail _ _ (Value.ref _) (Value.str _ _)) _ _ _); k_dflt (refine kda_item (knd := PySem.strKind _ _) (by k_asm) (by k_mem) (by assumption) (strKind_is _ _ _ _) (by assumption) ?_))) | walk1) | (dsimp only; walk1) | (leave1; (try dsimp only)))))
    rename Fr _ _ _ _ => lF
    rename News _ _ _ _ => lN
    have lN2 := news_tail lN
    clear lN
    with_unfolding_all refine For_turns lF ?_
    repeat' (first | ((fail_if_success (with_reducible show wpAny _ _ (exec (Stmt.While _ _ _ _) _) _ _ _)); (fail_if_success (with_reducible show wpAny _ _ (exec (Stmt.For _ _ _ _ _) _) _ _ _)); (first | ((with_reducible show wpAny _ _ (exec _ _) _ _ _); k_fold) | (k_unfold; (try dsimp only)) | (k_end; wrow_close) | (first | ((with_reducible show wpAny _ _ (setItem (Value.ref _) (Value.str _ _) _) _ _ _); (k_here; k_dflt (refine' kda_set (knd := PySem.strKind _ _) (by k_asm) (by k_asm) (by first | exact UpdF.head (by assumption) | exact UpdF.tail (by assumption) (UpdF.head (by assumption)) | exact UpdF.tail (by assumption) (UpdF.tail (by assumption) (UpdF.head (by assumption))) | fail "upd") (by assumption) (by exact strKind_is _ _ _ _) (by exact Nat.le_trans (by assumption) (by decide +kernel)) ?_; k_whole); intro z_h' z_o' z_F' z_N' z_d'; (try dsimp only at z_N'); (try k_sweep))) | ((with_reducible show wpAny _ _ (pyIter (Value.ref _)) _ _ _); (k_here; (with_reducible show wpAny _ _ (pyIter (Value.ref _)) (fun it s₂ => TurnsAt _ _ _ _ _ _ _ _ _ it s₂) _ _); (rename Fr _ _ _ _ => z_lF'); (rename News _ _ _ _ => z_lN'); (with_unfolding_all refine iter_tupTurns (by rfl) z_lF' z_lN' (by k_mem) (by rfl) (by rfl) ?_); intro z_i' z_l1)) | ((with_reducible show wpAny _ _ (call (Value.ref _) _) _ _ _); (k_here; k_dflt (refine' Spec.use2 (by k_asm) (by k_asm) (by k_asm) (by k_asm) (by k_asm) (by k_asm) (by first | exact rfl | assumption) (by ktr_room) (by ktr_units) (taken_spec2 _ _ _ _ _ _ _ (by first | assumption | exact TakenHyp.mono (by assumption) (fun _ h => List.Mem.tail _ h) | exact TakenHyp.mono (by assumption) (fun _ h => List.Mem.tail _ (List.Mem.tail _ h)) | fail "taken")) ?_; k_whole); intro z_r9 z_h9 z_tk9 z_n9 z_F9 z_N9 z_P9; obtain ⟨z_K9, z_e8⟩ := z_P9; subst z_e8; replace z_N9 := news_sub z_N9 z_K9; clear z_K9; (try dsimp only); (try k_sweep); (try k_fold))) | ((with_reducible show wpAny _ _ (compareOp CmpOp.In (Value.str _ _) (Value.ref _)) _ _ _); (k_here; k_dflt (first | (refine' in_strs (b := true) (by k_asm) (by k_mem) (by kde_strs) (by decide +kernel) ?_; k_whole) | (refine' in_strs (b := false) (by k_asm) (by k_mem) (by kde_strs) (by decide +kernel) ?_; k_whole)))) | ((with_reducible show wpAny _ _ (compareOp CmpOp.In (Value.str _ _) (Value.ref _)) _ _ _); (k_here; k_dflt (refine' in_top_tuple (ys := plainL) (by k_in) (by k_is) (by exact rfl) (by exact rfl) (by repeat constructor) (by assumption) ?_; k_whole))) | ((with_reducible show wpAny _ _ (compareOp CmpOp.In (Value.str _ _) (Value.ref _)) _ _ _); (k_here; k_dflt (refine' kda_in (knd := PySem.strKind _ _) (by k_asm) (by k_mem) (by assumption) (by assumption) (by exact strKind_is _ _ _ _) ?b (by first | assumption | exact rfl) ?_; k_whole))) | ((with_reducible show wpAny _ _ (subscriptTail _ _ _ _) _ _ _); (k_here; (with_reducible show wpAny _ _ (subscriptTail _ _ (Value.ref _) (Value.str _ _)) _ _ _); k_dflt (refine kda_item (knd := PySem.strKind _ _) (by k_asm) (by k_mem) (by assumption) (strKind_is _ _ _ _) (by assumption) ?_))) | walk1) | (dsimp only; walk1) | (leave1; (try dsimp only)))))
    rename (∀ p ∈ (va, oV) :: (ka, oK) :: (pa, oP) :: rs, p.1 < _) => lI
    have hIv := Nat.ne_of_gt (lI _ (.head _))
    dsimp only at hIv
    repeat' (first | ((fail_if_success (with_reducible show wpAny _ _ (exec (Stmt.While _ _ _ _) _) _ _ _)); (fail_if_success (with_reducible show wpAny _ _ (exec (Stmt.For _ _ _ _ _) _) _ _ _)); (first | ((with_reducible show wpAny _ _ (exec _ _) _ _ _); k_fold) | (k_unfold; (try dsimp only)) | (k_end; wrow_close) | (first | ((with_reducible show wpAny _ _ (setItem (Value.ref _) (Value.str _ _) _) _ _ _); (k_here; k_dflt (refine' kda_set (knd := PySem.strKind _ _) (by k_asm) (by k_asm) (by first | exact UpdF.head (by assumption) | exact UpdF.tail (by assumption) (UpdF.head (by assumption)) | exact UpdF.tail (by assumption) (UpdF.tail (by assumption) (UpdF.head (by assumption))) | fail "upd") (by assumption) (by exact strKind_is _ _ _ _) (by exact Nat.le_trans (by assumption) (by decide +kernel)) ?_; k_whole); intro z_h' z_o' z_F' z_N' z_d'; (try dsimp only at z_N'); (try k_sweep))) | ((with_reducible show wpAny _ _ (pyIter (Value.ref _)) _ _ _); (k_here; (with_reducible show wpAny _ _ (pyIter (Value.ref _)) (fun it s₂ => TurnsAt _ _ _ _ _ _ _ _ _ it s₂) _ _); (rename Fr _ _ _ _ => z_lF'); (rename News _ _ _ _ => z_lN'); (with_unfolding_all refine iter_tupTurns (by rfl) z_lF' z_lN' (by k_mem) (by rfl) (by rfl) ?_); intro z_i' z_l1)) | ((with_reducible show wpAny _ _ (call (Value.ref _) _) _ _ _); (k_here; k_dflt (refine' Spec.use2 (by k_asm) (by k_asm) (by k_asm) (by k_asm) (by k_asm) (by k_asm) (by first | exact rfl | assumption) (by ktr_room) (by ktr_units) (taken_spec2 _ _ _ _ _ _ _ (by first | assumption | exact TakenHyp.mono (by assumption) (fun _ h => List.Mem.tail _ h) | exact TakenHyp.mono (by assumption) (fun _ h => List.Mem.tail _ (List.Mem.tail _ h)) | fail "taken")) ?_; k_whole); intro z_r9 z_h9 z_tk9 z_n9 z_F9 z_N9 z_P9; obtain ⟨z_K9, z_e8⟩ := z_P9; subst z_e8; replace z_N9 := news_sub z_N9 z_K9; clear z_K9; (try dsimp only); (try k_sweep); (try k_fold))) | ((with_reducible show wpAny _ _ (compareOp CmpOp.In (Value.str _ _) (Value.ref _)) _ _ _); (k_here; k_dflt (first | (refine' in_strs (b := true) (by k_asm) (by k_mem) (by kde_strs) (by decide +kernel) ?_; k_whole) | (refine' in_strs (b := false) (by k_asm) (by k_mem) (by kde_strs) (by decide +kernel) ?_; k_whole)))) | ((with_reducible show wpAny _ _ (compareOp CmpOp.In (Value.str _ _) (Value.ref _)) _ _ _); (k_here; k_dflt (refine' in_top_tuple (ys := plainL) (by k_in) (by k_is) (by exact rfl) (by exact rfl) (by repeat constructor) (by assumption) ?_; k_whole))) | ((with_reducible show wpAny _ _ (compareOp CmpOp.In (Value.str _ _) (Value.ref _)) _ _ _); (k_here; k_dflt (refine' kda_in (knd := PySem.strKind _ _) (by k_asm) (by k_mem) (by assumption) (by assumption) (by exact strKind_is _ _ _ _) ?b (by first | assumption | exact rfl) ?_; k_whole))) | ((with_reducible show wpAny _ _ (subscriptTail _ _ _ _) _ _ _); (k_here; (with_reducible show wpAny _ _ (subscriptTail _ _ (Value.ref _) (Value.str _ _)) _ _ _); k_dflt (refine kda_item (knd := PySem.strKind _ _) (by k_asm) (by k_mem) (by assumption) (strKind_is _ _ _ _) (by assumption) ?_))) | walk1) | (dsimp only; walk1) | (leave1; (try dsimp only)))))
    refine unr_end1 (by k_asm) (by k_asm) lI ⟨And.intro (.tail _ (.tail _ (.tail _ hsp))) trivial, ItemsRest.zero fun h8 tk8 lF8 lN8 => ?_⟩
    dsimp only
    repeat' (first | ((fail_if_success (with_reducible show wpAny _ _ (exec (Stmt.While _ _ _ _) _) _ _ _)); (fail_if_success (with_reducible show wpAny _ _ (exec (Stmt.For _ _ _ _ _) _) _ _ _)); (first | ((with_reducible show wpAny _ _ (exec _ _) _ _ _); k_fold) | (k_unfold; (try dsimp only)) | (k_end; wrow_close) | (first | ((with_reducible show wpAny _ _ (setItem (Value.ref _) (Value.str _ _) _) _ _ _); (k_here; k_dflt (refine' kda_set (knd := PySem.strKind _ _) (by k_asm) (by k_asm) (by first | exact UpdF.head (by assumption) | exact UpdF.tail (by assumption) (UpdF.head (by assumption)) | exact UpdF.tail (by assumption) (UpdF.tail (by assumption) (UpdF.head (by assumption))) | fail "upd") (by assumption) (by exact strKind_is _ _ _ _) (by exact Nat.le_trans (by assumption) (by decide +kernel)) ?_; k_whole); intro z_h' z_o' z_F' z_N' z_d'; (try dsimp only at z_N'); (try k_sweep))) | ((with_reducible show wpAny _ _ (pyIter (Value.ref _)) _ _ _); (k_here; (with_reducible show wpAny _ _ (pyIter (Value.ref _)) (fun it s₂ => TurnsAt _ _ _ _ _ _ _ _ _ it s₂) _ _); (rename Fr _ _ _ _ => z_lF'); (rename News _ _ _ _ => z_lN'); (with_unfolding_all refine iter_tupTurns (by rfl) z_lF' z_lN' (by k_mem) (by rfl) (by rfl) ?_); intro z_i' z_l1)) | ((with_reducible show wpAny _ _ (call (Value.ref _) _) _ _ _); (k_here; k_dflt (refine' Spec.use2 (by k_asm) (by k_asm) (by k_asm) (by k_asm) (by k_asm) (by k_asm) (by first | exact rfl | assumption) (by ktr_room) (by ktr_units) (taken_spec2 _ _ _ _ _ _ _ (by first | assumption | exact TakenHyp.mono (by assumption) (fun _ h => List.Mem.tail _ h) | exact TakenHyp.mono (by assumption) (fun _ h => List.Mem.tail _ (List.Mem.tail _ h)) | fail "taken")) ?_; k_whole); intro z_r9 z_h9 z_tk9 z_n9 z_F9 z_N9 z_P9; obtain ⟨z_K9, z_e8⟩ := z_P9; subst z_e8; replace z_N9 := news_sub z_N9 z_K9; clear z_K9; (try dsimp only); (try k_sweep); (try k_fold))) | ((with_reducible show wpAny _ _ (compareOp CmpOp.In (Value.str _ _) (Value.ref _)) _ _ _); (k_here; k_dflt (first | (refine' in_strs (b := true) (by k_asm) (by k_mem) (by kde_strs) (by decide +kernel) ?_; k_whole) | (refine' in_strs (b := false) (by k_asm) (by k_mem) (by kde_strs) (by decide +kernel) ?_; k_whole)))) | ((with_reducible show wpAny _ _ (compareOp CmpOp.In (Value.str _ _) (Value.ref _)) _ _ _); (k_here; k_dflt (refine' in_top_tuple (ys := plainL) (by k_in) (by k_is) (by exact rfl) (by exact rfl) (by repeat constructor) (by assumption) ?_; k_whole))) | ((with_reducible show wpAny _ _ (compareOp CmpOp.In (Value.str _ _) (Value.ref _)) _ _ _); (k_here; k_dflt (refine' kda_in (knd := PySem.strKind _ _) (by k_asm) (by k_mem) (by assumption) (by assumption) (by exact strKind_is _ _ _ _) ?b (by first | assumption | exact rfl) ?_; k_whole))) | ((with_reducible show wpAny _ _ (subscriptTail _ _ _ _) _ _ _); (k_here; (with_reducible show wpAny _ _ (subscriptTail _ _ (Value.ref _) (Value.str _ _)) _ _ _); k_dflt (refine kda_item (knd := PySem.strKind _ _) (by k_asm) (by k_mem) (by assumption) (strKind_is _ _ _ _) (by assumption) ?_))) | walk1) | (dsimp only; walk1) | (leave1; (try dsimp only)))))
    all_goals exact hret _ _ _ _ (by assumption) (by assumption) ⟨rfl, _, _, _, _, rfl, by assumption, by assumption, by assumption⟩
end

/- F16 -/
section
theorem mem_of2 {h₀ h : Heap} {L : Addr} {l rest : List (Addr × Obj)} (_N : News h₀ L h l) (hm : ∀ q ∈ rest, q ∈ l) : ∀ q ∈ rest, q ∈ l := hm
theorem mem_of3 {h₀ h : Heap} {L : Addr} {l : List (Addr × Obj)} {q : Addr × Obj} (_N : News h₀ L h l) (hm : q ∈ l) : q ∈ l := hm
theorem off_clsR {h₀ h : Heap} {L : Addr} {l : List (Addr × Obj)} {p q : Addr × Obj} {a : Addr} {b : String} (N : News h₀ L h l) (hp : p ∈ l) (hq : q ∈ l) (ha : p.2.cls = .ref a) (hb : q.2.cls = .type b) : p.1 ≠ q.1 := fun e => by
  have e1 := (N _ hp).1
  rw [e, (N _ hq).1] at e1
  have e2 := congrArg Obj.cls (Option.some.inj e1)
  rw [ha, hb] at e2
  cases e2
theorem reg3 {h₀ h : Heap} {L : Addr} {l : List (Addr × Obj)} {a b c : Addr} {oa ob oc : Obj} (N : News h₀ L h l) (h1 : (a, oa) ∈ l) (h2 : (b, ob) ∈ l) (h3 : (c, oc) ∈ l) :
    ∃ l', News h₀ L h ((a, oa) :: (b, ob) :: (c, oc) :: l') ∧ (∀ q ∈ l, q.1 ≠ a → q.1 ≠ b → q.1 ≠ c → q ∈ l') ∧ (∀ q ∈ l', q.1 ≠ a ∧ q.1 ≠ b ∧ q.1 ≠ c) := by
  refine ⟨l.filter (fun q => decide (q.1 ≠ a ∧ q.1 ≠ b ∧ q.1 ≠ c)), news_sub N fun q hq => ?_, fun q hq x y z => List.mem_filter.mpr ⟨hq, by simp [x, y, z]⟩, fun q hq => by simpa using (List.mem_filter.mp hq).2⟩
  simp only [List.mem_cons] at hq
  rcases hq with rfl | rfl | rfl | hq
  · exact h1
  · exact h2
  · exact h3
  · exact (List.mem_filter.mp hq).1
theorem dict_cls {w : World} {o : Obj} {kv : List (Str × Value)} (d : o.IsDictOf (kS w) kv) : o.cls = .type "dict" := by
  obtain ⟨es, ep, h, _⟩ := d; exact h.1
/-- d[k] = v for a dict of the ledger, wherever it stands in it -/
theorem set_any {w : World} {A : Around} {E : Value → Shared → Prop} {s : Shared} {h₀ : Heap} {L d : Addr} {m : Str → Option Value} {l : List (Addr × Obj)} {o : Obj} {kvs : List (Str × Value)} {k : Str} {tk : Tok} {v : Value} {Q : Unit → Shared → Prop}
    (F : Fr h₀ L s.heap m) (N : News h₀ L s.heap l) (hm : (d, o) ∈ l) (hd : o.IsDictOf (kS w) kvs) (hz : kvs.length ≤ 200)
    (h : ∀ h' o' l', Fr h₀ L h' m → News h₀ L h' ((d, o') :: l') → (∀ q ∈ l, q.1 ≠ d → q ∈ l') → (∀ q ∈ l', q.1 ≠ d) → o'.IsDictOf (kS w) (stored kvs k v) → Q () { s with heap := h', toks := s.toks + 1 }) :
    wpAny (model Challenge.rw_up0052_01.row.prog w) A (setItem (.ref d) (.str k tk) v) Q E s := by
  have hall : ∀ q ∈ l.filter (fun q => decide (q.1 ≠ d)), q.1 ≠ d := fun q hq => by simpa using (List.mem_filter.mp hq).2
  have N2 : News h₀ L s.heap ((d, o) :: l.filter (fun q => decide (q.1 ≠ d))) := news_sub N fun q hq => by
    rcases List.mem_cons.mp hq with rfl | hq
    · exact hm
    · exact (List.mem_filter.mp hq).1
  exact kda_set (knd := kS w) F N2 (.head hall) hd (strKind_is _ _ _ _) (Nat.le_trans hz (by decide +kernel)) fun h' o' F' N' d' => h h' o' _ F' N' (fun q hq hn => List.mem_filter.mpr ⟨hq, by simpa using hn⟩) hall d'


noncomputable abbrev modItem (nm : Str) (ti : Addr) (b : Bool) (u1 u2 u3 : Tok) : Obj := tupObj [.str (Str.ofString "mod") u1, .int 0 u2, .str nm u3, .ref ti, .bool b]
theorem enter_mod (w : World) (mo dx tb td ty va us it ti ka pa ta ga ia ke : Addr) (k1 k2 k3 j1 j2 j3 j4 j5 j6 u1 u2 u3 : Tok) (n n2 : Nat) (md nm : Str) (t1 : Tok) (b : Bool) (oT oV oU oK oP oB : Obj) (kvT kvV kvK kvP kvB : List (Str × Value)) (l : List (Addr × Obj))
    (hmo : (mo, instObj 275 dx) ∈ l) (hdx : (dx, dictOf (modsDict w j1 j2 j3 j4 j5 j6 ka pa ta ga ia ke) n2) ∈ l)
    (hit : (it, modItem nm ti b u1 u2 u3) ∈ l)
    (htb : (tb, instObj 142 td) ∈ l) (htd : (td, dictOf (tabDict w k1 k2 k3 ty va us) n) ∈ l) (hT : (ty, oT) ∈ l) (hV : (va, oV) ∈ l) (hU : (us, oU) ∈ l) (hK : (ka, oK) ∈ l) (hP : (pa, oP) ∈ l) (hB : (ta, oB) ∈ l)
    (lT : (ty == sysModules) = false) (lV : (va == sysModules) = false) (lU : (us == sysModules) = false) (lK : (ka == sysModules) = false)
    (dT : oT.IsDictOf (kS w) kvT) (dV : oV.IsDictOf (kS w) kvV) (dU : oU.IsDictOf (kS w) []) (dK : oK.IsDictOf (kS w) kvK) (dP : oP.IsDictOf (kS w) kvP) (dB : oB.IsDictOf (kS w) kvB)
    (hno : valueAt kvT nm = none) (hnk : valueAt kvK (joinedF md nm) = none) (hvb : valueAt kvB md = some (.ref tb))
    (hz : kvT.length ≤ 100 ∧ kvV.length ≤ 100) (hzk : kvK.length ≤ 100) (hzp : kvP.length ≤ 100) (hzb : kvB.length ≤ 100) (hmd : md.length ≤ 100) (hnm : nm.length ≤ 100)
    (hpl : plainL.any (· == nm) = false)
    (nTK : ty ≠ ka) (nTP : ty ≠ pa) (nKP : ka ≠ pa) (hne : ∀ x ∈ [ta, va, us, td, dx], x ≠ ty ∧ x ≠ ka ∧ x ≠ pa) :
    Spec w 167 9 160 [.ref mo, .str md t1, .ref it] l
      (fun r news' => r = .none ∧ ∃ o1 o2 o3 o4 tk1 tk2 tb' td' ty' va' us' i1 i2 i3 oT' oV' oU', (ty, o1) ∈ news' ∧ (ka, o2) ∈ news' ∧ (pa, o3) ∈ news' ∧ (ta, o4) ∈ news' ∧ (∀ q ∈ l, q.1 ≠ ty → q.1 ≠ ka → q.1 ≠ pa → q.1 ≠ ta → q ∈ news') ∧
        o1.IsDictOf (kS w) (stored kvT nm (.str (joinedF md nm) tk1)) ∧ o2.IsDictOf (kS w) (stored kvK (joinedF md nm) (.str (Str.ofString "mod") tk2)) ∧ o3.IsDictOf (kS w) (stored kvP (joinedF md nm) (.bool b)) ∧
        o4.IsDictOf (kS w) (stored kvB (joinedF md nm) (.ref tb')) ∧ (tb', instObj 142 td') ∈ news' ∧ (td', dictOf (tabDict w i1 i2 i3 ty' va' us') 3) ∈ news' ∧ (ty', oT') ∈ news' ∧ (va', oV') ∈ news' ∧ (us', oU') ∈ news' ∧
        oT'.IsDictOf (kS w) [] ∧ oV'.IsDictOf (kS w) [] ∧ oU'.IsDictOf (kS w) [] ∧ (ty' == sysModules) = false ∧ (va' == sysModules) = false ∧ (us' == sysModules) = false ∧
        (∀ q ∈ l, q.1 < td') ∧ td' < tb' ∧ tb' < ty' ∧ ty' < va' ∧ va' < us') := by
  unfold Spec
  refine fill w ?_
  k_fill
  intro _ _
  intro mean mg mb dp un gd cn cs a ccd cl outer A₀ base h₀ L m s Q E H F N hk hd hu hret
  obtain ⟨B, X, T, BO⟩ := H
  have fresh0 : ∀ (D : Addr), (∀ q ∈ l, q.1 < D) → D ≠ ty ∧ D ≠ ka ∧ D ≠ pa ∧ D ≠ ta := fun D h => ⟨Nat.ne_of_gt (h _ hT), Nat.ne_of_gt (h _ hK), Nat.ne_of_gt (h _ hP), Nat.ne_of_gt (h _ hB)⟩
  k_dflt cell_enter
  repeat' (first | ((fail_if_success (with_reducible show wpAny _ _ (call (Value.ref 174) _) _ _ _)); (first | (k_unfold; (try dsimp only)) | (k_end; wrow_close) | walk1 | (dsimp only; walk1) | (leave1; try dsimp only))))
  rename Fr _ _ _ _ => lF
  rename News _ _ _ _ => lN
  have hspm : (_, tupObj [.str (Str.ofString "type") _]) ∈ _ := mem_of3 lN (.head _)
  have hL := mem_of2 lN (fun q (hq : q ∈ l) => .tail _ (.tail _ hq))
  try k_fold
  obtain ⟨rs, lN2, hin, hall⟩ := reg3 lN (hL _ hT) (hL _ hK) (hL _ hP)
  have ne1 : ∀ {q : Addr × Obj} {c : String}, q ∈ l → q.2.cls = .type c → c ≠ "dict" → q.1 ≠ ty ∧ q.1 ≠ ka ∧ q.1 ≠ pa := fun hq hc hn => ⟨off_cls N hq hT hc (dict_cls dT) hn, off_cls N hq hK hc (dict_cls dK) hn, off_cls N hq hP hc (dict_cls dP) hn⟩
  have ne2 : ∀ {q : Addr × Obj} {C : Addr}, q ∈ l → q.2.cls = .ref C → q.1 ≠ ty ∧ q.1 ≠ ka ∧ q.1 ≠ pa := fun hq hc => ⟨off_clsR N hq hT hc (dict_cls dT), off_clsR N hq hK hc (dict_cls dK), off_clsR N hq hP hc (dict_cls dP)⟩
  have keep : ∀ {q : Addr × Obj}, q ∈ l → q.1 ≠ ty ∧ q.1 ≠ ka ∧ q.1 ≠ pa → q ∈ rs := fun hq hn => hin _ (hL _ hq) hn.1 hn.2.1 hn.2.2
  have hsp : (_, tupObj [.str (Str.ofString "type") _]) ∈ rs := hin _ hspm (off_cls lN hspm (hL _ hT) rfl (dict_cls dT) (by decide)) (off_cls lN hspm (hL _ hK) rfl (dict_cls dK) (by decide)) (off_cls lN hspm (hL _ hP) rfl (dict_cls dP) (by decide))
  k_dflt (refine' Spec.use (declare_mod w mo dx tb td ty va us _ ka pa ta ga ia ke k1 k2 k3 j1 j2 j3 j4 j5 j6 _ n n2 md nm t1 u3 u1 u2 true b oT oV oU oK oP oB kvT kvV kvK kvP kvB rs
    (keep hmo (ne2 hmo rfl)) (keep hdx (hne dx (by simp))) (keep htb (ne2 htb rfl)) (keep htd (hne td (by simp))) (keep hU (hne us (by simp))) (keep hB (hne ta (by simp))) hsp (keep hV (hne va (by simp))) lT lV lU lK dT dV dU dK dP dB hno hnk hvb hz hzk hzp hmd hnm hpl ?d1 ?d2 ?d3 rfl) ?k1 ?k2 ?k3 ?k4 ?k5 ?k6 ?k7 ?k8 ?k9 ?_; (case k1 => k_asm); (case k2 => k_asm); (case k3 => k_asm); (case k4 => k_asm); (case k5 => k_asm); (case k6 => k_asm); (case k7 => first | exact rfl | assumption); (case k8 => ktr_room); (case k9 => ktr_units); k_whole)
  case d1 =>
    intro q hq
    rcases List.mem_cons.mp hq with rfl | hq
    · exact Ne.symm nTK
    · rcases List.mem_cons.mp hq with rfl | hq
      · exact Ne.symm nTP
      · exact (hall q hq).1
  case d2 =>
    intro q hq
    rcases List.mem_cons.mp hq with rfl | hq
    · exact Ne.symm nKP
    · exact (hall q hq).2.1
  case d3 => exact fun q hq => (hall q hq).2.2
  intro r9 h9 tk9 n9 F9 N9 P9
  try k_fold
  obtain ⟨e9, o1, o2, o3, tk1, e8, d1, d2, d3⟩ := P9
  subst e9 e8
  simp only [if_true] at N9 d1 d2 d3
  clear lF lN lN2 hspm hsp
  have hlt : ∀ q ∈ l, ∃ o, (q.1, o) ∈ (ty, o1) :: (ka, o2) :: (pa, o3) :: rs := by
    intro q hq
    by_cases e1 : q.1 = ty
    · exact ⟨o1, by rw [e1]; exact .head _⟩
    by_cases e2 : q.1 = ka
    · exact ⟨o2, by rw [e2]; exact .tail _ (.head _)⟩
    by_cases e3 : q.1 = pa
    · exact ⟨o3, by rw [e3]; exact .tail _ (.tail _ (.head _))⟩
    exact ⟨q.2, .tail _ (.tail _ (.tail _ (keep hq ⟨e1, e2, e3⟩)))⟩
  have hmo9 : (mo, instObj 275 dx) ∈ (ty, o1) :: (ka, o2) :: (pa, o3) :: rs := .tail _ (.tail _ (.tail _ (keep hmo (ne2 hmo rfl))))
  have hdx9 : (dx, dictOf (modsDict w j1 j2 j3 j4 j5 j6 ka pa ta ga ia ke) n2) ∈ (ty, o1) :: (ka, o2) :: (pa, o3) :: rs := .tail _ (.tail _ (.tail _ (keep hdx (hne dx (by simp)))))
  have hit9 : (it, modItem nm ti b u1 u2 u3) ∈ (ty, o1) :: (ka, o2) :: (pa, o3) :: rs := .tail _ (.tail _ (.tail _ (keep hit (ne1 hit rfl (by decide)))))
  have hB9 : (ta, oB) ∈ (ty, o1) :: (ka, o2) :: (pa, o3) :: rs := .tail _ (.tail _ (.tail _ (keep hB (hne ta (by simp)))))
  (try dsimp only)
  repeat' (first | ((fail_if_success (with_reducible show wpAny _ _ (call (Value.ref 142) _) _ _ _)); (first | (k_unfold; (try dsimp only)) | (k_end; wrow_close) | walk1 | (dsimp only; walk1) | (leave1; try dsimp only))))
  k_dflt (refine' table_make w _ _ _ _ _ _ _ _ _ _ _ _ _ _ _ _ _ _ _ _ _ ⟨?k1, ?k3, ?k5, ?k6⟩ F9 N9 ?k7 ?k8 ?k9 ?_; (case k1 => k_asm); (case k3 => k_asm); (case k5 => k_asm); (case k6 => k_asm); (case k7 => first | exact rfl | assumption); (case k8 => ktr_room); (case k9 => ktr_units); k_whole)
  intro r8 h8 tk8 n8 F8 N8 P8
  try k_fold
  obtain ⟨tb', td', ty', va', us', i1, i2, i3, oT', oV', oU', e8, e7, dT', dV', dU', sT', sV', sU', f1, f2, f3, f4, f5⟩ := P8
  subst e8 e7
  clear F9 N9
  have hmo8 : (mo, instObj 275 dx) ∈ (us', oU') :: (va', oV') :: (ty', oT') :: (tb', instObj 142 td') :: (td', dictOf (tabDict w i1 i2 i3 ty' va' us') 3) :: (ty, o1) :: (ka, o2) :: (pa, o3) :: rs := .tail _ (.tail _ (.tail _ (.tail _ (.tail _ hmo9))))
  have hdx8 : (dx, dictOf (modsDict w j1 j2 j3 j4 j5 j6 ka pa ta ga ia ke) n2) ∈ (us', oU') :: (va', oV') :: (ty', oT') :: (tb', instObj 142 td') :: (td', dictOf (tabDict w i1 i2 i3 ty' va' us') 3) :: (ty, o1) :: (ka, o2) :: (pa, o3) :: rs := .tail _ (.tail _ (.tail _ (.tail _ (.tail _ hdx9))))
  have hit8 : (it, modItem nm ti b u1 u2 u3) ∈ (us', oU') :: (va', oV') :: (ty', oT') :: (tb', instObj 142 td') :: (td', dictOf (tabDict w i1 i2 i3 ty' va' us') 3) :: (ty, o1) :: (ka, o2) :: (pa, o3) :: rs := .tail _ (.tail _ (.tail _ (.tail _ (.tail _ hit9))))
  ktr_step
  rename Fr _ _ _ _ => lF
  rename News _ _ _ _ => lN
  refine set_any lF lN (.tail _ (.tail _ (.tail _ (.tail _ (.tail _ hB9))))) dB (Nat.le_trans hzb (by decide)) ?_
  intro h7 o4 l7 F7 N7 K7 A7 d4
  clear lF lN
  have fr : ∀ q ∈ l, q.1 < td' := fun q hq => by
    obtain ⟨o, ho⟩ := hlt q hq
    exact f1 (q.1, o) ho
  have nta := hne ta (by simp)
  have hta := fr _ hB
  have up : ∀ {q : Addr × Obj}, q ∈ (ty, o1) :: (ka, o2) :: (pa, o3) :: rs → q.1 ≠ ta → q ∈ (ta, o4) :: l7 := fun hq hn => .tail _ (K7 _ (.tail _ (.tail _ (.tail _ (.tail _ (.tail _ hq))))) hn)
  dsimp only at hta
  have g2 : ta ≠ td' := Nat.ne_of_lt hta
  have g3 : ta ≠ tb' := Nat.ne_of_lt (Nat.lt_trans hta f2)
  have g4 : ta ≠ ty' := Nat.ne_of_lt (Nat.lt_trans hta (Nat.lt_trans f2 f3))
  have g5 : ta ≠ va' := Nat.ne_of_lt (Nat.lt_trans hta (Nat.lt_trans f2 (Nat.lt_trans f3 f4)))
  have g6 : ta ≠ us' := Nat.ne_of_lt (Nat.lt_trans hta (Nat.lt_trans f2 (Nat.lt_trans f3 (Nat.lt_trans f4 f5))))
  ktr_step
  all_goals exact hret _ _ _ _ (by assumption) (by assumption) ⟨rfl, o1, o2, o3, o4, _, _, tb', td', ty', va', us', i1, i2, i3, oT', oV', oU',
    up (.head _) (Ne.symm nta.1), up (.tail _ (.head _)) (Ne.symm nta.2.1), up (.tail _ (.tail _ (.head _))) (Ne.symm nta.2.2), .head _,
    fun q hq x y z t => up (.tail _ (.tail _ (.tail _ (keep hq ⟨x, y, z⟩)))) t, d1, d2, d3, d4,
    .tail _ (K7 _ (.tail _ (.tail _ (.tail _ (.head _)))) (Ne.symm g3)), .tail _ (K7 _ (.tail _ (.tail _ (.tail _ (.tail _ (.head _))))) (Ne.symm g2)), .tail _ (K7 _ (.tail _ (.tail _ (.head _))) (Ne.symm g4)),
    .tail _ (K7 _ (.tail _ (.head _)) (Ne.symm g5)), .tail _ (K7 _ (.head _) (Ne.symm g6)), dT', dV', dU', sT', sV', sU', fr, f2, f3, f4, f5⟩
end

/- F17 -/
section

noncomputable abbrev fnItem (e1 e2 : Addr) (b : Bool) (u1 u2 u3 : Tok) : Obj := tupObj [.str (Str.ofString "fn") u1, .int 0 u2, .str (Str.ofString "f") u3, .ref e1, .none, .ref e2, .none, .none, .bool b]
theorem enter_fn (w : World) (mo dx tb td ty va us it x1 x2 ka pa ta ga ia ke : Addr) (k1 k2 k3 j1 j2 j3 j4 j5 j6 u1 u2 u3 : Tok) (n n2 : Nat) (md : Str) (t1 : Tok) (b : Bool) (oT oV oU oK oP oB oI : Obj) (kvT kvV kvK kvP kvB kvI : List (Str × Value)) (l : List (Addr × Obj))
    (hmo : (mo, instObj 275 dx) ∈ l) (hdx : (dx, dictOf (modsDict w j1 j2 j3 j4 j5 j6 ka pa ta ga ia ke) n2) ∈ l)
    (hit : (it, fnItem x1 x2 b u1 u2 u3) ∈ l)
    (htb : (tb, instObj 142 td) ∈ l) (htd : (td, dictOf (tabDict w k1 k2 k3 ty va us) n) ∈ l) (hT : (ty, oT) ∈ l) (hV : (va, oV) ∈ l) (hU : (us, oU) ∈ l) (hK : (ka, oK) ∈ l) (hP : (pa, oP) ∈ l) (hB : (ta, oB) ∈ l) (hI : (ia, oI) ∈ l)
    (lT : (ty == sysModules) = false) (lV : (va == sysModules) = false) (lU : (us == sysModules) = false) (lK : (ka == sysModules) = false)
    (dT : oT.IsDictOf (kS w) kvT) (dV : oV.IsDictOf (kS w) kvV) (dU : oU.IsDictOf (kS w) []) (dK : oK.IsDictOf (kS w) kvK) (dP : oP.IsDictOf (kS w) kvP) (dB : oB.IsDictOf (kS w) kvB) (dI : oI.IsDictOf (kS w) kvI)
    (hno : valueAt kvV (Str.ofString "f") = none) (hnk : valueAt kvK (joinedF md (Str.ofString "f")) = none) (hvb : valueAt kvB md = some (.ref tb))
    (hz : kvT.length ≤ 100 ∧ kvV.length ≤ 100) (hzk : kvK.length ≤ 100) (hzp : kvP.length ≤ 100) (hzi : kvI.length ≤ 100) (hmd : md.length ≤ 100)
    (nVK : va ≠ ka) (nVP : va ≠ pa) (nKP : ka ≠ pa) (hne : ∀ x ∈ [ta, ty, us, td, dx, ia], x ≠ va ∧ x ≠ ka ∧ x ≠ pa) :
    Spec w 167 9 160 [.ref mo, .str md t1, .ref it] l
      (fun r news' => r = .none ∧ ∃ o1 o2 o3 o4 tk1 tk2 vI, (va, o1) ∈ news' ∧ (ka, o2) ∈ news' ∧ (pa, o3) ∈ news' ∧ (ia, o4) ∈ news' ∧ (∀ q ∈ l, q.1 ≠ va → q.1 ≠ ka → q.1 ≠ pa → q.1 ≠ ia → q ∈ news') ∧
        o1.IsDictOf (kS w) (stored kvV (Str.ofString "f") (.str (joinedF md (Str.ofString "f")) tk1)) ∧ o2.IsDictOf (kS w) (stored kvK (joinedF md (Str.ofString "f")) (.str (Str.ofString "fn") tk2)) ∧ o3.IsDictOf (kS w) (stored kvP (joinedF md (Str.ofString "f")) (.bool b)) ∧
        o4.IsDictOf (kS w) (stored kvI (joinedF md (Str.ofString "f")) vI)) := by
  have hnm : (Str.ofString "f").length ≤ 100 := by decide +kernel
  have hpl : plainL.any (· == Str.ofString "f") = false := by decide +kernel
  unfold Spec
  refine fill w ?_
  k_fill
  intro _ _
  intro mean mg mb dp un gd cn cs a ccd cl outer A₀ base h₀ L m s Q E H F N hk hd hu hret
  obtain ⟨B, X, T, BO⟩ := H
  k_dflt cell_enter
  repeat' (first | ((fail_if_success (with_reducible show wpAny _ _ (call (Value.ref 174) _) _ _ _)); (first | (k_unfold; (try dsimp only)) | (k_end; wrow_close) | walk1 | (dsimp only; walk1) | (leave1; try dsimp only))))
  rename Fr _ _ _ _ => lF
  rename News _ _ _ _ => lN
  have hspm : (_, tupObj [.str (Str.ofString "value") _]) ∈ _ := mem_of3 lN (.head _)
  have hL := mem_of2 lN (fun q (hq : q ∈ l) => .tail _ (.tail _ (.tail _ hq)))
  try k_fold
  obtain ⟨rs, lN2, hin, hall⟩ := reg3 lN (hL _ hV) (hL _ hK) (hL _ hP)
  have ne1 : ∀ {q : Addr × Obj} {c : String}, q ∈ l → q.2.cls = .type c → c ≠ "dict" → q.1 ≠ va ∧ q.1 ≠ ka ∧ q.1 ≠ pa := fun hq hc hn => ⟨off_cls N hq hV hc (dict_cls dV) hn, off_cls N hq hK hc (dict_cls dK) hn, off_cls N hq hP hc (dict_cls dP) hn⟩
  have ne2 : ∀ {q : Addr × Obj} {C : Addr}, q ∈ l → q.2.cls = .ref C → q.1 ≠ va ∧ q.1 ≠ ka ∧ q.1 ≠ pa := fun hq hc => ⟨off_clsR N hq hV hc (dict_cls dV), off_clsR N hq hK hc (dict_cls dK), off_clsR N hq hP hc (dict_cls dP)⟩
  have keep : ∀ {q : Addr × Obj}, q ∈ l → q.1 ≠ va ∧ q.1 ≠ ka ∧ q.1 ≠ pa → q ∈ rs := fun hq hn => hin _ (hL _ hq) hn.1 hn.2.1 hn.2.2
  have hsp : (_, tupObj [.str (Str.ofString "value") _]) ∈ rs := hin _ hspm (off_cls lN hspm (hL _ hV) rfl (dict_cls dV) (by decide)) (off_cls lN hspm (hL _ hK) rfl (dict_cls dK) (by decide)) (off_cls lN hspm (hL _ hP) rfl (dict_cls dP) (by decide))
  k_dflt (refine' Spec.use (declare_fn w mo dx tb td ty va us _ ka pa ta ga ia ke k1 k2 k3 j1 j2 j3 j4 j5 j6 _ n n2 md (Str.ofString "f") t1 u3 u1 u2 false b oT oV oU oK oP oB kvT kvV kvK kvP kvB rs
    (keep hmo (ne2 hmo rfl)) (keep hdx (hne dx (by simp))) (keep htb (ne2 htb rfl)) (keep htd (hne td (by simp))) (keep hU (hne us (by simp))) (keep hB (hne ta (by simp))) hsp (keep hT (hne ty (by simp))) lT lV lU lK dT dV dU dK dP dB hno hnk hvb hz hzk hzp hmd hnm hpl ?d1 ?d2 ?d3 rfl) ?k1 ?k2 ?k3 ?k4 ?k5 ?k6 ?k7 ?k8 ?k9 ?_; (case k1 => k_asm); (case k2 => k_asm); (case k3 => k_asm); (case k4 => k_asm); (case k5 => k_asm); (case k6 => k_asm); (case k7 => first | exact rfl | assumption); (case k8 => ktr_room); (case k9 => ktr_units); k_whole)
  case d1 =>
    intro q hq
    rcases List.mem_cons.mp hq with rfl | hq
    · exact Ne.symm nVK
    · rcases List.mem_cons.mp hq with rfl | hq
      · exact Ne.symm nVP
      · exact (hall q hq).1
  case d2 =>
    intro q hq
    rcases List.mem_cons.mp hq with rfl | hq
    · exact Ne.symm nKP
    · exact (hall q hq).2.1
  case d3 => exact fun q hq => (hall q hq).2.2
  intro r9 h9 tk9 n9 F9 N9 P9
  try k_fold
  obtain ⟨e9, o1, o2, o3, tk1, e8, d1, d2, d3⟩ := P9
  subst e9 e8
  simp only [if_false, Bool.false_eq_true] at N9 d1 d2 d3
  clear lF lN lN2 hspm hsp
  have hmo9 : (mo, instObj 275 dx) ∈ (va, o1) :: (ka, o2) :: (pa, o3) :: rs := .tail _ (.tail _ (.tail _ (keep hmo (ne2 hmo rfl))))
  have hdx9 : (dx, dictOf (modsDict w j1 j2 j3 j4 j5 j6 ka pa ta ga ia ke) n2) ∈ (va, o1) :: (ka, o2) :: (pa, o3) :: rs := .tail _ (.tail _ (.tail _ (keep hdx (hne dx (by simp)))))
  have hit9 : (it, fnItem x1 x2 b u1 u2 u3) ∈ (va, o1) :: (ka, o2) :: (pa, o3) :: rs := .tail _ (.tail _ (.tail _ (keep hit (ne1 hit rfl (by decide)))))
  have hI9 : (ia, oI) ∈ (va, o1) :: (ka, o2) :: (pa, o3) :: rs := .tail _ (.tail _ (.tail _ (keep hI (hne ia (by simp)))))
  (try dsimp only)
  ktr_step
  rename Fr _ _ _ _ => lF
  rename News _ _ _ _ => lN
  refine set_any lF lN hI9 dI (Nat.le_trans hzi (by decide)) ?_
  intro h7 o4 l7 F7 N7 K7 A7 d4
  clear lF lN
  have nia := hne ia (by simp)
  ktr_step
  all_goals exact hret _ _ _ _ (by assumption) (by assumption) ⟨rfl, o1, o2, o3, o4, _, _, _,
    .tail _ (K7 _ (.head _) (Ne.symm nia.1)), .tail _ (K7 _ (.tail _ (.head _)) (Ne.symm nia.2.1)), .tail _ (K7 _ (.tail _ (.tail _ (.head _))) (Ne.symm nia.2.2)), .head _,
    fun q hq x y z t => .tail _ (K7 _ (.tail _ (.tail _ (.tail _ (keep hq ⟨x, y, z⟩)))) t), d1, d2, d3, d4⟩
end

/- F18 -/
section
theorem Spec.withN {w : World} {f : Addr} {d u : Nat} {vs : List Value} {news : List (Addr × Obj)} {post : Value → List (Addr × Obj) → Prop} (S : ∀ h₀ h L, News h₀ L h news → Spec w f d u vs news post) : Spec w f d u vs news post := by
  intro mean mg mb dp un gd cn cs a ccd cl outer A₀ base h₀ L m s Q E H F N
  exact S _ _ _ N mean mg mb dp un gd cn cs a ccd cl outer A₀ base h₀ L m s Q E H F N
theorem Spec.weak {w : World} {f : Addr} {d u : Nat} {vs : List Value} {news : List (Addr × Obj)} {post post' : Value → List (Addr × Obj) → Prop} (S : Spec w f d u vs news post) (hp : ∀ r n, post r n → post' r n) : Spec w f d u vs news post' := by
  intro mean mg mb dp un gd cn cs a ccd cl outer A₀ base h₀ L m s Q E H F N hk hd hu hret
  exact S mean mg mb dp un gd cn cs a ccd cl outer A₀ base h₀ L m s Q E H F N hk hd hu fun r h' tk' n' a b c => hret r h' tk' n' a b (hp _ _ c)

theorem seenAt_snoc (E : Seen) (q r : Path) (b : Bool) : seenAt (E ++ [(q, b)]) r = match seenAt E r with | some x => some x | none => if q = r then some b else none := by
  unfold seenAt
  rw [List.find?_append]
  cases h : E.find? fun x => decide (x.1 = r) with
  | some y => simp
  | none =>
    by_cases e : q = r
    · simp [e]
    · simp [e]
theorem va_snoc (kv : List (Str × Value)) (k k' : Str) (v : Value) : valueAt (kv ++ [(k, v)]) k' = match valueAt kv k' with | some x => some x | none => if k = k' then some v else none := by
  unfold valueAt
  rw [List.find?_append]
  cases h : kv.find? fun x => decide (x.1 = k') with
  | some y => simp [h]
  | none =>
    by_cases e : k = k'
    · simp [h, e]
    · simp [h, e]
theorem va_snoc_self {kv : List (Str × Value)} {k : Str} {v : Value} (h : valueAt kv k = none) : valueAt (kv ++ [(k, v)]) k = some v := by rw [va_snoc, h]; simp
theorem va_snoc_ne {kv : List (Str × Value)} {k k' : Str} {v : Value} (h : k ≠ k') : valueAt (kv ++ [(k, v)]) k' = valueAt kv k' := by
  rw [va_snoc]
  cases valueAt kv k' <;> simp [h]
theorem seen_snoc_self {E : Seen} {q : Path} {b : Bool} (h : seenAt E q = none) : seenAt (E ++ [(q, b)]) q = some b := by rw [seenAt_snoc, h]; simp
theorem seen_snoc_ne {E : Seen} {q r : Path} {b : Bool} (h : q ≠ r) : seenAt (E ++ [(q, b)]) r = seenAt E r := by
  rw [seenAt_snoc]
  cases seenAt E r <;> simp [h]

structure Uni (U : List Path) : Prop where
  nil : [] ∈ U
  inj : ∀ p ∈ U, ∀ q ∈ U, pth p = pth q → p = q
  len : ∀ p ∈ U, (pth p).length ≤ 100

noncomputable abbrev Role := Nat × Path
theorem ne_role {role : Addr → Option Role} {a b : Addr} {x y : Role} (h1 : role a = some x) (h2 : role b = some y) (h : x ≠ y) : a ≠ b := fun e => h (by rw [e, h2] at h1; exact (Option.some.inj h1).symm)
noncomputable def kindE (E : Seen) (q : Path) (tk : Tok) : Option Value := if q = [] then some (.str (Str.ofString "mod") tk) else (seenAt E q).map fun _ => .str (if isFn q then Str.ofString "fn" else Str.ofString "mod") tk

inductive Tab (w : World) (l : List (Addr × Obj)) (role : Addr → Option Role) (E : Seen) (p : Path) (tb : Addr) : Prop
  | mk : ∀ td ty va us k1 k2 k3 n oT oV oU kvT kvV, ((tb, instObj 142 td) ∈ l) → ((td, dictOf (tabDict w k1 k2 k3 ty va us) n) ∈ l) → ((ty, oT) ∈ l) → ((va, oV) ∈ l) → ((us, oU) ∈ l) → ((ty == sysModules) = false) → ((va == sysModules) = false) → ((us == sysModules) = false) → (oT.IsDictOf (kS w) kvT) → (oV.IsDictOf (kS w) kvV) → (oU.IsDictOf (kS w) []) → (role td = some (5, p)) → (role ty = some (6, p)) → (role va = some (7, p)) → (role us = some (8, p)) → (kvT.length ≤ E.length) → (kvV.length ≤ E.length) → (∀ n ty, ∃ tk, valueAt (if ty then kvT else kvV) n = (nextP E p n ty).map fun _ => Value.str (pth (p ++ [n])) tk) → Tab w l role E p tb

inductive MState (w : World) (U : List Path) (news0 l : List (Addr × Obj)) (role : Addr → Option Role) (mo dx : Addr) (E : Seen) : Prop
  | mk : ∀ ka pa ta ga ia ke j1 j2 j3 j4 j5 j6 oK oP oB oI kvK kvP kvB kvI, ((mo, instObj 275 dx) ∈ l) → ((dx, dictOf (modsDict w j1 j2 j3 j4 j5 j6 ka pa ta ga ia ke) 6) ∈ l) → (role dx = some (0, [])) → ((ka, oK) ∈ l) → ((pa, oP) ∈ l) → ((ta, oB) ∈ l) → ((ia, oI) ∈ l) → (role ka = some (1, [])) → (role pa = some (2, [])) → (role ta = some (3, [])) → (role ia = some (4, [])) → ((ka == sysModules) = false) → ((pa == sysModules) = false) → ((ta == sysModules) = false) → (oK.IsDictOf (kS w) kvK) → (oP.IsDictOf (kS w) kvP) → (oB.IsDictOf (kS w) kvB) → (oI.IsDictOf (kS w) kvI) → ((∀ q ∈ U, ∃ tk, valueAt kvK (pth q) = kindE E q tk)) → ((∀ q ∈ U, q ≠ [] → valueAt kvP (pth q) = (seenAt E q).map Value.bool)) → ((∀ q ∈ U, ¬ isMod E q → valueAt kvB (pth q) = none)) → ((∀ p, isMod E p → ∃ tb, valueAt kvB (pth p) = some (.ref tb) ∧ Tab w l role E p tb)) → (kvK.length ≤ E.length + 1) → (kvP.length ≤ E.length + 1) → (kvB.length ≤ E.length + 1) → (kvI.length ≤ E.length) → (∀ q ∈ news0, q ∈ l ∧ role q.1 = none) → MState w U news0 l role mo dx E

theorem MState.base {w : World} {U : List Path} {news0 l : List (Addr × Obj)} {role : Addr → Option Role} {mo dx : Addr} {E : Seen} (M : MState w U news0 l role mo dx E) : ∀ q ∈ news0, q ∈ l ∧ role q.1 = none := by
  cases M
  assumption
theorem isMod_snoc {E : Seen} {q r : Path} {b : Bool} (hq : isFn q = false) (h0 : seenAt E q = none) : isMod (E ++ [(q, b)]) r ↔ isMod E r ∨ r = q := by
  unfold isMod
  by_cases e : q = r
  · subst e
    rw [seen_snoc_self h0]
    simp [hq]
  · rw [seen_snoc_ne e]
    have : ¬ r = q := fun x => e x.symm
    simp [this]
theorem isMod_snoc_fn {E : Seen} {q r : Path} {b : Bool} (hq : isFn q = true) (h0 : seenAt E q = none) : isMod (E ++ [(q, b)]) r ↔ isMod E r := by
  unfold isMod
  by_cases e : q = r
  · subst e
    rw [seen_snoc_self h0, h0, hq]
    simp
  · rw [seen_snoc_ne e]
theorem mod_mem {U : List Path} (hU : Uni U) {E : Seen} (hEU : ∀ x ∈ E, x.1 ∈ U) {p : Path} (h : isMod E p) : p ∈ U := by
  rcases h with rfl | ⟨h, _⟩
  · exact hU.nil
  · unfold seenAt at h
    rw [Option.isSome_map] at h
    obtain ⟨x, hx⟩ := Option.isSome_iff_exists.mp h
    have h1 := List.find?_some hx
    have h2 := List.mem_of_find?_eq_some hx
    have h3 : x.1 = p := by simpa using h1
    rw [← h3]
    exact hEU x h2
theorem isFn_snoc (p : Path) (n : Str) : isFn (p ++ [n]) = (n == Str.ofString "f") := by
  simp only [isFn, List.getLast?_concat]
  rfl
theorem snoc_inj {p r : Path} {n m : Str} (h : p ++ [n] = r ++ [m]) : p = r ∧ n = m := by
  have := List.append_inj' h rfl
  exact ⟨this.1, by simpa using this.2⟩
theorem nextP_snoc_ne {E : Seen} {p r : Path} {n m : Str} {b ty : Bool} (h : r ≠ p ∨ m ≠ n) : nextP (E ++ [(p ++ [n], b)]) r m ty = nextP E r m ty := by
  unfold nextP
  rw [seen_snoc_ne]
  intro e
  obtain ⟨e1, e2⟩ := snoc_inj e
  rcases h with h | h
  · exact h e1.symm
  · exact h e2.symm

theorem Tab.keep {w : World} {l l' : List (Addr × Obj)} {role role' : Addr → Option Role} {E : Seen} {p r : Path} {n : Str} {b : Bool} {tb : Addr} (T : Tab w l role E r tb) (hne : r ≠ p)
    (hl : ∀ q ∈ l, q.2.cls ≠ .type "dict" → q ∈ l') (hd : ∀ q ∈ l, ∀ k, role q.1 = some (k, r) → 5 ≤ k → q ∈ l') (hr : ∀ q ∈ l, role' q.1 = role q.1) : Tab w l' role' (E ++ [(p ++ [n], b)]) r tb := by
  obtain ⟨td, ty, va, us, k1, k2, k3, n', oT, oV, oU, kvT, kvV, m1, m2, m3, m4, m5, s1, s2, s3, d1, d2, d3, r1, r2, r3, r4, z1, z2, look⟩ := T
  refine ⟨td, ty, va, us, k1, k2, k3, n', oT, oV, oU, kvT, kvV, hl _ m1 (by intro e; cases e), hd _ m2 _ r1 (by decide), hd _ m3 _ r2 (by decide), hd _ m4 _ r3 (by decide), hd _ m5 _ r4 (by decide), s1, s2, s3, d1, d2, d3,
    (hr _ m2).trans r1, (hr _ m3).trans r2, (hr _ m4).trans r3, (hr _ m5).trans r4, by simp; omega, by simp; omega, fun m ty' => ?_⟩
  rw [nextP_snoc_ne (.inl hne)]
  exact look m ty'
noncomputable def ItemTup (l : List (Addr × Obj)) (q : Path) (b : Bool) (it : Addr) : Prop :=
  (isFn q = true ∧ ∃ x1 x2 u1 u2 u3, (it, fnItem x1 x2 b u1 u2 u3) ∈ l) ∨ (isFn q = false ∧ ∃ n ti u1 u2 u3, q.getLast? = some n ∧ (it, modItem n ti b u1 u2 u3) ∈ l)
noncomputable def EnterPost (w : World) (U : List Path) (news0 l : List (Addr × Obj)) (mo dx : Addr) (E : Seen) (r : Value) (n' : List (Addr × Obj)) : Prop :=
  r = .none ∧ (∃ role, MState w U news0 n' role mo dx E) ∧ ∀ q ∈ l, q.2.cls ≠ .type "dict" → q ∈ n'

theorem enter_state_mod {w : World} {U : List Path} {news0 l : List (Addr × Obj)} {role : Addr → Option Role} {mo dx it ti : Addr} {E : Seen} {p : Path} {n : Str} {b : Bool} {t1 u1 u2 u3 : Tok} (hU : Uni U) (M : MState w U news0 l role mo dx E)
    (hp : isMod E p) (hq : p ++ [n] ∈ U) (h0 : seenAt E (p ++ [n]) = none) (hf : (n == Str.ofString "f") = false) (hch : ∀ m, seenAt E (p ++ [n] ++ [m]) = none) (hE : E.length ≤ 50) (hEU : ∀ x ∈ E, x.1 ∈ U)
    (hit : (it, modItem n ti b u1 u2 u3) ∈ l) (hpl : plainL.any (· == n) = false) (hnl : n.length ≤ 100) :
    Spec w 167 9 160 [.ref mo, .str (pth p) t1, .ref it] l (EnterPost w U news0 l mo dx (E ++ [(p ++ [n], b)])) := by
  refine Spec.withN fun h₀ h L N => ?_
  obtain ⟨ka, pa, ta, ga, ia, ke, j1, j2, j3, j4, j5, j6, oK, oP, oB, oI, kvK, kvP, kvB, kvI, hmo, hdx, rdx, hK, hP, hB, hI, rK, rP, rB, rI, sK, sP, sB, dK, dP, dB, dI, lookK, lookP, lookB0, lookB, zK, zP, zB, zI, hbase⟩ := M
  obtain ⟨tb, hvb, ⟨td, ty, va, us, k1, k2, k3, n', oT, oV, oU, kvT, kvV, m1, m2, m3, m4, m5, s1, s2, s3, d1, d2, d3, r1, r2, r3, r4, z1, z2, look⟩⟩ := lookB p hp
  have hpU := mod_mem hU hEU hp
  have hnf : ¬ n = Str.ofString "f" := by simpa using hf
  have hfn : isFn (p ++ [n]) = false := by rw [isFn_snoc, hf]
  have hqn : p ++ [n] ≠ [] := by simp
  have hjoin : joinedF (pth p) n = pth (p ++ [n]) := (pth_snoc p n).symm
  have hno : valueAt kvT n = none := by
    obtain ⟨tk, e⟩ := look n true
    simp only [if_true] at e
    rw [e]
    simp [nextP, hf, h0]
  have hnk : valueAt kvK (joinedF (pth p) n) = none := by
    rw [hjoin]
    obtain ⟨tk, e⟩ := lookK _ hq
    rw [e]
    simp [kindE, h0]
  have hnm : ¬ isMod E (p ++ [n]) := by
    rintro (h | ⟨h, _⟩)
    · exact hqn h
    · rw [h0] at h; cases h
  have hnb : valueAt kvB (pth (p ++ [n])) = none := lookB0 _ hq hnm
  have hnp : valueAt kvP (pth (p ++ [n])) = none := by rw [lookP _ hq hqn, h0]; rfl
  refine Spec.weak (enter_mod w mo dx tb td ty va us it ti ka pa ta ga ia ke k1 k2 k3 j1 j2 j3 j4 j5 j6 u1 u2 u3 n' 6 (pth p) n t1 b oT oV oU oK oP oB kvT kvV kvK kvP kvB l hmo hdx hit m1 m2 m3 m4 m5 hK hP hB s1 s2 s3 sK d1 d2 d3 dK dP dB hno hnk hvb
    ⟨by omega, by omega⟩ (by omega) (by omega) (by omega) (hU.len _ hpU) hnl hpl (ne_role r2 rK (by simp)) (ne_role r2 rP (by simp)) (ne_role rK rP (by simp)) (by
      intro x hx
      simp only [List.mem_cons, List.not_mem_nil, or_false] at hx
      rcases hx with rfl | rfl | rfl | rfl | rfl
      · exact ⟨ne_role rB r2 (by simp), ne_role rB rK (by simp), ne_role rB rP (by simp)⟩
      · exact ⟨ne_role r3 r2 (by simp), ne_role r3 rK (by simp), ne_role r3 rP (by simp)⟩
      · exact ⟨ne_role r4 r2 (by simp), ne_role r4 rK (by simp), ne_role r4 rP (by simp)⟩
      · exact ⟨ne_role r1 r2 (by simp), ne_role r1 rK (by simp), ne_role r1 rP (by simp)⟩
      · exact ⟨ne_role rdx r2 (by simp), ne_role rdx rK (by simp), ne_role rdx rP (by simp)⟩)) ?_
  rintro r l' ⟨rfl, o1, o2, o3, o4, tk1, tk2, tb', td', ty', va', us', i1, i2, i3, oT', oV', oU', g1, g2, g3, g4, keep, e1, e2, e3, e4, g5, g6, g7, g8, g9, e5, e6, e7, s1', s2', s3', fr, f2, f3, f4, f5⟩
  rw [hjoin] at e1 e2 e3 e4
  rw [stored_absent hno] at e1
  rw [stored_absent (hjoin ▸ hnk)] at e2
  rw [stored_absent hnp] at e3
  rw [stored_absent hnb] at e4
  have hcls : ∀ q ∈ l, q.2.cls ≠ .type "dict" → q ∈ l' := fun q hq hc => keep q hq
    (fun e => hc (by have e1 := (N _ hq).1; rw [e, (N _ m3).1] at e1; rw [← Option.some.inj e1]; exact dict_cls d1))
    (fun e => hc (by have e1 := (N _ hq).1; rw [e, (N _ hK).1] at e1; rw [← Option.some.inj e1]; exact dict_cls dK))
    (fun e => hc (by have e1 := (N _ hq).1; rw [e, (N _ hP).1] at e1; rw [← Option.some.inj e1]; exact dict_cls dP))
    (fun e => hc (by have e1 := (N _ hq).1; rw [e, (N _ hB).1] at e1; rw [← Option.some.inj e1]; exact dict_cls dB))
  have keepR : ∀ q ∈ l, ∀ x, role q.1 = x → x ≠ some (6, p) → x ≠ some (1, []) → x ≠ some (2, []) → x ≠ some (3, []) → q ∈ l' := fun q hq x hx a1 a2 a3 a4 => keep q hq
    (fun e => a1 (by rw [← hx, e, r2])) (fun e => a2 (by rw [← hx, e, rK])) (fun e => a3 (by rw [← hx, e, rP])) (fun e => a4 (by rw [← hx, e, rB]))
  let role' : Addr → Option Role := fun a => if a = td' then some (5, p ++ [n]) else if a = ty' then some (6, p ++ [n]) else if a = va' then some (7, p ++ [n]) else if a = us' then some (8, p ++ [n]) else role a
  have hr' : ∀ q ∈ l, role' q.1 = role q.1 := fun q hq => by
    have h1 := fr q hq
    have n1 : q.1 ≠ td' := Nat.ne_of_lt h1
    have n2 : q.1 ≠ ty' := Nat.ne_of_lt (Nat.lt_trans h1 (Nat.lt_trans f2 f3))
    have n3 : q.1 ≠ va' := Nat.ne_of_lt (Nat.lt_trans h1 (Nat.lt_trans f2 (Nat.lt_trans f3 f4)))
    have n4 : q.1 ≠ us' := Nat.ne_of_lt (Nat.lt_trans h1 (Nat.lt_trans f2 (Nat.lt_trans f3 (Nat.lt_trans f4 f5))))
    simp only [role', n1, n2, n3, n4, if_false]
  have x1 : ty' ≠ td' := Nat.ne_of_gt (Nat.lt_trans f2 f3)
  have x2 : va' ≠ td' := Nat.ne_of_gt (Nat.lt_trans f2 (Nat.lt_trans f3 f4))
  have x3 : us' ≠ td' := Nat.ne_of_gt (Nat.lt_trans f2 (Nat.lt_trans f3 (Nat.lt_trans f4 f5)))
  have x4 : va' ≠ ty' := Nat.ne_of_gt f4
  have x5 : us' ≠ ty' := Nat.ne_of_gt (Nat.lt_trans f4 f5)
  have x6 : us' ≠ va' := Nat.ne_of_gt f5
  refine ⟨rfl, ⟨role', ⟨ka, pa, ta, ga, ia, ke, j1, j2, j3, j4, j5, j6, o2, o3, o4, oI, _, _, _, kvI, hcls _ hmo (by intro e; cases e), keepR _ hdx _ rdx (by simp) (by simp) (by simp) (by simp), (hr' _ hdx).trans rdx,
    g2, g3, g4, keepR _ hI _ rI (by simp) (by simp) (by simp) (by simp), (hr' _ hK).trans rK, (hr' _ hP).trans rP, (hr' _ hB).trans rB, (hr' _ hI).trans rI, sK, sP, sB, e2, e3, e4, dI, ?_, ?_, ?_, ?_, by simp; omega, by simp; omega, by simp; omega, by simp; omega, ?_⟩⟩, hcls⟩
  · intro r hr
    by_cases e : p ++ [n] = r
    · subst e
      exact ⟨tk2, by rw [va_snoc_self (hjoin ▸ hnk), kindE, if_neg hqn, seen_snoc_self h0, hfn]; rfl⟩
    · obtain ⟨tk, h⟩ := lookK r hr
      refine ⟨tk, ?_⟩
      rw [va_snoc_ne (fun x => e (hU.inj _ hq _ hr x)), h, kindE, kindE, seen_snoc_ne e]
  · intro r hr hr0
    by_cases e : p ++ [n] = r
    · subst e
      rw [va_snoc_self hnp, seen_snoc_self h0]; rfl
    · rw [va_snoc_ne (fun x => e (hU.inj _ hq _ hr x)), lookP r hr hr0, seen_snoc_ne e]
  · intro r hr hm
    rw [isMod_snoc hfn h0] at hm
    have e : p ++ [n] ≠ r := fun e => hm (.inr e.symm)
    rw [va_snoc_ne (fun x => e (hU.inj _ hq _ hr x))]
    exact lookB0 r hr fun x => hm (.inl x)
  · intro r hm
    rw [isMod_snoc hfn h0] at hm
    rcases hm with hm | rfl
    · have hrU := mod_mem hU hEU hm
      have hrq : p ++ [n] ≠ r := fun e => hnm (e ▸ hm)
      by_cases hrp : r = p
      · subst hrp
        refine ⟨tb, by rw [va_snoc_ne (fun x => hrq (hU.inj _ hq _ hrU x)), hvb], ⟨td, ty, va, us, k1, k2, k3, n', o1, oV, oU, _, kvV, hcls _ m1 (by intro e; cases e), keepR _ m2 _ r1 (by simp) (by simp) (by simp) (by simp), g1, keepR _ m4 _ r3 (by simp) (by simp) (by simp) (by simp), keepR _ m5 _ r4 (by simp) (by simp) (by simp) (by simp), s1, s2, s3, e1, d2, d3, (hr' _ m2).trans r1, (hr' _ m3).trans r2, (hr' _ m4).trans r3, (hr' _ m5).trans r4, by simp; omega, by simp; omega, fun m ty2 => ?_⟩⟩
        cases ty2 with
        | true =>
          simp only [if_true]
          by_cases em : n = m
          · subst em
            exact ⟨tk1, by rw [va_snoc_self hno]; simp [nextP, hf, seen_snoc_self h0]⟩
          · obtain ⟨tk, h⟩ := look m true
            exact ⟨tk, by rw [va_snoc_ne em, nextP_snoc_ne (.inr fun x => em x.symm)]; simpa using h⟩
        | false =>
          simp only [Bool.false_eq_true, if_false]
          by_cases em : n = m
          · subst em
            obtain ⟨tk, h⟩ := look n false
            refine ⟨tk, ?_⟩
            simp only [Bool.false_eq_true, if_false] at h
            rw [h]
            simp [nextP, hf]
          · obtain ⟨tk, h⟩ := look m false
            exact ⟨tk, by rw [nextP_snoc_ne (.inr fun x => em x.symm)]; simpa using h⟩
      · obtain ⟨tbr, hv, T⟩ := lookB r hm
        refine ⟨tbr, by rw [va_snoc_ne (fun x => hrq (hU.inj _ hq _ hrU x)), hv], T.keep hrp hcls (fun q hq k hk h5 => keepR q hq _ hk (by simp [hrp]) (by simp; omega) (by simp; omega) (by simp; omega)) hr'⟩
    · refine ⟨tb', va_snoc_self hnb, ⟨td', ty', va', us', i1, i2, i3, 3, oT', oV', oU', [], [], g5, g6, g7, g8, g9, s1', s2', s3', e5, e6, e7, by simp [role'], by simp [role', x1], by simp [role', x2, x4], by simp [role', x3, x5, x6], by simp, by simp, fun m ty2 => ⟨0, ?_⟩⟩⟩
      have h2 : seenAt (E ++ [(p ++ [n], b)]) (p ++ [n] ++ [m]) = none := by
        rw [seen_snoc_ne (by intro e; have := congrArg List.length e; simp at this), hch m]
      have h3 : nextP (E ++ [(p ++ [n], b)]) (p ++ [n]) m ty2 = none := by unfold nextP; rw [h2]; split <;> rfl
      rw [h3]
      cases ty2 <;> rfl
  · intro q hq
    obtain ⟨a1, a2⟩ := hbase q hq
    exact ⟨keepR q a1 _ a2 (by simp) (by simp) (by simp) (by simp), (hr' q a1).trans a2⟩

theorem enter_state_fn {w : World} {U : List Path} {news0 l : List (Addr × Obj)} {role : Addr → Option Role} {mo dx it x1 x2 : Addr} {E : Seen} {p : Path} {b : Bool} {t1 u1 u2 u3 : Tok} (hU : Uni U) (M : MState w U news0 l role mo dx E)
    (hp : isMod E p) (hq : p ++ [Str.ofString "f"] ∈ U) (h0 : seenAt E (p ++ [Str.ofString "f"]) = none) (hE : E.length ≤ 50) (hEU : ∀ x ∈ E, x.1 ∈ U)
    (hit : (it, fnItem x1 x2 b u1 u2 u3) ∈ l) :
    Spec w 167 9 160 [.ref mo, .str (pth p) t1, .ref it] l (EnterPost w U news0 l mo dx (E ++ [(p ++ [Str.ofString "f"], b)])) := by
  refine Spec.withN fun h₀ h L N => ?_
  obtain ⟨ka, pa, ta, ga, ia, ke, j1, j2, j3, j4, j5, j6, oK, oP, oB, oI, kvK, kvP, kvB, kvI, hmo, hdx, rdx, hK, hP, hB, hI, rK, rP, rB, rI, sK, sP, sB, dK, dP, dB, dI, lookK, lookP, lookB0, lookB, zK, zP, zB, zI, hbase⟩ := M
  obtain ⟨tb, hvb, ⟨td, ty, va, us, k1, k2, k3, n', oT, oV, oU, kvT, kvV, m1, m2, m3, m4, m5, s1, s2, s3, d1, d2, d3, r1, r2, r3, r4, z1, z2, look⟩⟩ := lookB p hp
  have hpU := mod_mem hU hEU hp
  have hfn : isFn (p ++ [Str.ofString "f"]) = true := by rw [isFn_snoc]; simp
  have hqn : p ++ [Str.ofString "f"] ≠ [] := by simp
  have hjoin : joinedF (pth p) (Str.ofString "f") = pth (p ++ [Str.ofString "f"]) := (pth_snoc p _).symm
  have hno : valueAt kvV (Str.ofString "f") = none := by
    obtain ⟨tk, e⟩ := look (Str.ofString "f") false
    simp only [Bool.false_eq_true, if_false] at e
    rw [e]
    simp [nextP, h0]
  have hnk : valueAt kvK (joinedF (pth p) (Str.ofString "f")) = none := by
    rw [hjoin]
    obtain ⟨tk, e⟩ := lookK _ hq
    rw [e]
    simp [kindE, h0]
  have hnp : valueAt kvP (pth (p ++ [Str.ofString "f"])) = none := by rw [lookP _ hq hqn, h0]; rfl
  refine Spec.weak (enter_fn w mo dx tb td ty va us it x1 x2 ka pa ta ga ia ke k1 k2 k3 j1 j2 j3 j4 j5 j6 u1 u2 u3 n' 6 (pth p) t1 b oT oV oU oK oP oB oI kvT kvV kvK kvP kvB kvI l hmo hdx hit m1 m2 m3 m4 m5 hK hP hB hI s1 s2 s3 sK d1 d2 d3 dK dP dB dI hno hnk hvb
    ⟨by omega, by omega⟩ (by omega) (by omega) (by omega) (hU.len _ hpU) (ne_role r3 rK (by simp)) (ne_role r3 rP (by simp)) (ne_role rK rP (by simp)) (by
      intro x hx
      simp only [List.mem_cons, List.not_mem_nil, or_false] at hx
      rcases hx with rfl | rfl | rfl | rfl | rfl | rfl
      · exact ⟨ne_role rB r3 (by simp), ne_role rB rK (by simp), ne_role rB rP (by simp)⟩
      · exact ⟨ne_role r2 r3 (by simp), ne_role r2 rK (by simp), ne_role r2 rP (by simp)⟩
      · exact ⟨ne_role r4 r3 (by simp), ne_role r4 rK (by simp), ne_role r4 rP (by simp)⟩
      · exact ⟨ne_role r1 r3 (by simp), ne_role r1 rK (by simp), ne_role r1 rP (by simp)⟩
      · exact ⟨ne_role rdx r3 (by simp), ne_role rdx rK (by simp), ne_role rdx rP (by simp)⟩
      · exact ⟨ne_role rI r3 (by simp), ne_role rI rK (by simp), ne_role rI rP (by simp)⟩)) ?_
  rintro r l' ⟨rfl, o1, o2, o3, o4, tk1, tk2, vI, g1, g2, g3, g4, keep, e1, e2, e3, e4⟩
  rw [hjoin] at e1 e2 e3 e4
  rw [stored_absent hno] at e1
  rw [stored_absent (hjoin ▸ hnk)] at e2
  rw [stored_absent hnp] at e3
  have hcls : ∀ q ∈ l, q.2.cls ≠ .type "dict" → q ∈ l' := fun q hq hc => keep q hq
    (fun e => hc (by have e1 := (N _ hq).1; rw [e, (N _ m4).1] at e1; rw [← Option.some.inj e1]; exact dict_cls d2))
    (fun e => hc (by have e1 := (N _ hq).1; rw [e, (N _ hK).1] at e1; rw [← Option.some.inj e1]; exact dict_cls dK))
    (fun e => hc (by have e1 := (N _ hq).1; rw [e, (N _ hP).1] at e1; rw [← Option.some.inj e1]; exact dict_cls dP))
    (fun e => hc (by have e1 := (N _ hq).1; rw [e, (N _ hI).1] at e1; rw [← Option.some.inj e1]; exact dict_cls dI))
  have keepR : ∀ q ∈ l, ∀ x, role q.1 = x → x ≠ some (7, p) → x ≠ some (1, []) → x ≠ some (2, []) → x ≠ some (4, []) → q ∈ l' := fun q hq x hx a1 a2 a3 a4 => keep q hq
    (fun e => a1 (by rw [← hx, e, r3])) (fun e => a2 (by rw [← hx, e, rK])) (fun e => a3 (by rw [← hx, e, rP])) (fun e => a4 (by rw [← hx, e, rI]))
  refine ⟨rfl, ⟨role, ⟨ka, pa, ta, ga, ia, ke, j1, j2, j3, j4, j5, j6, o2, o3, oB, o4, _, _, kvB, _, hcls _ hmo (by intro e; cases e), keepR _ hdx _ rdx (by simp) (by simp) (by simp) (by simp), rdx,
    g2, g3, keepR _ hB _ rB (by simp) (by simp) (by simp) (by simp), g4, rK, rP, rB, rI, sK, sP, sB, e2, e3, dB, e4, ?_, ?_, ?_, ?_, by simp; omega, by simp; omega, by simp; omega, by have := stored_length_le kvI (pth (p ++ [Str.ofString "f"])) vI; simp; omega, ?_⟩⟩, hcls⟩
  · intro r hr
    by_cases e : p ++ [Str.ofString "f"] = r
    · subst e
      exact ⟨tk2, by rw [va_snoc_self (hjoin ▸ hnk), kindE, if_neg hqn, seen_snoc_self h0, hfn]; rfl⟩
    · obtain ⟨tk, h⟩ := lookK r hr
      refine ⟨tk, ?_⟩
      rw [va_snoc_ne (fun x => e (hU.inj _ hq _ hr x)), h, kindE, kindE, seen_snoc_ne e]
  · intro r hr hr0
    by_cases e : p ++ [Str.ofString "f"] = r
    · subst e
      rw [va_snoc_self hnp, seen_snoc_self h0]; rfl
    · rw [va_snoc_ne (fun x => e (hU.inj _ hq _ hr x)), lookP r hr hr0, seen_snoc_ne e]
  · intro r hr hm
    rw [isMod_snoc_fn hfn h0] at hm
    exact lookB0 r hr hm
  · intro r hm
    rw [isMod_snoc_fn hfn h0] at hm
    by_cases hrp : r = p
    · subst hrp
      refine ⟨tb, hvb, ⟨td, ty, va, us, k1, k2, k3, n', oT, o1, oU, kvT, _, hcls _ m1 (by intro e; cases e), keepR _ m2 _ r1 (by simp) (by simp) (by simp) (by simp), keepR _ m3 _ r2 (by simp) (by simp) (by simp) (by simp), g1, keepR _ m5 _ r4 (by simp) (by simp) (by simp) (by simp), s1, s2, s3, d1, e1, d3, r1, r2, r3, r4, by simp; omega, by simp; omega, fun m ty2 => ?_⟩⟩
      cases ty2 with
      | false =>
        simp only [Bool.false_eq_true, if_false]
        by_cases em : Str.ofString "f" = m
        · subst em
          exact ⟨tk1, by rw [va_snoc_self hno]; simp [nextP, seen_snoc_self h0]⟩
        · obtain ⟨tk, h⟩ := look m false
          exact ⟨tk, by rw [va_snoc_ne em, nextP_snoc_ne (.inr fun x => em x.symm)]; simpa using h⟩
      | true =>
        simp only [if_true]
        by_cases em : Str.ofString "f" = m
        · subst em
          obtain ⟨tk, h⟩ := look (Str.ofString "f") true
          refine ⟨tk, ?_⟩
          simp only [if_true] at h
          rw [h]
          simp [nextP]
        · obtain ⟨tk, h⟩ := look m true
          exact ⟨tk, by rw [nextP_snoc_ne (.inr fun x => em x.symm)]; simpa using h⟩
    · obtain ⟨tbr, hv, T⟩ := lookB r hm
      exact ⟨tbr, hv, T.keep hrp hcls (fun q hq k hk h5 => keepR q hq _ hk (by simp [hrp]) (by simp; omega) (by simp; omega) (by simp; omega)) fun _ _ => rfl⟩
  · intro q hq
    obtain ⟨a1, a2⟩ := hbase q hq
    exact ⟨keepR q a1 _ a2 (by simp) (by simp) (by simp) (by simp), a2⟩

/-- at the end: the state is what find asks for -/
theorem MState.done {w : World} {U : List Path} {news0 l : List (Addr × Obj)} {role : Addr → Option Role} {mo dx : Addr} {E S : Seen} {h₀ h : Heap} {L : Addr} (N : News h₀ L h l) (hU : Uni U) (M : MState w U news0 l role mo dx E) (hEU : ∀ x ∈ E, x.1 ∈ U)
    (hS : ∀ r, seenAt E r = seenAt S r) (hne : ∀ x ∈ E, x.1 ≠ []) : ModsU w l mo dx S ∧ ∀ q ∈ news0, q ∈ l ∧ q.1 ≠ dx := by
  obtain ⟨ka, pa, ta, ga, ia, ke, j1, j2, j3, j4, j5, j6, oK, oP, oB, oI, kvK, kvP, kvB, kvI, hmo, hdx, rdx, hK, hP, hB, hI, rK, rP, rB, rI, sK, sP, sB, dK, dP, dB, dI, lookK, lookP, lookB0, lookB, zK, zP, zB, zI, hbase⟩ := M
  have hm : ∀ r, isMod E r ↔ isMod S r := fun r => by unfold isMod; rw [hS]
  have hn : ∀ p n ty, nextP E p n ty = nextP S p n ty := fun p n ty => by unfold nextP; rw [hS]
  have hseenU : ∀ r b, seenAt S r = some b → r ∈ U ∧ r ≠ [] := fun r b e => by
    rw [← hS] at e
    unfold seenAt at e
    obtain ⟨x, hx, _⟩ := Option.map_eq_some_iff.mp e
    have h3 : x.1 = r := by simpa using List.find?_some hx
    exact ⟨h3 ▸ hEU x (List.mem_of_find?_eq_some hx), h3 ▸ hne x (List.mem_of_find?_eq_some hx)⟩
  have hin : ∀ q ∈ l, q.1 ≠ dx → q ∈ l.filter (fun q => decide (q.1 ≠ dx)) := fun q hq hd => List.mem_filter.mpr ⟨hq, by simpa using hd⟩
  refine ⟨⟨l.filter (fun q => decide (q.1 ≠ dx)), j1, j2, j3, j4, j5, j6, ka, pa, ta, ga, ia, ke, fun q hq => (List.mem_filter.mp hq).1, hdx, ⟨fun q hq => by simpa using (List.mem_filter.mp hq).2, hin _ hmo (off_clsR N hmo hdx rfl rfl), kvK, kvB, kvP,
    ⟨oK, hin _ hK (ne_role rK rdx (by simp)), sK, dK⟩, ⟨oB, hin _ hB (ne_role rB rdx (by simp)), sB, dB⟩, ⟨oP, hin _ hP (ne_role rP rdx (by simp)), sP, dP⟩, ?_, ?_, ?_⟩⟩, fun q hq => ⟨(hbase q hq).1, fun e => by have := (hbase q hq).2; rw [e, rdx] at this; cases this⟩⟩
  · intro p hp
    have hpE := (hm p).mpr hp
    have hpU := mod_mem hU hEU hpE
    obtain ⟨tk, hk⟩ := lookK p hpU
    obtain ⟨tb, hv, ⟨td, ty, va, us, k1, k2, k3, n', oT, oV, oU, kvT, kvV, m1, m2, m3, m4, m5, s1, s2, s3, d1, d2, d3, r1, r2, r3, r4, z1, z2, look⟩⟩ := lookB p hpE
    refine ⟨⟨tk, ?_⟩, hU.len _ hpU, tb, kvT, kvV, hv, ⟨td, ty, va, us, k1, k2, k3, n', hin _ m1 (off_clsR N m1 hdx rfl rfl), hin _ m2 (ne_role r1 rdx (by simp)), ⟨oT, hin _ m3 (ne_role r2 rdx (by simp)), s1, d1⟩, ⟨oV, hin _ m4 (ne_role r3 rdx (by simp)), s2, d2⟩, ⟨oU, hin _ m5 (ne_role r4 rdx (by simp)), s3, d3⟩⟩, fun n ty' => ?_⟩
    · rw [hk, kindE]
      rcases hpE with rfl | ⟨h1, h2⟩
      · rfl
      · by_cases e : p = []
        · rw [if_pos e]
        · rw [if_neg e]
          obtain ⟨b, hb⟩ := Option.isSome_iff_exists.mp h1
          rw [hb, h2]; rfl
    · obtain ⟨tk, h⟩ := look n ty'
      exact ⟨tk, by rw [h, hn]⟩
  · intro p b hp
    obtain ⟨h1, h2⟩ := hseenU p b hp
    exact ⟨hU.len _ h1, by rw [lookP p h1 h2, hS, hp]; rfl⟩
  · intro p hf hp
    obtain ⟨b, hb⟩ := Option.isSome_iff_exists.mp hp
    obtain ⟨h1, h2⟩ := hseenU p b hb
    obtain ⟨tk, hk⟩ := lookK p h1
    exact ⟨tk, by rw [hk, kindE, if_neg h2, hS, hb, hf]; rfl⟩
end

/- F20 -/
section
theorem MState.sub {w : World} {U : List Path} {news0 l l' : List (Addr × Obj)} {role : Addr → Option Role} {mo dx : Addr} {E : Seen} (M : MState w U news0 l role mo dx E)
    (hd : ∀ q ∈ l, q.2.cls = .type "dict" ∨ (∃ a, q.2.cls = .ref a) → q ∈ l') (hb : ∀ q ∈ news0, q ∈ l') : MState w U news0 l' role mo dx E := by
  obtain ⟨ka, pa, ta, ga, ia, ke, j1, j2, j3, j4, j5, j6, oK, oP, oB, oI, kvK, kvP, kvB, kvI, hmo, hdx, rdx, hK, hP, hB, hI, rK, rP, rB, rI, sK, sP, sB, dK, dP, dB, dI, lookK, lookP, lookB0, lookB, zK, zP, zB, zI, hbase⟩ := M
  refine ⟨ka, pa, ta, ga, ia, ke, j1, j2, j3, j4, j5, j6, oK, oP, oB, oI, kvK, kvP, kvB, kvI, hd _ hmo (.inr ⟨_, rfl⟩), hd _ hdx (.inl rfl), rdx, hd _ hK (.inl (dict_cls dK)), hd _ hP (.inl (dict_cls dP)), hd _ hB (.inl (dict_cls dB)), hd _ hI (.inl (dict_cls dI)), rK, rP, rB, rI, sK, sP, sB, dK, dP, dB, dI, lookK, lookP, lookB0, ?_, zK, zP, zB, zI, fun q hq => ⟨hb q hq, (hbase q hq).2⟩⟩
  intro p hp
  obtain ⟨tb, hv, ⟨td, ty, va, us, k1, k2, k3, n', oT, oV, oU, kvT, kvV, m1, m2, m3, m4, m5, s1, s2, s3, d1, d2, d3, r1, r2, r3, r4, y1, y2, look⟩⟩ := lookB p hp
  exact ⟨tb, hv, ⟨td, ty, va, us, k1, k2, k3, n', oT, oV, oU, kvT, kvV, hd _ m1 (.inr ⟨_, rfl⟩), hd _ m2 (.inl rfl), hd _ m3 (.inl (dict_cls d1)), hd _ m4 (.inl (dict_cls d2)), hd _ m5 (.inl (dict_cls d3)), s1, s2, s3, d1, d2, d3, r1, r2, r3, r4, y1, y2, look⟩⟩

theorem nodup_len {α : Type} [DecidableEq α] : ∀ {l m : List α}, l.Nodup → (∀ x ∈ l, x ∈ m) → l.length ≤ m.length
  | [], _, _, _ => Nat.zero_le _
  | x :: l, m, hn, hs => by
    rw [List.nodup_cons] at hn
    have h1 := nodup_len (l := l) (m := m.erase x) hn.2 (fun y hy => (List.mem_erase_of_ne (fun e : y = x => hn.1 (by rw [← e]; exact hy))).mpr (hs y (.tail _ hy)))
    have h2 := hs x (.head _)
    rw [List.length_erase_of_mem h2] at h1
    have := List.length_pos_of_mem h2
    simp only [List.length_cons]
    omega

/-- what is asked of the paths that are seen -/
structure SeenOk (U : List Path) (S : Seen) : Prop where
  len : S.length ≤ 40
  ne : ∀ x ∈ S, x.1 ≠ [] ∧ x.1.length ≤ 20
  nodup : (S.map (·.1)).Nodup
  uni : ∀ x ∈ S, x.1 ∈ U
  up : ∀ x ∈ S, isFn x.1.dropLast = false ∧ (x.1.dropLast = [] ∨ (seenAt S x.1.dropLast).isSome = true)
  names : ∀ x ∈ S, ∀ n, x.1.getLast? = some n → plainL.any (· == n) = false ∧ n.length ≤ 100

theorem seenAt_isSome {E : Seen} {p : Path} : (seenAt E p).isSome = true ↔ p ∈ E.map (·.1) := by
  unfold seenAt
  rw [Option.isSome_map, List.find?_isSome]
  simp only [decide_eq_true_eq, List.mem_map]
theorem seenAt_none {E : Seen} {p : Path} : seenAt E p = none ↔ p ∉ E.map (·.1) := by
  rw [← seenAt_isSome]
  cases seenAt E p <;> simp

/-- what has been entered (E), what is pending (ps), what is left of the list in hand (r), whose owner is p -/
structure Going (S E : Seen) (ps : List Path) (p : Path) (r : Seen) : Prop where
  a : ps.Nodup
  b : ∀ q ∈ ps, isMod E q
  c : ∀ q ∈ ps, ∀ x ∈ kids S q, seenAt E x.1 = none
  d : ∀ x ∈ E, x ∈ S
  e : (E.map (·.1)).Nodup
  g : ∀ x ∈ E, x.1.dropLast = [] ∨ (seenAt E x.1.dropLast).isSome = true
  h : r ≠ [] → p ∉ ps ∧ isMod E p
  k : ∀ x ∈ r, x ∈ kids S p ∧ seenAt E x.1 = none
  n : (r.map (·.1)).Nodup
  f : ∀ x ∈ S, seenAt E x.1 = none → x.1.dropLast ∈ ps ∨ (seenAt E x.1.dropLast = none ∧ x.1.dropLast ≠ []) ∨ x ∈ r

theorem Going.start {S : Seen} : Going S [] [[]] [] [] where
  a := by simp
  b := fun q hq => .inl (List.mem_singleton.mp hq)
  c := fun _ _ _ _ => rfl
  d := fun _ hx => by cases hx
  e := List.nodup_nil
  g := fun _ hx => by cases hx
  h := fun h => absurd rfl h
  k := fun _ hx => by cases hx
  n := List.nodup_nil
  f := fun x _ _ => by
    by_cases e : x.1.dropLast = []
    · exact .inl (by rw [e]; simp)
    · exact .inr (.inl ⟨rfl, e⟩)
theorem ordered_mem {t : Bool} {l : Seen} {x : Path × Bool} : x ∈ ordered t l ↔ x ∈ l := by cases t <;> simp [ordered]
theorem ordered_nodup {t : Bool} {l : Seen} (h : (l.map (·.1)).Nodup) : ((ordered t l).map (·.1)).Nodup := by
  cases t
  · exact h
  · simp only [ordered, if_true, List.map_reverse]; exact (List.reverse_perm _).nodup_iff.mpr h
theorem kids_nodup {S : Seen} {p : Path} (h : (S.map (·.1)).Nodup) : ((kids S p).map (·.1)).Nodup := h.sublist (List.Sublist.map _ List.filter_sublist)
/-- the last pending is taken -/
theorem Going.pop {S E : Seen} {ps : List Path} {p p0 : Path} {t : Bool} (hn : (S.map (·.1)).Nodup) (G : Going S E (ps ++ [p]) p0 []) : Going S E ps p (ordered t (kids S p)) where
  a := (List.nodup_append.mp G.a).1
  b := fun q hq => G.b q (List.mem_append_left _ hq)
  c := fun q hq => G.c q (List.mem_append_left _ hq)
  d := G.d
  e := G.e
  g := G.g
  h := fun _ => ⟨fun hp => (List.nodup_append.mp G.a).2.2 p hp p (by simp) rfl, G.b p (by simp)⟩
  k := fun x hx => ⟨ordered_mem.mp hx, G.c p (by simp) x (ordered_mem.mp hx)⟩
  n := ordered_nodup (kids_nodup hn)
  f := fun x hx h0 => by
    rcases G.f x hx h0 with h | h | h
    · rcases List.mem_append.mp h with h | h
      · exact .inl h
      · exact .inr (.inr (ordered_mem.mpr (List.mem_filter.mpr ⟨hx, by simpa using h⟩)))
    · exact .inr (.inl h)
    · cases h
theorem Going.kidless {S E : Seen} {ps : List Path} {p q : Path} {r : Seen} (G : Going S E ps p r) (hq : seenAt E q = none) (h0 : q ≠ []) (m : Str) : seenAt E (q ++ [m]) = none := by
  rw [seenAt_none]
  intro hm
  obtain ⟨x, hx, e⟩ := List.mem_map.mp hm
  have := G.g x hx
  rw [show x.1 = q ++ [m] from e, List.dropLast_concat, hq] at this
  rcases this with h | h
  · exact h0 h
  · cases h
theorem kid_snoc {S : Seen} {p : Path} {x : Path × Bool} (hx : x ∈ kids S p) (hne : x.1 ≠ []) : ∃ n, x.1 = p ++ [n] ∧ x.1.getLast? = some n := by
  have h := (List.mem_filter.mp hx).2
  have e : x.1.dropLast = p := by simpa using h
  refine ⟨x.1.getLast hne, ?_, List.getLast?_eq_some_getLast hne⟩
  rw [← e, List.dropLast_concat_getLast hne]
/-- one item of the list in hand is entered -/
theorem Going.step {U : List Path} {S E : Seen} {ps : List Path} {p : Path} {x : Path × Bool} {r : Seen} (hS : SeenOk U S) (G : Going S E ps p (x :: r)) : Going S (E ++ [x]) (if isFn x.1 then ps else ps ++ [x.1]) p r := by
  obtain ⟨q, b⟩ := x
  obtain ⟨hk, h0⟩ := G.k _ (.head _)
  obtain ⟨hpp, hpm⟩ := G.h (by simp)
  have hqS := (List.mem_filter.mp hk).1
  have hq0 := (hS.ne _ hqS).1
  obtain ⟨n, hqn, _⟩ := kid_snoc hk hq0
  dsimp only at hk h0 hqS hq0 hqn ⊢
  subst hqn
  have hnq : ¬ isMod E (p ++ [n]) := by
    rintro (h | ⟨h, _⟩)
    · exact hq0 h
    · rw [h0] at h; cases h
  have hup : ∀ {y}, isMod E y → isMod (E ++ [(p ++ [n], b)]) y := fun {y} hy => by
    rcases hy with h | ⟨h1, h2⟩
    · exact .inl h
    · refine .inr ⟨?_, h2⟩
      rw [seen_snoc_ne (fun e : p ++ [n] = y => hnq (by rw [e]; exact .inr ⟨h1, h2⟩))]
      exact h1
  have hsome : ∀ {y}, (seenAt E y).isSome = true → (seenAt (E ++ [(p ++ [n], b)]) y).isSome = true := fun {y} hy => by
    rw [seenAt_isSome] at hy ⊢
    rw [List.map_append]
    exact List.mem_append_left _ hy
  have hpar : p = [] ∨ (seenAt E p).isSome = true := by
    rcases hpm with h | ⟨h, _⟩
    · exact .inl h
    · exact .inr h
  have hmemps : ∀ {y}, y ∈ ps → y ∈ (if isFn (p ++ [n]) = true then ps else ps ++ [p ++ [n]]) := fun {y} hy => by
    split
    · exact hy
    · exact List.mem_append_left _ hy
  have hcase : ∀ {y}, y ∈ (if isFn (p ++ [n]) = true then ps else ps ++ [p ++ [n]]) → y ∈ ps ∨ (y = p ++ [n] ∧ isFn (p ++ [n]) = false) := fun {y} hy => by
    cases hf : isFn (p ++ [n]) with
    | true => rw [hf] at hy; exact .inl hy
    | false =>
      rw [hf] at hy
      simp only [Bool.false_eq_true, if_false] at hy
      rcases List.mem_append.mp hy with h | h
      · exact .inl h
      · exact .inr ⟨List.mem_singleton.mp h, rfl⟩
  have hne2 : ∀ {y : Path × Bool} {q' : Path}, y ∈ kids S q' → q' ≠ p → p ++ [n] ≠ y.1 := fun {y q'} hy hq' e => by
    have h := (List.mem_filter.mp hy).2
    have e2 : y.1.dropLast = q' := by simpa using h
    rw [← e, List.dropLast_concat] at e2
    exact hq' e2.symm
  have hrn := G.n
  simp only [List.map_cons, List.nodup_cons] at hrn
  refine ⟨?_, ?_, ?_, ?_, ?_, ?_, ?_, ?_, hrn.2, ?_⟩
  · split
    · exact G.a
    · refine List.nodup_append.mpr ⟨G.a, by simp, fun y hy z hz e => ?_⟩
      rw [List.mem_singleton.mp hz] at e
      exact hnq (e ▸ G.b y hy)
  · intro y hy
    rcases hcase hy with hy | ⟨rfl, hf⟩
    · exact hup (G.b y hy)
    · exact .inr ⟨by rw [seen_snoc_self h0]; rfl, hf⟩
  · intro y hy z hz
    rcases hcase hy with hy | ⟨rfl, hf⟩
    · rw [seen_snoc_ne (hne2 hz (fun e => hpp (e ▸ hy)))]
      exact G.c y hy z hz
    · have h1 := (hS.ne z (List.mem_filter.mp hz).1).1
      obtain ⟨m, hm, _⟩ := kid_snoc hz h1
      rw [hm, seen_snoc_ne (by intro e; have := congrArg List.length e; simp at this)]
      exact G.kidless h0 hq0 m
  · intro y hy
    rcases List.mem_append.mp hy with hy | hy
    · exact G.d y hy
    · rw [List.mem_singleton.mp hy]; exact hqS
  · rw [List.map_append]
    refine List.nodup_append.mpr ⟨G.e, by simp, fun y hy z hz e => ?_⟩
    have hz' : z = p ++ [n] := by simpa using hz
    exact seenAt_none.mp h0 (hz' ▸ e ▸ hy)
  · intro y hy
    rcases List.mem_append.mp hy with hy | hy
    · exact (G.g y hy).imp id hsome
    · rw [List.mem_singleton.mp hy]
      dsimp only
      rw [List.dropLast_concat]
      exact hpar.imp id hsome
  · intro _
    refine ⟨fun hp => ?_, hup hpm⟩
    rcases hcase hp with hp | ⟨e, _⟩
    · exact hpp hp
    · have := congrArg List.length e; simp at this
  · intro y hy
    obtain ⟨h1, h2⟩ := G.k y (.tail _ hy)
    refine ⟨h1, ?_⟩
    rw [seen_snoc_ne (fun e => hrn.1 (List.mem_map.mpr ⟨y, hy, e.symm⟩))]
    exact h2
  · intro y hy hy0
    have hyq : p ++ [n] ≠ y.1 := fun e => by rw [← e, seen_snoc_self h0] at hy0; cases hy0
    rw [seen_snoc_ne hyq] at hy0
    rcases G.f y hy hy0 with h | ⟨h1, h2⟩ | h
    · exact .inl (hmemps h)
    · by_cases e : p ++ [n] = y.1.dropLast
      · left
        have hf : isFn (p ++ [n]) = false := by rw [e]; exact (hS.up y hy).1
        rw [hf, ← e]
        simp
      · exact .inr (.inl ⟨by rw [seen_snoc_ne e]; exact h1, h2⟩)
    · rcases List.mem_cons.mp h with rfl | h
      · exact absurd rfl hyq
      · exact .inr (.inr h)
theorem Going.all {U : List Path} {S E : Seen} {p : Path} (hS : SeenOk U S) (G : Going S E [] p []) : ∀ r, seenAt E r = seenAt S r := by
  have key : ∀ n, ∀ x ∈ S, x.1.length ≤ n → (seenAt E x.1).isSome = true := by
    intro n
    induction n with
    | zero => intro x hx hl; exact absurd (List.eq_nil_of_length_eq_zero (Nat.le_zero.mp hl)) (hS.ne x hx).1
    | succ n ih =>
      intro x hx hl
      cases h : seenAt E x.1 with
      | some _ => rfl
      | none =>
        rcases G.f x hx h with h1 | ⟨h1, h2⟩ | h1
        · cases h1
        · rcases (hS.up x hx).2 with e | e
          · exact absurd e h2
          · rw [seenAt_isSome] at e
            obtain ⟨y, hy, ey⟩ := List.mem_map.mp e
            have h3 := List.length_pos_iff.mpr (hS.ne x hx).1
            have := ih y hy (by rw [show y.1 = x.1.dropLast from ey, List.length_dropLast]; omega)
            rw [show y.1 = x.1.dropLast from ey, h1] at this
            cases this
        · cases h1
  intro r
  cases h : seenAt E r with
  | some b =>
    have h2 : (r, b) ∈ E := by
      unfold seenAt at h
      obtain ⟨x, hx, e⟩ := Option.map_eq_some_iff.mp h
      have h3 : x.1 = r := by simpa using List.find?_some hx
      have h4 := List.mem_of_find?_eq_some hx
      rw [← h3, ← e]; exact h4
    have h3 := G.d _ h2
    obtain ⟨s, t, e⟩ := List.append_of_mem h3
    rw [e, seenAt_mid (by rw [← e]; exact hS.nodup)]
  | none =>
    cases h2 : seenAt S r with
    | none => rfl
    | some b =>
      have h3 : r ∈ S.map (·.1) := seenAt_isSome.mp (by rw [h2]; rfl)
      obtain ⟨x, hx, rfl⟩ := List.mem_map.mp h3
      have := key _ x hx (Nat.le_refl _)
      rw [h] at this
      cases this
theorem Going.len {S E : Seen} {ps : List Path} {p : Path} {r : Seen} (G : Going S E ps p r) : E.length ≤ S.length := by
  have := nodup_len (l := E.map (·.1)) (m := S.map (·.1)) G.e (fun y hy => by
    obtain ⟨x, hx, e⟩ := List.mem_map.mp hy
    exact List.mem_map.mpr ⟨x, G.d x hx, e⟩)
  simpa using this
end

/- F21 -/
section
theorem va_one {k k' : Str} {v : Value} (h : k ≠ k') : valueAt [(k, v)] k' = none := by simp [valueAt, h]
theorem va_one_self {k : Str} {v : Value} : valueAt [(k, v)] k = some v := by simp [valueAt]
theorem isMod_nil {p : Path} : isMod [] p ↔ p = [] := by
  unfold isMod
  constructor
  · rintro (h | ⟨h, _⟩)
    · exact h
    · cases h
  · exact .inl
noncomputable def pick : List (Addr × Role) → Addr → Option Role
  | [], _ => none
  | (b, r) :: l, a => if b = a then some r else pick l a
noncomputable def Inc : Addr → List (Addr × Role) → Prop
  | _, [] => True
  | a, (b, _) :: l => a < b ∧ Inc b l
theorem inc_lt : ∀ {l : List (Addr × Role)} {a b : Addr} {r : Role}, Inc a l → (b, r) ∈ l → a < b
  | (b0, r0) :: l, a, b, r, h, hm => by
    rcases List.mem_cons.mp hm with e | hm
    · cases e; exact h.1
    · exact Nat.lt_trans h.1 (inc_lt h.2 hm)
theorem pick_low : ∀ {l : List (Addr × Role)} {a c : Addr}, Inc a l → c ≤ a → pick l c = none
  | [], _, _, _, _ => rfl
  | (b0, r0) :: l, a, c, h, hc => by
    have h1 : c < b0 := Nat.lt_of_le_of_lt hc h.1
    unfold pick
    rw [if_neg (Nat.ne_of_gt h1)]
    exact pick_low h.2 (Nat.le_of_lt h1)
theorem pick_at : ∀ {l : List (Addr × Role)} {a b : Addr} {r : Role}, Inc a l → (b, r) ∈ l → pick l b = some r
  | (b0, r0) :: l, a, b, r, h, hm => by
    unfold pick
    rcases List.mem_cons.mp hm with e | hm
    · cases e; rw [if_pos rfl]
    · rw [if_neg (Nat.ne_of_lt (inc_lt h.2 hm))]
      exact pick_at h.2 hm
theorem pick_head {a : Addr} {r : Role} {l : List (Addr × Role)} : pick ((a, r) :: l) a = some r := by unfold pick; rw [if_pos rfl]
theorem pick_tail {l : List (Addr × Role)} {a b : Addr} {r r0 : Role} (h : Inc a l) (hm : (b, r) ∈ l) : pick ((a, r0) :: l) b = some r := by
  unfold pick
  rw [if_neg (Nat.ne_of_lt (inc_lt h hm))]
  exact pick_at h hm
theorem pick_below {l : List (Addr × Role)} {a c : Addr} {r0 : Role} (h : Inc a l) (hc : c < a) : pick ((a, r0) :: l) c = none := by
  unfold pick
  rw [if_neg (Nat.ne_of_gt hc)]
  exact pick_low h (Nat.le_of_lt hc)
theorem MState.start {w : World} {U : List Path} {news0 l : List (Addr × Obj)} {mo dx ka pa ta ga ia ke tb td ty va us : Addr} {j1 j2 j3 j4 j5 j6 i1 i2 i3 tK : Tok} {oK oP oB oI oT oV oU : Obj} (hU : Uni U)
    (hmo : (mo, instObj 275 dx) ∈ l) (hdx : (dx, dictOf (modsDict w j1 j2 j3 j4 j5 j6 ka pa ta ga ia ke) 6) ∈ l) (hK : (ka, oK) ∈ l) (hP : (pa, oP) ∈ l) (hB : (ta, oB) ∈ l) (hI : (ia, oI) ∈ l)
    (htb : (tb, instObj 142 td) ∈ l) (htd : (td, dictOf (tabDict w i1 i2 i3 ty va us) 3) ∈ l) (hT : (ty, oT) ∈ l) (hV : (va, oV) ∈ l) (hU' : (us, oU) ∈ l)
    (dK : oK.IsDictOf (kS w) [(Str.ofString "", .str (Str.ofString "mod") tK)]) (dP : oP.IsDictOf (kS w) [(Str.ofString "", .bool true)]) (dB : oB.IsDictOf (kS w) [(Str.ofString "", .ref tb)]) (dI : oI.IsDictOf (kS w) [])
    (dT : oT.IsDictOf (kS w) []) (dV : oV.IsDictOf (kS w) []) (dU : oU.IsDictOf (kS w) [])
    (sK : (ka == sysModules) = false) (sP : (pa == sysModules) = false) (sB : (ta == sysModules) = false) (sT : (ty == sysModules) = false) (sV : (va == sysModules) = false) (sU : (us == sysModules) = false)
    (o1 : dx < ka) (o2 : ka < pa) (o3 : pa < ta) (o4 : ta < td) (o5 : td < ty) (o6 : ty < va) (o7 : va < us) (o8 : us < ia) (hb : ∀ q ∈ news0, q ∈ l ∧ q.1 < dx) : ∃ role, MState w U news0 l role mo dx [] := by
  have hinc : Inc dx [(ka, (1, [])), (pa, (2, [])), (ta, (3, [])), (td, (5, [])), (ty, (6, [])), (va, (7, [])), (us, (8, [])), (ia, (4, []))] := ⟨o1, o2, o3, o4, o5, o6, o7, o8, trivial⟩
  generalize hl : ([(ka, (1, [])), (pa, (2, [])), (ta, (3, [])), (td, (5, [])), (ty, (6, [])), (va, (7, [])), (us, (8, [])), (ia, (4, []))] : List (Addr × Role)) = rl at hinc
  revert rl
  refine lock ?_
  intro rl hl hinc
  have at' : ∀ b r, (b, r) ∈ rl → pick ((dx, (0, [])) :: rl) b = some r := fun b r h => pick_tail hinc h
  have hne : ∀ q ∈ U, q ≠ [] → Str.ofString "" ≠ pth q := fun q hq h e => h (hU.inj _ hq _ hU.nil e.symm)
  refine ⟨pick ((dx, (0, [])) :: rl), ⟨ka, pa, ta, ga, ia, ke, j1, j2, j3, j4, j5, j6, oK, oP, oB, oI, _, _, _, _, hmo, hdx, pick_head, hK, hP, hB, hI,
    at' _ _ (by rw [← hl]; simp), at' _ _ (by rw [← hl]; simp), at' _ _ (by rw [← hl]; simp),
    at' _ _ (by rw [← hl]; simp), sK, sP, sB, dK, dP, dB, dI, ?_, ?_, ?_, ?_, by simp, by simp, by simp, by simp, ?_⟩⟩
  · intro q hq
    by_cases e : q = []
    · subst e
      exact ⟨tK, va_one_self⟩
    · exact ⟨0, by rw [va_one (hne q hq e), kindE, if_neg e]; rfl⟩
  · intro q hq h
    rw [va_one (hne q hq h)]
    rfl
  · intro q hq h
    exact va_one (hne q hq fun e => h (isMod_nil.mpr e))
  · intro p hp
    obtain rfl := isMod_nil.mp hp
    refine ⟨tb, va_one_self, ⟨td, ty, va, us, i1, i2, i3, 3, oT, oV, oU, [], [], htb, htd, hT, hV, hU', sT, sV, sU, dT, dV, dU,
      at' _ _ (by rw [← hl]; simp),
      at' _ _ (by rw [← hl]; simp),
      at' _ _ (by rw [← hl]; simp),
      at' _ _ (by rw [← hl]; simp), Nat.le_refl _, Nat.le_refl _, fun n ty2 => ⟨0, ?_⟩⟩⟩
    have h3 : nextP [] [] n ty2 = none := by unfold nextP; split <;> rfl
    rw [h3]
    cases ty2 <;> rfl
  · intro q hq
    obtain ⟨h1, h2⟩ := hb q hq
    refine ⟨h1, ?_⟩
    exact pick_below hinc h2

inductive PendAt (S : Seen) (t : Bool) (l : List (Addr × Obj)) (v : Value) (p : Path) : Prop
  | mk : ∀ ta tk c ws k n, (v = .ref ta) → ((ta, tupObj [.str (pth p) tk, .ref c]) ∈ l) → ((c, listOf ws.toArray k) ∈ l) → (ws.length ≤ 100) → (ItemsK S t n l p ws) → PendAt S t l v p
theorem PendAt.mono {S : Seen} {t : Bool} {l l' : List (Addr × Obj)} {v : Value} {p : Path} (P : PendAt S t l v p) (h : ∀ q ∈ l, q.2.cls ≠ .type "dict" → q ∈ l') : PendAt S t l' v p := by
  obtain ⟨ta, tk, c, ws, k, n, a, b, c', d, e⟩ := P
  exact ⟨ta, tk, c, ws, k, n, a, h _ b (by intro e; injection e with e; exact absurd e (by decide)), h _ c' (by intro e; injection e with e; exact absurd e (by decide)), d, itemsK_ok S t n _ _ _ _ (fun q hq hc => h q hq (by rw [hc]; intro e; injection e with e; exact absurd e (by decide))) e⟩
inductive InitJ (w : World) (U : List Path) (base : List (Addr × Obj)) (S : Seen) (t : Bool) (mo dx la : Addr) (m : Str → Option Value) (_nw : List (Addr × Obj)) (n : Nat) (m₁ : Str → Option Value) (n₁ : List (Addr × Obj)) : Prop
  | mk : ∀ (ps : List Path) (vs : List Value) (c : Nat) (rest : List (Addr × Obj)) (role : Addr → Option Role) (E : Seen) (u1 u2 u3 : Option Value), (n₁ = (la, listOf vs.toArray c) :: rest) → ((∀ q ∈ rest, q.1 ≠ la)) → (MState w U base rest role mo dx E) → (All2 (PendAt S t rest) vs ps) → (Going S E ps [] []) → (ps.length + S.length ≤ n + E.length) → (m₁ = fun y => if y = Str.ofString "module" then u1 else if y = Str.ofString "inner" then u2 else if y = Str.ofString "item" then u3 else m y) → InitJ w U base S t mo dx la m _nw n m₁ n₁
inductive ForJ (w : World) (U : List Path) (base : List (Addr × Obj)) (S : Seen) (t : Bool) (mo dx la I c : Addr) (oc : Obj) (p : Path) (N k : Nat) (m0 : Str → Option Value) (its : List Itm) (m : Str → Option Value) (n₁ : List (Addr × Obj)) : Prop
  | mk : ∀ (ws : List Value) (r : Seen) (ps : List Path) (vs : List Value) (cc : Nat) (rest : List (Addr × Obj)) (role : Addr → Option Role) (E : Seen) (u3 : Option Value), (its = ws.map Itm.val) → (All2 (fun v x => ItemAt rest (ItemsK S t k rest) x v) ws r) → (n₁ = (la, listOf vs.toArray cc) :: rest) → ((∀ q ∈ rest, q.1 ≠ la ∧ q.1 ≠ I)) → ((c, oc) ∈ rest) → (MState w U base rest role mo dx E) → (All2 (PendAt S t rest) vs ps) → (Going S E ps p r) → (ps.length + S.length ≤ N + E.length) → (m = fun y => if y = Str.ofString "item" then u3 else m0 y) → ForJ w U base S t mo dx la I c oc p N k m0 its m n₁
theorem All2.last {α β : Type} {R : α → β → Prop} : ∀ {l : List α} {m : List β}, All2 R l m → l ≠ [] → ∃ l' a m' b, l = l' ++ [a] ∧ m = m' ++ [b] ∧ All2 R l' m' ∧ R a b
  | _, _, .nil, h => absurd rfl h
  | _, _, .cons (a := a) (b := b) (l := l) (m := m) r A, _ => by
    cases A with
    | nil => exact ⟨[], a, [], b, rfl, rfl, .nil, r⟩
    | cons r2 A2 =>
      obtain ⟨l', a', m', b', e1, e2, A', r'⟩ := All2.last (.cons r2 A2) (by simp)
      exact ⟨a :: l', a', b :: m', b', by rw [e1]; rfl, by rw [e2]; rfl, .cons r A', r'⟩
end

/- F19 -/
section

theorem reg1 {h₀ h : Heap} {L : Addr} {l : List (Addr × Obj)} {a : Addr} {oa : Obj} (N : News h₀ L h l) (h1 : (a, oa) ∈ l) :
    ∃ l', News h₀ L h ((a, oa) :: l') ∧ (∀ q ∈ l, q.1 ≠ a → q ∈ l') ∧ (∀ q ∈ l', q.1 ≠ a ∧ q ∈ l) := by
  refine ⟨l.filter (fun q => decide (q.1 ≠ a)), news_sub N fun q hq => ?_, fun q hq x => List.mem_filter.mpr ⟨hq, by simpa using x⟩, fun q hq => ⟨by simpa using (List.mem_filter.mp hq).2, (List.mem_filter.mp hq).1⟩⟩
  rcases List.mem_cons.mp hq with rfl | hq
  · exact h1
  · exact (List.mem_filter.mp hq).1
theorem allLt_mem {d : Nat} : ∀ {l : List (Addr × Obj)}, AllLt d l → ∀ {p : Addr × Obj}, p ∈ l → p.1 < d
  | [], _, p, hp => by cases hp
  | q :: r, h, p, hp => by
    rcases List.mem_cons.mp hp with rfl | hp
    · exact h.1
    · exact allLt_mem h.2 hp
theorem over_3n {m : Str → Option Value} {a b c : Str} (h1 : m a = none) (h2 : m b = none) (h3 : m c = none) : m = fun y => if y = a then none else if y = b then none else if y = c then none else m y := by
  funext y
  by_cases e1 : y = a
  · rw [if_pos e1, e1, h1]
  by_cases e2 : y = b
  · rw [if_neg e1, if_pos e2, e2, h2]
  by_cases e3 : y = c
  · rw [if_neg e1, if_neg e2, if_pos e3, e3, h3]
  · rw [if_neg e1, if_neg e2, if_neg e3]
theorem pop_any {prog : Program} {w : World} {A : Around} {E : Value → Shared → Prop} {s : Shared} {h₀ : Heap} {L D : Addr} {m : Str → Option Value} {l : List (Addr × Obj)} {vs : List Value} {n : Nat} {v : Value} {Q : Value → Shared → Prop} (F : Fr h₀ L s.heap m) (N : News h₀ L s.heap l) (hm : (D, listOf (vs ++ [v]).toArray n) ∈ l) (hz : vs.length ≤ 1000)
    (h : ∀ h' l', Fr h₀ L h' m → News h₀ L h' ((D, listOf vs.toArray (n + 1)) :: l') → (∀ q ∈ l, q.1 ≠ D → q ∈ l') → (∀ q ∈ l', q.1 ≠ D ∧ q ∈ l) → Q v { s with heap := h' }) : wpAny (model prog w) A (call (.builtin "list.pop") [.ref D]) Q E s := by
  obtain ⟨l', N2, K, A'⟩ := reg1 N hm
  refine kl_pop (p := vs) (y := v) F N2 (by simpa using kpa_last v vs) (.head fun q hq => (A' q hq).1) (by rw [PySem.sizeLine_eq]; simp; omega) fun h' F' N' => h h' l' F' N' K A'
theorem mstate_of {w : World} {h₀ h : Heap} {L : Addr} {U : List Path} {news0 l l' : List (Addr × Obj)} {role : Addr → Option Role} {mo dx : Addr} {E : Seen} (_N : News h₀ L h l') (M : MState w U news0 l role mo dx E) (hl : ∀ q ∈ l, q ∈ l') : MState w U news0 l' role mo dx E := M.sub (fun q hq _ => hl q hq) fun q hq => hl q (M.base q hq).1
theorem Going.pslen {S E : Seen} {ps : List Path} {p : Path} {r : Seen} (G : Going S E ps p r) : ps.length ≤ E.length + 1 := by
  have := nodup_len (m := [] :: E.map (·.1)) G.a (fun q hq => by
    rcases G.b q hq with rfl | ⟨h, _⟩
    · exact .head _
    · exact .tail _ (seenAt_isSome.mp h))
  simpa using this
theorem over_one {m : Str → Option Value} {a : Str} {v : Option Value} (h : m a = v) : m = fun y => if y = a then v else m y := by
  funext y
  by_cases e : y = a
  · rw [if_pos e, e, h]
  · rw [if_neg e]
theorem over_m3 {m : Str → Option Value} {a b c : Str} {ua ub u1 u2 u3 u3' : Option Value} (hab : a ≠ b) (hac : a ≠ c) (hbc : b ≠ c) :
    (fun y => if y = c then u3 else if y = b then ub else if y = a then ua else if y = a then u1 else if y = b then u2 else if y = c then u3' else m y) = fun y => if y = a then ua else if y = b then ub else if y = c then u3 else m y := by
  funext y
  by_cases e1 : y = a
  · subst e1; simp [hab, hac]
  by_cases e2 : y = b
  · subst e2; simp [hbc, e1]
  by_cases e3 : y = c
  · subst e3; simp [e1, e2]
  · simp [e1, e2, e3]
theorem Going.at0 {S E : Seen} {ps : List Path} {p q : Path} (G : Going S E ps p []) : Going S E ps q [] where
  a := G.a
  b := G.b
  c := G.c
  d := G.d
  e := G.e
  g := G.g
  h := fun h => absurd rfl h
  k := fun _ hx => by cases hx
  n := List.nodup_nil
  f := G.f
theorem itemsK_len {U : List Path} {S : Seen} {t : Bool} {l : List (Addr × Obj)} {p : Path} {ws : List Value} (hS : SeenOk U S) : ∀ {n : Nat}, ItemsK S t n l p ws → ws.length ≤ 100
  | 0, h => h.elim
  | n + 1, h => by
    have h1 := All2.len h
    have h2 : (ordered t (kids S p)).length = (kids S p).length := by cases t <;> simp [ordered]
    have h3 : (kids S p).length ≤ S.length := List.length_filter_le ..
    have := hS.len
    omega
theorem for_end {w : World} {U : List Path} {news n' rest : List (Addr × Obj)} {S E' r : Seen} {t : Bool} {mo dx la I c : Addr} {oI oc : Obj} {p : Path} {N k cc tk : Nat} {m0 m' : Str → Option Value} {h₀ h' : Heap} {L : Addr} {s₁ : Shared} {role' : Addr → Option Role} {ws vs : List Value} {ps : List Path} {u3 : Option Value} {rr : List Itm}
    (F : Fr h₀ L h' m') (Nw : News h₀ L h' n') (hIla : I ≠ la) (hcI : oI.cls = .type "list_iterator") (hIm : (I, oI) ∈ n') (hlam : (la, listOf vs.toArray cc) ∈ n') (hrr : rr = ws.map Itm.val)
    (hoff : ∀ q ∈ rest, q.1 ≠ la ∧ q.1 ≠ I) (hbase : ∀ q ∈ news, q ∈ rest) (hK : ∀ q ∈ rest, q.2.cls ≠ .type "dict" → q ∈ n') (hcm : (c, oc) ∈ rest) (hoc : oc.cls = .type "list")
    (M' : MState w U news n' role' mo dx E') (hA : All2 (fun v x => ItemAt rest (ItemsK S t k rest) x v) ws r) (A2 : All2 (PendAt S t rest) vs ps) (hgo : Going S E' ps p r) (hn : ps.length + S.length ≤ N + E'.length) (hm : m' = fun y => if y = Str.ofString "item" then u3 else m0 y) :
    UnrEndW h₀ L s₁ [(I, oI)] (fun m' n'' => SubL [(c, oc)] n'' ∧ ForJ w U news S t mo dx la I c oc p N k m0 rr m' n'') { s₁ with heap := h', toks := tk } := by
  subst hrr
  refine items_turn_end (ws := vs) (n := cc) (rest := []) F Nw hIm hlam hIla (fun _ h => by cases h) (fun _ h => by cases h) (fun _ h => by cases h) fun rest' _ a2 a3 a4 => ?_
  have keep : ∀ q ∈ rest, q.2.cls ≠ .type "dict" → q ∈ rest' := fun q hq hc => a2 q (hK q hq hc) (hoff q hq).2 (hoff q hq).1
  have hlc : oc.cls ≠ .type "dict" := by rw [hoc]; intro e; injection e with e; exact absurd e (by decide)
  have tupc : ∀ q ∈ rest, q.2.cls = .type "tuple" → q ∈ rest' := fun q hq hc => keep q hq (by rw [hc]; intro e; injection e with e; exact absurd e (by decide))
  refine ⟨And.intro (.tail _ (keep _ hcm hlc)) trivial, ws, r, ps, vs, cc, rest', role', E', u3, rfl, hA.mono fun _ _ h => h.mono (itemsK_ok S t k) tupc, rfl, fun q hq => ⟨a3 q hq, a4 q hq⟩, keep _ hcm hlc, M'.sub (fun q hq hc => a2 q hq ?_ ?_) (fun q hq => a2 q (M'.base q hq).1 (hoff q (hbase q hq)).2 (hoff q (hbase q hq)).1), A2.mono fun _ _ h => h.mono keep, hgo, hn, hm⟩
  · rcases hc with hc | ⟨a, hc⟩
    · exact off_cls Nw hq hIm hc hcI (by decide)
    · exact off_clsR Nw hq hIm hc hcI
  · rcases hc with hc | ⟨a, hc⟩
    · exact off_cls Nw hq hlam hc rfl (by decide)
    · exact off_clsR Nw hq hlam hc rfl
theorem for_end_mod {w : World} {U : List Path} {news n' rest : List (Addr × Obj)} {S E' r : Seen} {t : Bool} {mo dx la I c T c' : Addr} {tkT : Tok} {kc' : Nat} {ws' : List Value} {q' : Path} {oI oc : Obj} {p : Path} {N k cc tk : Nat} {m0 m' : Str → Option Value} {h₀ h' : Heap} {L : Addr} {s₁ : Shared} {role' : Addr → Option Role} {ws vs : List Value} {ps : List Path} {u3 : Option Value} {rr : List Itm}
    (F : Fr h₀ L h' m') (Nw : News h₀ L h' n') (hIla : I ≠ la) (hcI : oI.cls = .type "list_iterator") (hIm : (I, oI) ∈ n') (hlam : (la, listOf (vs ++ [Value.ref T]).toArray cc) ∈ n') (hrr : rr = ws.map Itm.val)
    (hoff : ∀ q ∈ rest, q.1 ≠ la ∧ q.1 ≠ I) (hbase : ∀ q ∈ news, q ∈ rest) (hK : ∀ q ∈ rest, q.2.cls ≠ .type "dict" → q ∈ n') (hcm : (c, oc) ∈ rest) (hoc : oc.cls = .type "list")
    (hT : (T, tupObj [.str (pth q') tkT, .ref c']) ∈ n') (hc : (c', listOf ws'.toArray kc') ∈ n') (hTo : T ≠ la ∧ T ≠ I) (hco : c' ≠ la ∧ c' ≠ I) (hwz : ws'.length ≤ 100) (hsub : ItemsK S t k rest q' ws')
    (M' : MState w U news n' role' mo dx E') (hA : All2 (fun v x => ItemAt rest (ItemsK S t k rest) x v) ws r) (A2 : All2 (PendAt S t rest) vs ps) (hgo : Going S E' (ps ++ [q']) p r) (hn : (ps ++ [q']).length + S.length ≤ N + E'.length) (hm : m' = fun y => if y = Str.ofString "item" then u3 else m0 y) :
    UnrEndW h₀ L s₁ [(I, oI)] (fun m' n'' => SubL [(c, oc)] n'' ∧ ForJ w U news S t mo dx la I c oc p N k m0 rr m' n'') { s₁ with heap := h', toks := tk } := by
  have up : ∀ q ∈ rest, q ∈ (T, tupObj [.str (pth q') tkT, .ref c']) :: (c', listOf ws'.toArray kc') :: rest := fun q hq => .tail _ (.tail _ hq)
  refine for_end (rest := (T, tupObj [.str (pth q') tkT, .ref c']) :: (c', listOf ws'.toArray kc') :: rest) F Nw hIla hcI hIm hlam hrr (fun q hq => ?_) (fun q hq => up q (hbase q hq)) (fun q hq hcl => ?_) (up _ hcm) hoc M' (hA.mono fun _ _ h => h.mono (itemsK_ok S t k) fun q hq _ => up q hq)
    ((A2.mono fun _ _ h => h.mono fun q hq _ => up q hq).snoc ⟨T, tkT, c', ws', kc', k, rfl, .head _, .tail _ (.head _), hwz, itemsK_ok S t k _ _ _ _ (fun q hq _ => up q hq) hsub⟩) hgo hn hm
  · rcases List.mem_cons.mp hq with rfl | hq
    · exact hTo
    · rcases List.mem_cons.mp hq with rfl | hq
      · exact hco
      · exact hoff q hq
  · rcases List.mem_cons.mp hq with rfl | hq
    · exact hT
    · rcases List.mem_cons.mp hq with rfl | hq
      · exact hc
      · exact hK q hq hcl
theorem list_room {vs : List Value} (h : vs.length ≤ 100) : vs.toArray.toList.length ≤ sizeLine := by rw [PySem.sizeLine_eq]; simp; omega
local macro_rules | `(tactic| ktr_units) => `(tactic| first | ((have hcL9 := cLine_is); (simp only [units_under_make, units_in1, units_deeper, Around.mark_units, units_caller, cLine] at *); omega) | fail "ktr_units")
local macro_rules | `(tactic| walk_at "eval Dict") => `(tactic| (k_here; (k_dflt (refine' kdn_strN (by rfl) (by k_asm) (by k_asm) (by exact Top.nolimit (by k_asm)) (by rfl) (by rfl) (by exact List.cons_ne_nil _ _) (by exact Nat.le_of_ble_eq_true rfl) ?_)); intro d' h' t' o' F' N' l1 lo' hd'; (try dsimp only at N' ⊢); (try k_lt l1); (try k_sweep)))
local macro_rules | `(tactic| walk_at "KdnMade") => `(tactic| (k_here; k_dflt (refine' kdn_madeN (by k_asm) (by k_asm) (by exact UpdF.head (by first | exact all_ne (by assumption) | exact allLt_all (And.right (And.right (by assumption)))  )) (by k_asm) (by rfl) (by exact of_decide_eq_true (by first | rfl | kernel_rfl!)) ?_; intro h' o' t' F' N' hd'); (try dsimp only at N' hd' ⊢); (try k_sweep)))
theorem MState.elim2 {w : World} {U : List Path} {news0 l : List (Addr × Obj)} {role : Addr → Option Role} {mo dx : Addr} {E : Seen} {P : Prop} (M : MState w U news0 l role mo dx E)
    (h : ∀ ka pa ta ga ia ke j1 j2 j3 j4 j5 j6, (mo, instObj 275 dx) ∈ l → (dx, dictOf (modsDict w j1 j2 j3 j4 j5 j6 ka pa ta ga ia ke) 6) ∈ l → P) : P := by
  cases M
  exact h _ _ _ _ _ _ _ _ _ _ _ _ (by assumption) (by assumption)
theorem InitJ.elim {w : World} {U : List Path} {base : List (Addr × Obj)} {S : Seen} {t : Bool} {mo dx la : Addr} {m : Str → Option Value} {nw : List (Addr × Obj)} {n : Nat} {m₁ : Str → Option Value} {n₁ : List (Addr × Obj)} {P : (Str → Option Value) → List (Addr × Obj) → Prop} (J : InitJ w U base S t mo dx la m nw n m₁ n₁)
    (h : ∀ (ps : List Path) (vs : List Value) (c : Nat) (rest : List (Addr × Obj)) (role : Addr → Option Role) (E : Seen) (u1 u2 u3 : Option Value), (∀ q ∈ rest, q.1 ≠ la) → MState w U base rest role mo dx E → All2 (PendAt S t rest) vs ps → Going S E ps [] [] → ps.length + S.length ≤ n + E.length →
      P (fun y => if y = Str.ofString "module" then u1 else if y = Str.ofString "inner" then u2 else if y = Str.ofString "item" then u3 else m y) ((la, listOf vs.toArray c) :: rest)) : P m₁ n₁ := by
  obtain ⟨ps, wv, cw, rest, role, E9, u1, u2, u3, rfl, hla, M, A2, G, hn, rfl⟩ := J
  exact h ps wv cw rest role E9 u1 u2 u3 hla M A2 G hn
theorem table_use (w : World) (news : List (Addr × Obj)) (mean : ExcName → Option Value) (mg mb : Str → Option Value) (dp un : Nat) (gd : Option (List Code)) (cn : Str) (cs : Scope) (a : Addr) (ccd : Value) (cl : List (Str × Addr)) (outer : List Env) (A₀ : Around) (base h₀ : Heap) (L : Addr) (m : Str → Option Value) (s : Shared)
    (Q E : Value → Shared → Prop) (H : Here w mean mg mb A₀ base h₀ outer) (F : Fr h₀ L s.heap m) (N : News h₀ L s.heap news) (hk : cs.kind = .function) (hd : dp + 3 < recursionLimit) (hu : un + 80 < cLine)
    (hret : ∀ tb td ty va us k1 k2 k3 oT oV oU h' tk', Fr h₀ L h' m → News h₀ L h' ((us, oU) :: (va, oV) :: (ty, oT) :: (tb, instObj 142 td) :: (td, dictOf (tabDict w k1 k2 k3 ty va us) 3) :: news) →
      oT.IsDictOf (kS w) [] → oV.IsDictOf (kS w) [] → oU.IsDictOf (kS w) [] → (ty == sysModules) = false → (va == sysModules) = false → (us == sysModules) = false → (∀ p ∈ news, p.1 < td) → td < tb → tb < ty → ty < va → va < us → Q (.ref tb) { s with heap := h', toks := tk' }) :
    wpAny (model Challenge.rw_up0052_01.row.prog w) (ktrTop dp un gd cn cs L a ccd cl outer) (call (.ref 142) []) Q E s :=
  table_make w news mean mg mb dp un gd cn cs a ccd cl outer A₀ base h₀ L m s Q E H F N hk hd hu fun r h' tk' n' F' N' p => by
    obtain ⟨tb', td', ty', va', us', i1, i2, i3, oT', oV', oU', rfl, rfl, dT', dV', dU', sT', sV', sU', f1, f2, f3, f4, f5⟩ := p
    exact hret _ _ _ _ _ _ _ _ _ _ _ _ _ F' N' dT' dV' dU' sT' sV' sU' f1 f2 f3 f4 f5
theorem modules_make (w : World) (D : Addr) (vs : List Value) (kk : Nat) (news : List (Addr × Obj)) (mean : ExcName → Option Value) (mg mb : Str → Option Value) (dp un : Nat) (gd : Option (List Code)) (cn : Str) (cs : Scope) (a : Addr) (ccd : Value) (cl : List (Str × Addr)) (outer : List Env) (A₀ : Around) (base h₀ : Heap) (L : Addr) (m : Str → Option Value) (s : Shared)
    (Q E : Value → Shared → Prop) (hD : (D, listOf vs.toArray kk) ∈ news) (hvz : vs.length ≤ 100) (U : List Path) (hU : Uni U) (S : Seen) (hS : SeenOk U S) (t : Bool) (kn : Nat) (hitems : ItemsK S t kn news [] vs)
    (H : Here w mean mg mb A₀ base h₀ outer) (F : Fr h₀ L s.heap m) (N : News h₀ L s.heap news) (hk : cs.kind = .function) (hd : dp + 20 < recursionLimit) (hu : un + 400 < cLine)
    (hret : ∀ r h' tk' news', Fr h₀ L h' m → News h₀ L h' news' → (∃ mo dx : Addr, r = .ref mo ∧ ModsU w news' mo dx S ∧ ∀ q ∈ news, q ∈ news' ∧ q.1 ≠ dx) → Q r { s with heap := h', toks := tk' }) :
    wpAny (model Challenge.rw_up0052_01.row.prog w) (ktrTop dp un gd cn cs L a ccd cl outer) (call (.ref 275) [.ref D]) Q E s := by
  revert hret hu hd hk N F H
  refine fill w ?_
  k_fill
  intro _ _
  intro H F N hk hd hu hret
  obtain ⟨B, X, T, BO⟩ := H
  have hBO := BO
  k_dflt (refine' call_cls ?k1 ?k2 ?k3 ?k4 ?k5 ?k6 ?_; (case k1 => k_asm); (case k2 => k_asm); (case k3 => k_asm); (case k4 => k_is); (case k5 => k_is); (case k6 => k_is); k_whole; intro x' d' h' F' N' l1 l2; (try k_lt l1); (try k_lt2 l2); (try k_sweep))
  k_dflt cell_enter
  repeat' (first | ((fail_if_success (with_reducible show wpAny _ _ (call (Value.ref 142) _) _ _ _)); (first | (k_unfold; (try dsimp only)) | (k_end; wrow_close) | (first | ((with_reducible show wpAny _ _ (call (Value.type "list") _) _ _ _); (k_here; k_dflt (refine' kup_listOfT (by k_asm) (by k_asm) (by k_mem) (by exact List.toList_toArray) ?_ (by exact list_room (by assumption)); k_whole); intro z_D' z_c' z_h' z_F' z_N' z_l1; (try k_lt z_l1); (try k_sweep))) | ((with_reducible show wpAny _ _ (call (Value.type "list") _) _ _ _); (k_here; k_dflt (refine' kup_listOf (by k_asm) (by k_asm) (by k_mem) (by exact rfl) ?_ (by (exact list_room (by assumption)))); intro z_D' z_c' z_h' z_F' z_N' z_l1; (try k_lt z_l1); (try k_sweep))) | ((with_reducible show wpAny _ _ (compareOp CmpOp.NotEq (Value.ref _) (Value.ref _)) _ _ _); (k_here; k_dflt (refine' ne_nil_list (by k_asm) (by k_mem) (by exact rfl) (by exact rfl) (by k_mem) (by exact rfl) (by exact rfl) (by ktr_units) ?_; k_whole); (try simp only [‹List.isEmpty _ = false›, Bool.not_false, List.isEmpty_nil, Bool.not_true]))) | walk1) | (dsimp only; walk1) | (leave1; try dsimp only))))
  rename Fr _ _ _ _ => lF
  rename News _ _ _ _ => lN
  rename_i ka _ _ _ sK _ lK _ oK dK _ _ _ pa _ _ _ sP _ lP _ oP dP _ _ _ ta _ _ oB0 sB dB0 lB
  k_dflt (refine' table_use w _ _ _ _ _ _ _ _ _ _ _ _ _ _ _ _ _ _ _ _ _ ⟨?k1, ?k3, ?k5, ?k6⟩ lF lN ?k7 ?k8 ?k9 ?_; (case k1 => k_asm); (case k3 => k_asm); (case k5 => k_asm); (case k6 => k_asm); (case k7 => first | exact rfl | assumption); (case k8 => ktr_room); (case k9 => ktr_units); k_whole)
  intro tb' td' ty' va' us' i1 i2 i3 oT' oV' oU' h8 tk8 F8 N8 dT' dV' dU' sT' sV' sU' f1 f2 f3 f4 f5
  clear lF lN
  try dsimp only
  repeat' (first | ((fail_if_success (with_reducible show wpAny _ _ (exec (Stmt.While _ _ _ _) _) _ _ _)); (fail_if_success (with_reducible show wpAny _ _ (exec (Stmt.For _ _ _ _ _) _) _ _ _)); (first | ((with_reducible show wpAny _ _ (exec _ _) _ _ _); k_fold) | (k_unfold; (try dsimp only)) | (k_end; wrow_close) | (first | ((with_reducible show wpAny _ _ (call (Value.type "list") _) _ _ _); (k_here; k_dflt (refine' kup_listOfT (by k_asm) (by k_asm) (by k_mem) (by exact List.toList_toArray) ?_ (by exact list_room (by assumption)); k_whole); intro z_D' z_c' z_h' z_F' z_N' z_l1; (try k_lt z_l1); (try k_sweep))) | ((with_reducible show wpAny _ _ (call (Value.type "list") _) _ _ _); (k_here; k_dflt (refine' kup_listOf (by k_asm) (by k_asm) (by k_mem) (by exact rfl) ?_ (by (exact list_room (by assumption)))); intro z_D' z_c' z_h' z_F' z_N' z_l1; (try k_lt z_l1); (try k_sweep))) | ((with_reducible show wpAny _ _ (compareOp CmpOp.NotEq (Value.ref _) (Value.ref _)) _ _ _); (k_here; k_dflt (refine' ne_nil_list (by k_asm) (by k_mem) (by exact rfl) (by exact rfl) (by k_mem) (by exact rfl) (by exact rfl) (by ktr_units) ?_; k_whole); (try simp only [‹List.isEmpty _ = false›, Bool.not_false, List.isEmpty_nil, Bool.not_true]))) | walk1) | (dsimp only; walk1) | (leave1; (try dsimp only)))))
  have fd := f1 _ (.head _)
  dsimp only at fd
  refine kdn_madeN F8 N8 (UpdF.tail (Nat.ne_of_gt (Nat.lt_trans fd (Nat.lt_trans f2 (Nat.lt_trans f3 (Nat.lt_trans f4 f5))))) (.tail (Nat.ne_of_gt (Nat.lt_trans fd (Nat.lt_trans f2 (Nat.lt_trans f3 f4)))) (.tail (Nat.ne_of_gt (Nat.lt_trans fd (Nat.lt_trans f2 f3))) (.tail (Nat.ne_of_gt (Nat.lt_trans fd f2)) (.tail (Nat.ne_of_gt fd) (.head (allLt_all (by assumption)))))))) (by assumption) rfl (of_decide_eq_true (by first | rfl | kernel_rfl!)) ?_
  intro h7 o7 tk7 F7 N7 d7
  try dsimp only at N7 ⊢
  clear F8 N8
  obtain ⟨tK, dK⟩ : ∃ t, oK.IsDictOf (kS w) [(Str.ofString "", .str (Str.ofString "mod") t)] := ⟨_, dK⟩
  have dP : oP.IsDictOf (kS w) [(Str.ofString "", .bool true)] := dP
  have d7 : o7.IsDictOf (kS w) [(Str.ofString "", .ref tb')] := d7
  obtain ⟨tk1, tk2, hdx7⟩ : ∃ t1 t2, (d', dictOf [eAt w "kinds" t1 (.ref ka), eAt w "publics" t2 (.ref pa)] 2) ∈ _ := ⟨_, _, mem_of3 N7 (by repeat (first | exact List.Mem.head _ | apply List.Mem.tail))⟩
  have hnews := mem_of2 N7 (fun q (hq : q ∈ news) => by repeat (first | exact hq | apply List.Mem.tail))
  have hd1 : ∀ q ∈ news, q.1 ≠ d' := all_ne l1
  obtain ⟨rs, N6, K6, A6⟩ := reg1 N7 hdx7
  clear N7 hdx7
  have hall6 : ∀ q ∈ rs, q.1 ≠ d' := fun q hq => (A6 q hq).1
  have g1 : d' < ta := lB.2.2.2.1
  have g2 : d' < td' := Nat.lt_trans g1 fd
  have g3 : d' < tb' := Nat.lt_trans g2 f2
  have g4 : d' < ty' := Nat.lt_trans g3 f3
  have g5 : d' < va' := Nat.lt_trans g4 f4
  have g6 : d' < us' := Nat.lt_trans g5 f5
  have mus : (us', oU') ∈ rs := K6 _ (by repeat (first | exact List.Mem.head _ | apply List.Mem.tail)) (Nat.ne_of_gt g6)
  have mva : (va', oV') ∈ rs := K6 _ (by repeat (first | exact List.Mem.head _ | apply List.Mem.tail)) (Nat.ne_of_gt g5)
  have mty : (ty', oT') ∈ rs := K6 _ (by repeat (first | exact List.Mem.head _ | apply List.Mem.tail)) (Nat.ne_of_gt g4)
  have mtb : (tb', instObj 142 td') ∈ rs := K6 _ (by repeat (first | exact List.Mem.head _ | apply List.Mem.tail)) (Nat.ne_of_gt g3)
  have mtd : (td', dictOf (tabDict w i1 i2 i3 ty' va' us') 3) ∈ rs := K6 _ (by repeat (first | exact List.Mem.head _ | apply List.Mem.tail)) (Nat.ne_of_gt g2)
  have mta : (ta, o7) ∈ rs := K6 _ (by repeat (first | exact List.Mem.head _ | apply List.Mem.tail)) (Nat.ne_of_gt g1)
  have mpa : (pa, oP) ∈ rs := K6 _ (by repeat (first | exact List.Mem.head _ | apply List.Mem.tail)) (Nat.ne_of_gt lP.2.2.1)
  have mka : (ka, oK) ∈ rs := K6 _ (by repeat (first | exact List.Mem.head _ | apply List.Mem.tail)) (Nat.ne_of_gt lK.2.1)
  have mmo : (x', instObj 275 d') ∈ rs := K6 _ (by repeat (first | exact List.Mem.head _ | apply List.Mem.tail)) (Nat.ne_of_gt l2)
  have mnews : ∀ q ∈ news, q ∈ rs := fun q hq => K6 q (hnews q hq) (hd1 q hq)
  have hD6 : (D, listOf vs.toArray kk) ∈ (d', dictOf [eAt w "kinds" tk1 (.ref ka), eAt w "publics" tk2 (.ref pa)] 2) :: rs := .tail _ (mnews _ hD)
  have hmo6 : (x', instObj 275 d') ∈ (d', dictOf [eAt w "kinds" tk1 (.ref ka), eAt w "publics" tk2 (.ref pa)] 2) :: rs := .tail _ mmo
  clear hnews K6 A6 f1 hd1
  repeat' (first | ((fail_if_success (with_reducible show wpAny _ _ (exec (Stmt.While _ _ _ _) _) _ _ _)); (fail_if_success (with_reducible show wpAny _ _ (exec (Stmt.For _ _ _ _ _) _) _ _ _)); (first | ((with_reducible show wpAny _ _ (exec _ _) _ _ _); k_fold) | (k_unfold; (try dsimp only)) | (k_end; wrow_close) | (first | ((with_reducible show wpAny _ _ (call (Value.type "list") _) _ _ _); (k_here; k_dflt (refine' kup_listOfT (by k_asm) (by k_asm) (by k_mem) (by exact List.toList_toArray) ?_ (by exact list_room (by assumption)); k_whole); intro z_D' z_c' z_h' z_F' z_N' z_l1; (try k_lt z_l1); (try k_sweep))) | ((with_reducible show wpAny _ _ (call (Value.type "list") _) _ _ _); (k_here; k_dflt (refine' kup_listOf (by k_asm) (by k_asm) (by k_mem) (by exact rfl) ?_ (by (exact list_room (by assumption)))); intro z_D' z_c' z_h' z_F' z_N' z_l1; (try k_lt z_l1); (try k_sweep))) | ((with_reducible show wpAny _ _ (compareOp CmpOp.NotEq (Value.ref _) (Value.ref _)) _ _ _); (k_here; k_dflt (refine' ne_nil_list (by k_asm) (by k_mem) (by exact rfl) (by exact rfl) (by k_mem) (by exact rfl) (by exact rfl) (by ktr_units) ?_; k_whole); (try simp only [‹List.isEmpty _ = false›, Bool.not_false, List.isEmpty_nil, Bool.not_true]))) | walk1) | (dsimp only; walk1) | (leave1; (try dsimp only)))))
  rename Fr _ _ _ _ => lF
  rename News _ _ _ _ => lN
  rename_i ga _ _ oG _ dG lG _ _ _ _ ia _ _ oI _ dI lI _ _ _ _ ke _ _ oE _ dE lE _ _
  refine kup_listOf (its2 := vs.toArray) (n2 := kk) (zs := vs) lF lN (by repeat (first | exact mnews _ hD | apply List.Mem.tail)) (by simp) ?_ (list_room hvz)
  intro c0 cc h6 F6 N6' l6
  clear lF lN
  repeat' (first | ((fail_if_success (with_reducible show wpAny _ _ (exec (Stmt.While _ _ _ _) _) _ _ _)); (fail_if_success (with_reducible show wpAny _ _ (exec (Stmt.For _ _ _ _ _) _) _ _ _)); (first | ((with_reducible show wpAny _ _ (exec _ _) _ _ _); k_fold) | (k_unfold; (try dsimp only)) | (k_end; wrow_close) | (first | ((with_reducible show wpAny _ _ (call (Value.type "list") _) _ _ _); (k_here; k_dflt (refine' kup_listOfT (by k_asm) (by k_asm) (by k_mem) (by exact List.toList_toArray) ?_ (by exact list_room (by assumption)); k_whole); intro z_D' z_c' z_h' z_F' z_N' z_l1; (try k_lt z_l1); (try k_sweep))) | ((with_reducible show wpAny _ _ (call (Value.type "list") _) _ _ _); (k_here; k_dflt (refine' kup_listOf (by k_asm) (by k_asm) (by k_mem) (by exact rfl) ?_ (by (exact list_room (by assumption)))); intro z_D' z_c' z_h' z_F' z_N' z_l1; (try k_lt z_l1); (try k_sweep))) | ((with_reducible show wpAny _ _ (compareOp CmpOp.NotEq (Value.ref _) (Value.ref _)) _ _ _); (k_here; k_dflt (refine' ne_nil_list (by k_asm) (by k_mem) (by exact rfl) (by exact rfl) (by k_mem) (by exact rfl) (by exact rfl) (by ktr_units) ?_; k_whole); (try simp only [‹List.isEmpty _ = false›, Bool.not_false, List.isEmpty_nil, Bool.not_true]))) | walk1) | (dsimp only; walk1) | (leave1; (try dsimp only)))))
  rename Fr _ _ _ _ => lF
  rename News _ _ _ _ => lN
  rename_i t0 _ _ lt0 la _ _ lla _ _
  have hia : us' < ia := allLt_mem lI.2.2 mus
  obtain ⟨z1, z2, z3, z4, z5, z6, hdx⟩ : ∃ z1 z2 z3 z4 z5 z6, (d', dictOf (modsDict w z1 z2 z3 z4 z5 z6 ka pa ta ga ia ke) 6) ∈ _ := ⟨_, _, _, _, _, _, mem_of3 lN (by repeat (first | exact List.Mem.head _ | apply List.Mem.tail))⟩
  obtain ⟨zt, hla, ht0, hc0, hI, hrs⟩ : ∃ zt, (la, listOf [Value.ref t0].toArray 0) ∈ _ ∧ (t0, tupObj [.str (Str.ofString "") zt, .ref c0]) ∈ _ ∧ (c0, listOf vs.toArray cc) ∈ _ ∧ (ia, oI) ∈ _ ∧ (∀ q ∈ rs, q ∈ _) := ⟨_, mem_of3 lN (by repeat (first | exact List.Mem.head _ | apply List.Mem.tail)), mem_of3 lN (by repeat (first | exact List.Mem.head _ | apply List.Mem.tail)), mem_of3 lN (by repeat (first | exact List.Mem.head _ | apply List.Mem.tail)), mem_of3 lN (by repeat (first | exact List.Mem.head _ | apply List.Mem.tail)), mem_of2 lN (by intro q hq; repeat (first | exact hq | apply List.Mem.tail))⟩
  obtain ⟨rest0, lN2, Kr, Ar⟩ := reg1 lN hla
  have o1 : d' < la := lla (d', _) (by repeat (first | exact List.Mem.head _ | apply List.Mem.tail))
  have o2 : ia < la := lla (ia, _) (by repeat (first | exact List.Mem.head _ | apply List.Mem.tail))
  have o3 : t0 < la := lla (t0, _) (by repeat (first | exact List.Mem.head _ | apply List.Mem.tail))
  have o4 : c0 < la := lla (c0, _) (by repeat (first | exact List.Mem.head _ | apply List.Mem.tail))
  have hlars : ∀ q ∈ rs, q.1 ≠ la := fun q hq => Nat.ne_of_lt (lla q (by repeat (first | exact hq | apply List.Mem.tail)))
  have hmor : (x', instObj 275 d') ∈ rest0 := Kr _ (hrs _ mmo) (hlars _ mmo)
  have hdxr : (d', dictOf (modsDict w z1 z2 z3 z4 z5 z6 ka pa ta ga ia ke) 6) ∈ rest0 := Kr _ hdx (Nat.ne_of_lt o1)
  have hIr : (ia, oI) ∈ rest0 := Kr _ hI (Nat.ne_of_lt o2)
  have ht0r : (t0, tupObj [.str (Str.ofString "") zt, .ref c0]) ∈ rest0 := Kr _ ht0 (Nat.ne_of_lt o3)
  have hc0r : (c0, listOf vs.toArray cc) ∈ rest0 := Kr _ hc0 (Nat.ne_of_lt o4)
  have hrsr : ∀ q ∈ rs, q ∈ rest0 := fun q hq => Kr _ (hrs _ hq) (hlars _ hq)
  have hbr : ∀ q ∈ news, q ∈ rest0 := fun q hq => hrsr _ (mnews _ hq)
  obtain ⟨role0, M0⟩ := MState.start (news0 := news) hU hmor hdxr (hrsr _ mka) (hrsr _ mpa) (hrsr _ mta) hIr (hrsr _ mtb) (hrsr _ mtd) (hrsr _ mty) (hrsr _ mva) (hrsr _ mus) dK dP d7 dI dT' dV' dU' sK sP sB sT' sV' sU' lK.2.1 lP.1 lB.1 fd (Nat.lt_trans f2 f3) f4 f5 hia (fun q hq => ⟨hbr q hq, l1 q hq⟩)
  have hAr : ∀ q ∈ rest0, q.1 ≠ la := fun q hq => (Ar q hq).1
  have hK0 : ItemsK S t kn rest0 [] vs := itemsK_ok S t kn _ _ _ _ (fun q hq _ => hbr q hq) hitems
  clear lN Kr Ar hrs hlars hla hdx ht0 hc0 hI lla lt0 l6
  refine While_at (InitJ w U news S t x' d' la) (1 + S.length) lF lN2 ?start ?turn ?pass
  case pass => passes_own
  case start => exact ⟨[[]], [.ref t0], 0, rest0, role0, [], none, none, none, rfl, hAr, M0, .cons ⟨t0, zt, c0, vs, cc, kn, rfl, ht0r, hc0r, hvz, hK0⟩ .nil, Going.start, by simp, over_3n rfl rfl rfl⟩
  case turn =>
    intro nn m₁ news₁ h₁ tk₁ lF1 lN1 hJ0
    revert lF1 lN1
    refine InitJ.elim (P := fun m₁ news₁ => Fr _ _ _ m₁ → News _ _ _ news₁ → _) hJ0 ?_
    intro ps wv cw rest role E9 u1 u2 u3 hla M A2 G hn lF1 lN1
    clear hJ0
    clear lF lN2
    have hlam : (la, listOf wv.toArray cw) ∈ (la, listOf wv.toArray cw) :: rest := .head _
    by_cases hw : wv = []
    · subst hw
      cases A2 with
      | nil =>
      repeat' (first | ((fail_if_success (with_reducible show wpAny _ _ (exec (Stmt.While _ _ _ _) _) _ _ _)); (fail_if_success (with_reducible show wpAny _ _ (exec (Stmt.For _ _ _ _ _) _) _ _ _)); (first | ((with_reducible show wpAny _ _ (exec _ _) _ _ _); k_fold) | (k_unfold; (try dsimp only)) | (k_end; wrow_close) | (first | ((with_reducible show wpAny _ _ (call (Value.type "list") _) _ _ _); (k_here; k_dflt (refine' kup_listOfT (by k_asm) (by k_asm) (by k_mem) (by exact List.toList_toArray) ?_ (by exact list_room (by assumption)); k_whole); intro z_D' z_c' z_h' z_F' z_N' z_l1; (try k_lt z_l1); (try k_sweep))) | ((with_reducible show wpAny _ _ (call (Value.type "list") _) _ _ _); (k_here; k_dflt (refine' kup_listOf (by k_asm) (by k_asm) (by k_mem) (by exact rfl) ?_ (by (exact list_room (by assumption)))); intro z_D' z_c' z_h' z_F' z_N' z_l1; (try k_lt z_l1); (try k_sweep))) | ((with_reducible show wpAny _ _ (compareOp CmpOp.NotEq (Value.ref _) (Value.ref _)) _ _ _); (k_here; k_dflt (refine' ne_nil_list (by k_asm) (by k_mem) (by exact rfl) (by exact rfl) (by k_mem) (by exact rfl) (by exact rfl) (by ktr_units) ?_; k_whole); (try simp only [‹List.isEmpty _ = false›, Bool.not_false, List.isEmpty_nil, Bool.not_true]))) | walk1) | (dsimp only; walk1) | (leave1; (try dsimp only)))))
      all_goals
        rename News h₀ L _ _ => kN
        rename Fr h₀ L _ _ => kF
      all_goals
        have Mf := mstate_of kN M (fun q hq => .tail _ (.tail _ hq))
        obtain ⟨hU1, hU2⟩ := Mf.done kN hU (fun x hx => hS.uni x (G.d x hx)) (G.all hS) (fun x hx => (hS.ne x (G.d x hx)).1)
        exact hret _ _ _ _ kF kN ⟨x', d', rfl, hU1, hU2⟩
    · obtain ⟨wv', v, ps', p, rfl, rfl, A3, P3⟩ := A2.last hw
      have hemp : ((wv' ++ [v]).isEmpty) = false := by simp
      obtain ⟨ta9, tk9, c9, ws9, k9, n9, rfl, hta, hc9, hwz, hit⟩ := P3
      repeat' (first | ((fail_if_success (with_reducible show wpAny _ _ (exec (Stmt.While _ _ _ _) _) _ _ _)); (fail_if_success (with_reducible show wpAny _ _ (exec (Stmt.For _ _ _ _ _) _) _ _ _)); (first | ((with_reducible show wpAny _ _ (exec _ _) _ _ _); k_fold) | (k_unfold; (try dsimp only)) | (k_end; wrow_close) | (first | ((with_reducible show wpAny _ _ (call (Value.type "list") _) _ _ _); (k_here; k_dflt (refine' kup_listOfT (by k_asm) (by k_asm) (by k_mem) (by exact List.toList_toArray) ?_ (by exact list_room (by assumption)); k_whole); intro z_D' z_c' z_h' z_F' z_N' z_l1; (try k_lt z_l1); (try k_sweep))) | ((with_reducible show wpAny _ _ (call (Value.type "list") _) _ _ _); (k_here; k_dflt (refine' kup_listOf (by k_asm) (by k_asm) (by k_mem) (by exact rfl) ?_ (by (exact list_room (by assumption)))); intro z_D' z_c' z_h' z_F' z_N' z_l1; (try k_lt z_l1); (try k_sweep))) | ((with_reducible show wpAny _ _ (compareOp CmpOp.NotEq (Value.ref _) (Value.ref _)) _ _ _); (k_here; k_dflt (refine' ne_nil_list (by k_asm) (by k_mem) (by exact rfl) (by exact rfl) (by k_mem) (by exact rfl) (by exact rfl) (by ktr_units) ?_; k_whole); (try simp only [‹List.isEmpty _ = false›, Bool.not_false, List.isEmpty_nil, Bool.not_true]))) | walk1) | (dsimp only; walk1) | (leave1; (try dsimp only)))))
      rename Fr _ _ _ _ => lF
      rename News _ _ _ _ => lN
      refine pop_any lF lN (.tail _ (.head _)) (by have h1 := A3.len; have h2 := hS.len; have h3 := G.len; have h4 := G.pslen; simp at h4; omega) ?_
      intro h9 l9 F9 N9 K9 A9
      clear lF lN
      have N8 := news_sub N9 (l' := (la, listOf wv'.toArray (cw + 1)) :: rest) (fun q hq => by
        rcases List.mem_cons.mp hq with rfl | hq
        · exact .head _
        · exact .tail _ (K9 q (.tail _ (.tail _ hq)) (hla q hq)))
      clear N9 K9 A9 hlam
      have hta8 : (ta9, tupObj [.str (pth p) tk9, .ref c9]) ∈ (la, listOf wv'.toArray (cw + 1)) :: rest := .tail _ hta
      repeat' (first | ((fail_if_success (with_reducible show wpAny _ _ (exec (Stmt.While _ _ _ _) _) _ _ _)); (fail_if_success (with_reducible show wpAny _ _ (exec (Stmt.For _ _ _ _ _) _) _ _ _)); (first | ((with_reducible show wpAny _ _ (exec _ _) _ _ _); k_fold) | (k_unfold; (try dsimp only)) | (k_end; wrow_close) | (first | ((with_reducible show wpAny _ _ (call (Value.type "list") _) _ _ _); (k_here; k_dflt (refine' kup_listOfT (by k_asm) (by k_asm) (by k_mem) (by exact List.toList_toArray) ?_ (by exact list_room (by assumption)); k_whole); intro z_D' z_c' z_h' z_F' z_N' z_l1; (try k_lt z_l1); (try k_sweep))) | ((with_reducible show wpAny _ _ (call (Value.type "list") _) _ _ _); (k_here; k_dflt (refine' kup_listOf (by k_asm) (by k_asm) (by k_mem) (by exact rfl) ?_ (by (exact list_room (by assumption)))); intro z_D' z_c' z_h' z_F' z_N' z_l1; (try k_lt z_l1); (try k_sweep))) | ((with_reducible show wpAny _ _ (compareOp CmpOp.NotEq (Value.ref _) (Value.ref _)) _ _ _); (k_here; k_dflt (refine' ne_nil_list (by k_asm) (by k_mem) (by exact rfl) (by exact rfl) (by k_mem) (by exact rfl) (by exact rfl) (by ktr_units) ?_; k_whole); (try simp only [‹List.isEmpty _ = false›, Bool.not_false, List.isEmpty_nil, Bool.not_true]))) | walk1) | (dsimp only; walk1) | (leave1; (try dsimp only)))))
      rename Fr _ _ _ _ => lF
      rename News _ _ _ _ => lN
      cases n9 with
      | zero => exact hit.elim
      | succ n9 =>
      with_unfolding_all refine For_turns lF ?_
      repeat' (first | ((fail_if_success (with_reducible show wpAny _ _ (exec (Stmt.While _ _ _ _) _) _ _ _)); (fail_if_success (with_reducible show wpAny _ _ (exec (Stmt.For _ _ _ _ _) _) _ _ _)); (first | ((with_reducible show wpAny _ _ (exec _ _) _ _ _); k_fold) | (k_unfold; (try dsimp only)) | (k_end; wrow_close) | (first | ((with_reducible show wpAny _ _ (call (Value.type "list") _) _ _ _); (k_here; k_dflt (refine' kup_listOfT (by k_asm) (by k_asm) (by k_mem) (by exact List.toList_toArray) ?_ (by exact list_room (by assumption)); k_whole); intro z_D' z_c' z_h' z_F' z_N' z_l1; (try k_lt z_l1); (try k_sweep))) | ((with_reducible show wpAny _ _ (call (Value.type "list") _) _ _ _); (k_here; k_dflt (refine' kup_listOf (by k_asm) (by k_asm) (by k_mem) (by exact rfl) ?_ (by (exact list_room (by assumption)))); intro z_D' z_c' z_h' z_F' z_N' z_l1; (try k_lt z_l1); (try k_sweep))) | ((with_reducible show wpAny _ _ (compareOp CmpOp.NotEq (Value.ref _) (Value.ref _)) _ _ _); (k_here; k_dflt (refine' ne_nil_list (by k_asm) (by k_mem) (by exact rfl) (by exact rfl) (by k_mem) (by exact rfl) (by exact rfl) (by ktr_units) ?_; k_whole); (try simp only [‹List.isEmpty _ = false›, Bool.not_false, List.isEmpty_nil, Bool.not_true]))) | walk1) | (dsimp only; walk1) | (leave1; (try dsimp only)))))
      rename Fr _ _ _ _ => lF
      rename News _ _ _ _ => lN
      with_unfolding_all refine iter_listTurns (by rfl) lF lN (.tail _ hc9) rfl rfl ?_
      intro I lI
      clear lF lN
      have hIla : I ≠ la := Nat.ne_of_gt (lI _ (.head _))
      have hG1 : 1 ≤ nn := by have := G.len; simp at hn; omega
      refine items_from (fun m0 n0 => ForJ w U news S t x' d' la I c9 (listOf ws9.toArray k9) p (nn - 1) n9 m0) ?start ?zero ?turn
      case start => exact ⟨ws9, ordered t (kids S p), ps', wv', cw + 1, rest, role, E9, _, rfl, hit, rfl, fun q hq => ⟨hla q hq, Nat.ne_of_lt (lI q (.tail _ hq))⟩, hc9, M, A3, G.pop hS.nodup, by simp at hn; omega, over_one rfl⟩
      case zero =>
        rintro m1 news1 ⟨ws, r, ps, vs, cc, rest, role, E, u3, hits, hA, rfl, hoff, hcm, M, A2, G, hn, rfl⟩ h1 tk1 lF lN
        cases ws with
        | cons v ws => cases hits
        | nil =>
        cases hA with
        | nil =>
        repeat' (first | ((fail_if_success (with_reducible show wpAny _ _ (exec (Stmt.While _ _ _ _) _) _ _ _)); (fail_if_success (with_reducible show wpAny _ _ (exec (Stmt.For _ _ _ _ _) _) _ _ _)); (first | ((with_reducible show wpAny _ _ (exec _ _) _ _ _); k_fold) | (k_unfold; (try dsimp only)) | (k_end; wrow_close) | (first | ((with_reducible show wpAny _ _ (call (Value.type "list") _) _ _ _); (k_here; k_dflt (refine' kup_listOfT (by k_asm) (by k_asm) (by k_mem) (by exact List.toList_toArray) ?_ (by exact list_room (by assumption)); k_whole); intro z_D' z_c' z_h' z_F' z_N' z_l1; (try k_lt z_l1); (try k_sweep))) | ((with_reducible show wpAny _ _ (call (Value.type "list") _) _ _ _); (k_here; k_dflt (refine' kup_listOf (by k_asm) (by k_asm) (by k_mem) (by exact rfl) ?_ (by (exact list_room (by assumption)))); intro z_D' z_c' z_h' z_F' z_N' z_l1; (try k_lt z_l1); (try k_sweep))) | ((with_reducible show wpAny _ _ (compareOp CmpOp.NotEq (Value.ref _) (Value.ref _)) _ _ _); (k_here; k_dflt (refine' ne_nil_list (by k_asm) (by k_mem) (by exact rfl) (by exact rfl) (by k_mem) (by exact rfl) (by exact rfl) (by ktr_units) ?_; k_whole); (try simp only [‹List.isEmpty _ = false›, Bool.not_false, List.isEmpty_nil, Bool.not_true]))) | walk1) | (dsimp only; walk1) | (leave1; (try dsimp only)))))
        unfold WhileStep2
        exact ⟨_, _, _, _, nn - 1, rfl, by k_asm, by k_asm, by omega, ps, vs, cc, rest, role, E, _, _, _, rfl, fun q hq => (hoff q hq).1, M, A2, G.at0, hn, over_m3 (by decide +kernel) (by decide +kernel) (by decide +kernel)⟩
      case turn =>
        rintro it r9 m1 news1 ⟨ws, r, ps, vs, cc, rest, role, E, u3, hits, hA, rfl, hoff, hcm, M, A2, G, hn, rfl⟩ v1 h1 tk1 hv lF
        cases ws with
        | nil => cases hits
        | cons v ws =>
        injection hits with hx1 hx2
        subst hx1
        obtain rfl : v1 = v := hv
        cases hA with
        | @cons _ x _ r hI hA' =>
        obtain ⟨it9, rfl, hI⟩ := hI
        refine AllObj.cons (fun oI hcI => AllObj.nil (fun lN => ?_))
        dsimp only [List.cons_append, List.nil_append] at lN
        have hcI' : oI.cls = .type "list_iterator" := hcI
        obtain ⟨hk, h0⟩ := G.k _ (.head _)
        obtain ⟨hpp, hpm⟩ := G.h (by simp)
        have hxS := (List.mem_filter.mp hk).1
        have hx0 := (hS.ne _ hxS).1
        obtain ⟨nm, hxn, hlast⟩ := kid_snoc hk hx0
        obtain ⟨xq, xb⟩ := x
        dsimp only at hk h0 hxS hx0 hxn hlast hI
        subst hxn
        have hgo := G.step hS
        rw [isFn_snoc] at hI
        dsimp only at hgo
        rw [isFn_snoc] at hgo
        have hElen := G.len
        have hE50 : E.length ≤ 50 := by have := hS.len; omega
        have hEU : ∀ x ∈ E, x.1 ∈ U := fun x hx => hS.uni x (G.d x hx)
        have hqU := hS.uni _ hxS
        have M9 := mstate_of lN M (fun q hq => .tail _ (.tail _ hq))
        have M8 := M9
        refine MState.elim2 M8 ?_; intro ka9 pa9 ta9 ga9 ia9 ke9 j19 j29 j39 j49 j59 j69 hmo9 hdx9
        have hpz := hU.len _ (mod_mem hU hEU hpm)
        obtain ⟨hnpl, hnz⟩ := hS.names _ hxS nm hlast
        rcases hI with ⟨hf, y1, y2, v1, v2, v3, hm⟩ | ⟨hf, nm', ti, ws', v1, v2, v3, hnm', hm, hti, hsub⟩
        · have hm9 : (it9, fnItem y1 y2 xb v1 v2 v3) ∈ (I, oI) :: (la, listOf vs.toArray cc) :: rest := .tail _ (.tail _ hm)
          obtain rfl : nm = Str.ofString "f" := by simpa using hf
          repeat' (first | ((fail_if_success (with_reducible show wpAny _ _ (call (Value.ref 167) _) _ _ _)); (fail_if_success (with_reducible show wpAny _ _ (call (Value.type "list") _) _ _ _)); (first | (k_unfold; (try dsimp only)) | (k_end; wrow_close) | (first | ((with_reducible show wpAny _ _ (call (Value.type "list") _) _ _ _); (k_here; k_dflt (refine' kup_listOfT (by k_asm) (by k_asm) (by k_mem) (by exact List.toList_toArray) ?_ (by exact list_room (by assumption)); k_whole); intro z_D' z_c' z_h' z_F' z_N' z_l1; (try k_lt z_l1); (try k_sweep))) | ((with_reducible show wpAny _ _ (call (Value.type "list") _) _ _ _); (k_here; k_dflt (refine' kup_listOf (by k_asm) (by k_asm) (by k_mem) (by exact rfl) ?_ (by (exact list_room (by assumption)))); intro z_D' z_c' z_h' z_F' z_N' z_l1; (try k_lt z_l1); (try k_sweep))) | ((with_reducible show wpAny _ _ (compareOp CmpOp.NotEq (Value.ref _) (Value.ref _)) _ _ _); (k_here; k_dflt (refine' ne_nil_list (by k_asm) (by k_mem) (by exact rfl) (by exact rfl) (by k_mem) (by exact rfl) (by exact rfl) (by ktr_units) ?_; k_whole); (try simp only [‹List.isEmpty _ = false›, Bool.not_false, List.isEmpty_nil, Bool.not_true]))) | walk1) | (dsimp only; walk1) | (leave1; try dsimp only))))
          rename Fr _ _ _ _ => lF
          rename News _ _ _ _ => lN
          k_dflt (refine' Spec.use (enter_state_fn hU M9 hpm hqU h0 hE50 hEU hm9) ?k1 ?k2 ?k3 ?k4 ?k5 ?k6 ?k7 ?k8 ?k9 ?_; (case k1 => k_asm); (case k2 => k_asm); (case k3 => k_asm); (case k4 => k_asm); (case k5 => k_asm); (case k6 => k_asm); (case k7 => first | exact rfl | assumption); (case k8 => ktr_room); (case k9 => ktr_units); k_whole)
          intro r8 h8 tk8 n8 F8 N8 P8
          obtain ⟨rfl, ⟨role', M'⟩, K'⟩ := P8
          clear lF lN
          (try dsimp only)
          repeat' (first | ((fail_if_success (with_reducible show wpAny _ _ (exec (Stmt.While _ _ _ _) _) _ _ _)); (fail_if_success (with_reducible show wpAny _ _ (exec (Stmt.For _ _ _ _ _) _) _ _ _)); (first | ((with_reducible show wpAny _ _ (exec _ _) _ _ _); k_fold) | (k_unfold; (try dsimp only)) | (k_end; wrow_close) | (first | ((with_reducible show wpAny _ _ (call (Value.type "list") _) _ _ _); (k_here; k_dflt (refine' kup_listOfT (by k_asm) (by k_asm) (by k_mem) (by exact List.toList_toArray) ?_ (by exact list_room (by assumption)); k_whole); intro z_D' z_c' z_h' z_F' z_N' z_l1; (try k_lt z_l1); (try k_sweep))) | ((with_reducible show wpAny _ _ (call (Value.type "list") _) _ _ _); (k_here; k_dflt (refine' kup_listOf (by k_asm) (by k_asm) (by k_mem) (by exact rfl) ?_ (by (exact list_room (by assumption)))); intro z_D' z_c' z_h' z_F' z_N' z_l1; (try k_lt z_l1); (try k_sweep))) | ((with_reducible show wpAny _ _ (compareOp CmpOp.NotEq (Value.ref _) (Value.ref _)) _ _ _); (k_here; k_dflt (refine' ne_nil_list (by k_asm) (by k_mem) (by exact rfl) (by exact rfl) (by k_mem) (by exact rfl) (by exact rfl) (by ktr_units) ?_; k_whole); (try simp only [‹List.isEmpty _ = false›, Bool.not_false, List.isEmpty_nil, Bool.not_true]))) | walk1) | (dsimp only; walk1) | (leave1; (try dsimp only)))))
          exact for_end (rest := rest) (by k_asm) (by k_asm) hIla hcI' (K' _ (.head _) (by rw [hcI']; intro e; injection e with e; exact absurd e (by decide))) (K' _ (.tail _ (.head _)) (by intro e; injection e with e; exact absurd e (by decide))) hx2 hoff (fun q hq => (M.base q hq).1) (fun q hq hc => K' q (.tail _ (.tail _ hq)) hc) hcm rfl M' hA' A2 (by simpa using hgo) (by simp; omega) over_path
        · have hm9 : (it9, modItem nm' ti xb v1 v2 v3) ∈ (I, oI) :: (la, listOf vs.toArray cc) :: rest := .tail _ (.tail _ hm)
          have hti9 : (ti, tupObj ws') ∈ (I, oI) :: (la, listOf vs.toArray cc) :: rest := .tail _ (.tail _ hti)
          obtain rfl : nm' = nm := Option.some.inj (hnm'.symm.trans hlast)
          have hwz' := itemsK_len hS hsub
          have hlam : (la, listOf vs.toArray cc) ∈ (I, oI) :: (la, listOf vs.toArray cc) :: rest := .tail _ (.head _)
          repeat' (first | ((fail_if_success (with_reducible show wpAny _ _ (call (Value.ref 167) _) _ _ _)); (fail_if_success (with_reducible show wpAny _ _ (call (Value.type "list") _) _ _ _)); (first | (k_unfold; (try dsimp only)) | (k_end; wrow_close) | (first | ((with_reducible show wpAny _ _ (call (Value.type "list") _) _ _ _); (k_here; k_dflt (refine' kup_listOfT (by k_asm) (by k_asm) (by k_mem) (by exact List.toList_toArray) ?_ (by exact list_room (by assumption)); k_whole); intro z_D' z_c' z_h' z_F' z_N' z_l1; (try k_lt z_l1); (try k_sweep))) | ((with_reducible show wpAny _ _ (call (Value.type "list") _) _ _ _); (k_here; k_dflt (refine' kup_listOf (by k_asm) (by k_asm) (by k_mem) (by exact rfl) ?_ (by (exact list_room (by assumption)))); intro z_D' z_c' z_h' z_F' z_N' z_l1; (try k_lt z_l1); (try k_sweep))) | ((with_reducible show wpAny _ _ (compareOp CmpOp.NotEq (Value.ref _) (Value.ref _)) _ _ _); (k_here; k_dflt (refine' ne_nil_list (by k_asm) (by k_mem) (by exact rfl) (by exact rfl) (by k_mem) (by exact rfl) (by exact rfl) (by ktr_units) ?_; k_whole); (try simp only [‹List.isEmpty _ = false›, Bool.not_false, List.isEmpty_nil, Bool.not_true]))) | walk1) | (dsimp only; walk1) | (leave1; try dsimp only))))
          rename Fr _ _ _ _ => lF
          rename News _ _ _ _ => lN
          refine kup_listOfT (zs := ws') lF lN hti9 (by simp) ?_ (list_room hwz')
          intro c' kc' h8 F8 N8 l8
          clear lF lN
          have hlam8 : (la, listOf vs.toArray cc) ∈ (c', listOf ws'.toArray kc') :: (I, oI) :: (la, listOf vs.toArray cc) :: rest := .tail _ (.tail _ (.head _))
          repeat' (first | ((fail_if_success (with_reducible show wpAny _ _ (call (Value.ref 167) _) _ _ _)); (fail_if_success (with_reducible show wpAny _ _ (call (Value.type "list") _) _ _ _)); (first | (k_unfold; (try dsimp only)) | (k_end; wrow_close) | (first | ((with_reducible show wpAny _ _ (call (Value.type "list") _) _ _ _); (k_here; k_dflt (refine' kup_listOfT (by k_asm) (by k_asm) (by k_mem) (by exact List.toList_toArray) ?_ (by exact list_room (by assumption)); k_whole); intro z_D' z_c' z_h' z_F' z_N' z_l1; (try k_lt z_l1); (try k_sweep))) | ((with_reducible show wpAny _ _ (call (Value.type "list") _) _ _ _); (k_here; k_dflt (refine' kup_listOf (by k_asm) (by k_asm) (by k_mem) (by exact rfl) ?_ (by (exact list_room (by assumption)))); intro z_D' z_c' z_h' z_F' z_N' z_l1; (try k_lt z_l1); (try k_sweep))) | ((with_reducible show wpAny _ _ (compareOp CmpOp.NotEq (Value.ref _) (Value.ref _)) _ _ _); (k_here; k_dflt (refine' ne_nil_list (by k_asm) (by k_mem) (by exact rfl) (by exact rfl) (by k_mem) (by exact rfl) (by exact rfl) (by ktr_units) ?_; k_whole); (try simp only [‹List.isEmpty _ = false›, Bool.not_false, List.isEmpty_nil, Bool.not_true]))) | walk1) | (dsimp only; walk1) | (leave1; try dsimp only))))
          rename Fr _ _ _ _ => lF
          rename News _ _ _ _ => lN
          have hT : (_, tupObj [.str (joinedF (pth p) nm') _, .ref c']) ∈ _ := mem_of3 lN (.head _)
          have hla2 : (la, listOf vs.toArray cc) ∈ _ := mem_of3 lN (.tail _ (.tail _ (.tail _ (.head _))))
          have hI2 : (I, oI) ∈ _ := mem_of3 lN (.tail _ (.tail _ (.head _)))
          have hc2 : (c', listOf ws'.toArray kc') ∈ _ := mem_of3 lN (.tail _ (.head _))
          have hr2 := mem_of2 lN (fun q (hq : q ∈ rest) => .tail _ (.tail _ (.tail _ (.tail _ hq))))
          have hcla : c' ≠ la := Nat.ne_of_gt (l8 _ (.tail _ (.head _)))
          have hcI2 : c' ≠ I := Nat.ne_of_gt (l8 _ (.head _))
          have hTla := off_cls lN hT hla2 rfl rfl (by decide)
          have hTI := off_cls lN hT hI2 rfl hcI' (by decide)
          refine append_any lF lN hla2 (by have h1 := A2.len; have h2 := hS.len; have h3 := G.len; have h4 := G.pslen; omega) ?_
          intro h7 l7 F7 N7 K7 A7
          have hT7 := K7 _ hT hTla
          have hI7 := K7 _ hI2 hIla
          have hc7 := K7 _ hc2 hcla
          have hr7 : ∀ q ∈ rest, q ∈ l7 := fun q hq => K7 q (hr2 q hq) (hoff q hq).1
          clear lF lN hT hla2 hI2 hc2 hr2 K7 hlam hlam8 hti9 hmo9 hdx9
          have M7 := mstate_of N7 M (fun q hq => .tail _ (hr7 q hq))
          have M6 := M7
          refine MState.elim2 M6 ?_; intro ka9 pa9 ta9 ga9 ia9 ke9 j19 j29 j39 j49 j59 j69 hmo9 hdx9
          have hm7 : (it9, modItem nm' ti xb v1 v2 v3) ∈ _ := mem_of3 N7 (.tail _ (hr7 _ hm))
          repeat' (first | ((fail_if_success (with_reducible show wpAny _ _ (call (Value.ref 167) _) _ _ _)); (first | (k_unfold; (try dsimp only)) | (k_end; wrow_close) | (first | ((with_reducible show wpAny _ _ (call (Value.type "list") _) _ _ _); (k_here; k_dflt (refine' kup_listOfT (by k_asm) (by k_asm) (by k_mem) (by exact List.toList_toArray) ?_ (by exact list_room (by assumption)); k_whole); intro z_D' z_c' z_h' z_F' z_N' z_l1; (try k_lt z_l1); (try k_sweep))) | ((with_reducible show wpAny _ _ (call (Value.type "list") _) _ _ _); (k_here; k_dflt (refine' kup_listOf (by k_asm) (by k_asm) (by k_mem) (by exact rfl) ?_ (by (exact list_room (by assumption)))); intro z_D' z_c' z_h' z_F' z_N' z_l1; (try k_lt z_l1); (try k_sweep))) | ((with_reducible show wpAny _ _ (compareOp CmpOp.NotEq (Value.ref _) (Value.ref _)) _ _ _); (k_here; k_dflt (refine' ne_nil_list (by k_asm) (by k_mem) (by exact rfl) (by exact rfl) (by k_mem) (by exact rfl) (by exact rfl) (by ktr_units) ?_; k_whole); (try simp only [‹List.isEmpty _ = false›, Bool.not_false, List.isEmpty_nil, Bool.not_true]))) | walk1) | (dsimp only; walk1) | (leave1; try dsimp only))))
          rename Fr _ _ _ _ => lF
          rename News _ _ _ _ => lN
          k_dflt (refine' Spec.use (enter_state_mod hU M7 hpm hqU h0 hf (fun m => G.kidless h0 hx0 m) hE50 hEU hm7 hnpl hnz) ?k1 ?k2 ?k3 ?k4 ?k5 ?k6 ?k7 ?k8 ?k9 ?_; (case k1 => k_asm); (case k2 => k_asm); (case k3 => k_asm); (case k4 => k_asm); (case k5 => k_asm); (case k6 => k_asm); (case k7 => first | exact rfl | assumption); (case k8 => ktr_room); (case k9 => ktr_units); k_whole)
          intro r8 h8 tk8 n8 F8 N8 P8
          obtain ⟨rfl, ⟨role', M'⟩, K'⟩ := P8
          clear lF lN
          (try dsimp only)
          repeat' (first | ((fail_if_success (with_reducible show wpAny _ _ (exec (Stmt.While _ _ _ _) _) _ _ _)); (fail_if_success (with_reducible show wpAny _ _ (exec (Stmt.For _ _ _ _ _) _) _ _ _)); (first | ((with_reducible show wpAny _ _ (exec _ _) _ _ _); k_fold) | (k_unfold; (try dsimp only)) | (k_end; wrow_close) | (first | ((with_reducible show wpAny _ _ (call (Value.type "list") _) _ _ _); (k_here; k_dflt (refine' kup_listOfT (by k_asm) (by k_asm) (by k_mem) (by exact List.toList_toArray) ?_ (by exact list_room (by assumption)); k_whole); intro z_D' z_c' z_h' z_F' z_N' z_l1; (try k_lt z_l1); (try k_sweep))) | ((with_reducible show wpAny _ _ (call (Value.type "list") _) _ _ _); (k_here; k_dflt (refine' kup_listOf (by k_asm) (by k_asm) (by k_mem) (by exact rfl) ?_ (by (exact list_room (by assumption)))); intro z_D' z_c' z_h' z_F' z_N' z_l1; (try k_lt z_l1); (try k_sweep))) | ((with_reducible show wpAny _ _ (compareOp CmpOp.NotEq (Value.ref _) (Value.ref _)) _ _ _); (k_here; k_dflt (refine' ne_nil_list (by k_asm) (by k_mem) (by exact rfl) (by exact rfl) (by k_mem) (by exact rfl) (by exact rfl) (by ktr_units) ?_; k_whole); (try simp only [‹List.isEmpty _ = false›, Bool.not_false, List.isEmpty_nil, Bool.not_true]))) | walk1) | (dsimp only; walk1) | (leave1; (try dsimp only)))))
          rw [hf] at hgo
          have hn2 : (ps ++ [p ++ [nm']]).length + S.length ≤ nn - 1 + (E ++ [(p ++ [nm'], xb)]).length := by simp; omega
          rw [← pth_snoc] at hT7
          exact for_end_mod (rest := rest) (by k_asm) (by k_asm) hIla hcI' (K' _ (.tail _ hI7) (by rw [hcI']; intro e; injection e with e; exact absurd e (by decide))) (K' _ (.head _) (by intro e; injection e with e; exact absurd e (by decide))) hx2 hoff (fun q hq => (M.base q hq).1) (fun q hq hc => K' q (.tail _ (hr7 q hq)) hc) hcm rfl
            (K' _ (.tail _ hT7) (by intro e; injection e with e; exact absurd e (by decide))) (K' _ (.tail _ hc7) (by intro e; injection e with e; exact absurd e (by decide))) ⟨hTla, hTI⟩ ⟨hcla, hcI2⟩ hwz' hsub M' hA' A2 (by simpa using hgo) hn2 over_path
end

/- G1 -/
section
/-- the list that the draws come from -/
inductive SrcOk (o : Obj) : Prop
  | mk : ∀ g x t1 t2 n, (0 ≤ g) → (0 ≤ x) → (o = listOf #[.int g t1, .int x t2] n) → SrcOk o
theorem Spec.sub {w : World} {f : Addr} {d u : Nat} {vs : List Value} {l l' : List (Addr × Obj)} {post post' : Value → List (Addr × Obj) → Prop} (S : Spec w f d u vs l' post) (h : ∀ q ∈ l', q ∈ l) (hp : ∀ r n, post r n → post' r n) : Spec w f d u vs l post' := by
  intro mean mg mb dp un gd cn cs a ccd cl outer A₀ base h₀ L m s Q E H F N hk hd hu hret
  exact S mean mg mb dp un gd cn cs a ccd cl outer A₀ base h₀ L m s Q E H F (news_sub N h) hk hd hu fun r h' tk' n' a b c => hret r h' tk' n' a b (hp _ _ c)
noncomputable def Drawn (src : Addr) (l l' : List (Addr × Obj)) : Prop := (∃ o, SrcOk o ∧ (src, o) ∈ l') ∧ ∀ q ∈ l, q.1 ≠ src → q ∈ l'
theorem take_any (w : World) (src : Addr) (o : Obj) (ho : SrcOk o) (l : List (Addr × Obj)) (hm : (src, o) ∈ l) (top : Int) (t3 : Tok) (h1 : 1 ≤ top) (h8 : top ≤ 8) :
    Spec w 293 1 8 [.ref src, .int top t3] l (fun r l' => Drawn src l l' ∧ ∃ d tk, 0 ≤ d ∧ d < top ∧ r = .int d tk) := by
  obtain ⟨g, x, t1, t2, n, hg, hx, rfl⟩ := ho
  refine Spec.sub (l' := (src, listOf #[.int g t1, .int x t2] n) :: l.filter (fun q => decide (q.1 ≠ src))) (take_spec w src g x t1 t2 t3 n top _ (fun q hq => by simpa using (List.mem_filter.mp hq).2) hg hx h1 h8) ?_ ?_
  · intro q hq
    rcases List.mem_cons.mp hq with rfl | hq
    · exact hm
    · exact (List.mem_filter.mp hq).1
  · rintro r n' ⟨g', x', t1', t2', n2, d, tk, a, b, c, e, rfl, rfl⟩
    exact ⟨⟨⟨_, ⟨g', x', t1', t2', n2, a, b, rfl⟩, .head _⟩, fun q hq hn => .tail _ (List.mem_filter.mpr ⟨hq, by simpa using hn⟩)⟩, d, tk, c, e, rfl⟩
theorem one_any (w : World) (src th : Addr) (o : Obj) (ho : SrcOk o) (l : List (Addr × Obj)) (hm : (src, o) ∈ l) (lo : Obj) (vs : List Value) (k : Nat) (hth : (th, lo) ∈ l) (hne : th ≠ src) (hc : lo.cls = .type "list") (hdt : lo.data = .seq vs.toArray k) (h1 : 1 ≤ vs.length) (h8 : vs.length ≤ 8) :
    Spec w 300 2 16 [.ref src, .ref th] l (fun r l' => Drawn src l l' ∧ r ∈ vs) := by
  obtain ⟨g, x, t1, t2, n, hg, hx, rfl⟩ := ho
  refine Spec.sub (l' := (src, listOf #[.int g t1, .int x t2] n) :: l.filter (fun q => decide (q.1 ≠ src))) (one_spec w src th g x t1 t2 n lo vs k _ (fun q hq => by simpa using (List.mem_filter.mp hq).2) hg hx (List.mem_filter.mpr ⟨hth, by simpa using hne⟩) hc hdt h1 h8) ?_ ?_
  · intro q hq
    rcases List.mem_cons.mp hq with rfl | hq
    · exact hm
    · exact (List.mem_filter.mp hq).1
  · rintro r n' ⟨g', x', t1', t2', n2, a, b, rfl, hr⟩
    exact ⟨⟨⟨_, ⟨g', x', t1', t2', n2, a, b, rfl⟩, .head _⟩, fun q hq hn => .tail _ (List.mem_filter.mpr ⟨hq, by simpa using hn⟩)⟩, hr⟩
theorem off_obj {h₀ h : Heap} {L : Addr} {l : List (Addr × Obj)} {p q : Addr × Obj} (N : News h₀ L h l) (hp : p ∈ l) (hq : q ∈ l) (hn : p.2.data ≠ q.2.data) : p.1 ≠ q.1 := fun e => by
  have e1 := (N _ hp).1
  rw [e, (N _ hq).1] at e1
  exact hn (by rw [Option.some.inj e1])
/-- the law's five cells and the list that the draws come from -/
inductive LawC (l : List (Addr × Obj)) (L src : Addr) (v1 v2 v3 v4 v5 : Option Value) : Prop
  | mk : ∀ o1 o2 o3 o4 o5 os, ((L + 1, o1) ∈ l) → ((L + 1 + 1, o2) ∈ l) → ((L + 1 + 1 + 1, o3) ∈ l) → ((L + 1 + 1 + 1 + 1, o4) ∈ l) → ((L + 1 + 1 + 1 + 1 + 1, o5) ∈ l) → ((src, os) ∈ l) → (o1.data = .cell v1 ∧ o2.data = .cell v2 ∧ o3.data = .cell v3 ∧ o4.data = .cell v4 ∧ o5.data = .cell v5 ∧ SrcOk os) → LawC l L src v1 v2 v3 v4 v5
/-- all but the object at X is kept -/
noncomputable def Kept (X : Addr) (l l' : List (Addr × Obj)) : Prop := ∀ q ∈ l, q.1 ≠ X → q ∈ l'
noncomputable def Sub (l l' : List (Addr × Obj)) : Prop := ∀ q ∈ l, q ∈ l'
theorem LawC.sub {l l' : List (Addr × Obj)} {L src : Addr} {v1 v2 v3 v4 v5 : Option Value} (C : LawC l L src v1 v2 v3 v4 v5) (h : ∀ q ∈ l, q ∈ l') : LawC l' L src v1 v2 v3 v4 v5 := by
  obtain ⟨o1, o2, o3, o4, o5, os, a1, a2, a3, a4, a5, a6, r⟩ := C
  exact ⟨o1, o2, o3, o4, o5, os, h _ a1, h _ a2, h _ a3, h _ a4, h _ a5, h _ a6, r⟩
theorem srcOk_seq {o : Obj} (h : SrcOk o) : ∃ vs n, o = listOf vs n := by
  obtain ⟨g, x, t1, t2, n, _, _, rfl⟩ := h
  exact ⟨_, _, rfl⟩
/-- the draw's list changes -/
theorem LawC.drawn {l l' : List (Addr × Obj)} {L src : Addr} {v1 v2 v3 v4 v5 : Option Value} {h₀ h : Heap} {L' : Addr} (N : News h₀ L' h l) (C : LawC l L src v1 v2 v3 v4 v5) (D : Drawn src l l') : LawC l' L src v1 v2 v3 v4 v5 := by
  obtain ⟨o1, o2, o3, o4, o5, os, a1, a2, a3, a4, a5, a6, d1, d2, d3, d4, d5, ho⟩ := C
  obtain ⟨⟨o', ho', hm'⟩, K⟩ := D
  obtain ⟨vs, n, rfl⟩ := srcOk_seq ho
  have ne : ∀ {a : Addr} {o : Obj} {v : Option Value}, (a, o) ∈ l → o.data = .cell v → (a, o) ∈ l' := fun hm hd => K _ hm (off_obj N hm a6 (by dsimp only; rw [hd]; intro e; cases e))
  exact ⟨o1, o2, o3, o4, o5, o', ne a1 d1, ne a2 d2, ne a3 d3, ne a4 d4, ne a5 d5, hm', d1, d2, d3, d4, d5, ho'⟩
/-- an object that is no cell and not the draw's list changes -/
theorem LawC.kept {l l' : List (Addr × Obj)} {L src X : Addr} {oX : Obj} {v1 v2 v3 v4 v5 : Option Value} {h₀ h : Heap} {L' : Addr} (N : News h₀ L' h l) (C : LawC l L src v1 v2 v3 v4 v5) (hX : (X, oX) ∈ l) (hc : ∀ v, oX.data ≠ .cell v) (hs : X ≠ src) (K : ∀ q ∈ l, q.1 ≠ X → q ∈ l') : LawC l' L src v1 v2 v3 v4 v5 := by
  obtain ⟨o1, o2, o3, o4, o5, os, a1, a2, a3, a4, a5, a6, d1, d2, d3, d4, d5, ho⟩ := C
  have ne : ∀ {a : Addr} {o : Obj} {v : Option Value}, (a, o) ∈ l → o.data = .cell v → (a, o) ∈ l' := fun hm hd => K _ hm (off_obj N hm hX (by dsimp only; rw [hd]; exact fun e => hc _ e.symm))
  exact ⟨o1, o2, o3, o4, o5, os, ne a1 d1, ne a2 d2, ne a3 d3, ne a4 d4, ne a5 d5, K _ a6 (Ne.symm hs), d1, d2, d3, d4, d5, ho⟩
theorem store_cell_any {M : Model} {A : Around} {E : Value → Shared → Prop} {s : Shared} {h₀ : Heap} {L a : Addr} {m : Str → Option Value} {cn : Str} {cs : Scope} {ccd : Value} {cl : List (Str × Addr)}
    {x : Str} {v : Value} {Q : Unit → Shared → Prop} {l : List (Addr × Obj)} {c : Addr} {o : Obj} {v₀ : Option Value} (F : Fr h₀ L s.heap m) (N : News h₀ L s.heap l) (hc : cl.lookup x = some c) (hm : (c, o) ∈ l) (hd : o.data = .cell v₀)
    (h : ∀ h' o' l', Fr h₀ L h' m → News h₀ L h' l' → (c, o') ∈ l' → (∀ q ∈ l, q.1 ≠ c → q ∈ l') → o'.data = .cell (some v) → Q () { s with heap := h' })
    (hk : cs.kind = .function := by rfl) (hx : (envX cn cs L a ccd cl).kindOf x = some .cell := by rfl) : wpAny M A (storeName (envX cn cs L a ccd cl) x v) Q E s := by
  obtain ⟨l', N2, K, A'⟩ := reg1 N hm
  exact storeX_C F N2 hc (.head fun q hq => (A' q hq).1) hd (fun h' o' F' N' d' => h h' o' _ F' N' (.head _) (fun q hq hn => .tail _ (K q hq hn)) d') hk hx
theorem LawC.of {h₀ h : Heap} {l : List (Addr × Obj)} {L src : Addr} {o1 o2 o3 o4 o5 os : Obj} {v1 v2 v3 v4 v5 : Option Value} (_N : News h₀ L h l) (a1 : (L + 1, o1) ∈ l) (a2 : (L + 1 + 1, o2) ∈ l) (a3 : (L + 1 + 1 + 1, o3) ∈ l) (a4 : (L + 1 + 1 + 1 + 1, o4) ∈ l) (a5 : (L + 1 + 1 + 1 + 1 + 1, o5) ∈ l) (a6 : (src, os) ∈ l)
    (d1 : o1.data = .cell v1) (d2 : o2.data = .cell v2) (d3 : o3.data = .cell v3) (d4 : o4.data = .cell v4) (d5 : o5.data = .cell v5) (ho : SrcOk os) : LawC l L src v1 v2 v3 v4 v5 := ⟨o1, o2, o3, o4, o5, os, a1, a2, a3, a4, a5, a6, d1, d2, d3, d4, d5, ho⟩
section
variable {l l' : List (Addr × Obj)} {L src : Addr} {v1 v2 v3 v4 v5 v : Option Value} {h₀ h : Heap} {L' : Addr} {o o' : Obj} {v₀ : Option Value}
theorem LawC.src_ne (N : News h₀ L' h l) (C : LawC l L src v1 v2 v3 v4 v5) {c : Addr} (hm : (c, o) ∈ l) (hd : o.data = .cell v₀) : src ≠ c := by
  obtain ⟨o1, o2, o3, o4, o5, os, a1, a2, a3, a4, a5, a6, d1, d2, d3, d4, d5, ho⟩ := C
  obtain ⟨vs, n, rfl⟩ := srcOk_seq ho
  exact off_obj N a6 hm (by dsimp only; rw [hd]; intro e; cases e)
theorem LawC.store1 (N : News h₀ L' h l) (C : LawC l L src v1 v2 v3 v4 v5) (hm : (L + 1, o) ∈ l) (hd : o.data = .cell v₀) (hm' : (L + 1, o') ∈ l') (K : ∀ q ∈ l, q.1 ≠ L + 1 → q ∈ l') (hd' : o'.data = .cell v) : LawC l' L src v v2 v3 v4 v5 := by
  have hs := C.src_ne N hm hd
  obtain ⟨o1, o2, o3, o4, o5, os, a1, a2, a3, a4, a5, a6, d1, d2, d3, d4, d5, ho⟩ := C
  exact ⟨o', o2, o3, o4, o5, os, hm', K _ a2 (by show @Ne Nat _ _; dsimp only; omega), K _ a3 (by show @Ne Nat _ _; dsimp only; omega), K _ a4 (by show @Ne Nat _ _; dsimp only; omega), K _ a5 (by show @Ne Nat _ _; dsimp only; omega), K _ a6 hs, hd', d2, d3, d4, d5, ho⟩
theorem LawC.store2 (N : News h₀ L' h l) (C : LawC l L src v1 v2 v3 v4 v5) (hm : (L + 1 + 1, o) ∈ l) (hd : o.data = .cell v₀) (hm' : (L + 1 + 1, o') ∈ l') (K : ∀ q ∈ l, q.1 ≠ L + 1 + 1 → q ∈ l') (hd' : o'.data = .cell v) : LawC l' L src v1 v v3 v4 v5 := by
  have hs := C.src_ne N hm hd
  obtain ⟨o1, o2, o3, o4, o5, os, a1, a2, a3, a4, a5, a6, d1, d2, d3, d4, d5, ho⟩ := C
  exact ⟨o1, o', o3, o4, o5, os, K _ a1 (by show @Ne Nat _ _; dsimp only; omega), hm', K _ a3 (by show @Ne Nat _ _; dsimp only; omega), K _ a4 (by show @Ne Nat _ _; dsimp only; omega), K _ a5 (by show @Ne Nat _ _; dsimp only; omega), K _ a6 hs, d1, hd', d3, d4, d5, ho⟩
theorem LawC.store3 (N : News h₀ L' h l) (C : LawC l L src v1 v2 v3 v4 v5) (hm : (L + 1 + 1 + 1, o) ∈ l) (hd : o.data = .cell v₀) (hm' : (L + 1 + 1 + 1, o') ∈ l') (K : ∀ q ∈ l, q.1 ≠ L + 1 + 1 + 1 → q ∈ l') (hd' : o'.data = .cell v) : LawC l' L src v1 v2 v v4 v5 := by
  have hs := C.src_ne N hm hd
  obtain ⟨o1, o2, o3, o4, o5, os, a1, a2, a3, a4, a5, a6, d1, d2, d3, d4, d5, ho⟩ := C
  exact ⟨o1, o2, o', o4, o5, os, K _ a1 (by show @Ne Nat _ _; dsimp only; omega), K _ a2 (by show @Ne Nat _ _; dsimp only; omega), hm', K _ a4 (by show @Ne Nat _ _; dsimp only; omega), K _ a5 (by show @Ne Nat _ _; dsimp only; omega), K _ a6 hs, d1, d2, hd', d4, d5, ho⟩
theorem LawC.store4 (N : News h₀ L' h l) (C : LawC l L src v1 v2 v3 v4 v5) (hm : (L + 1 + 1 + 1 + 1, o) ∈ l) (hd : o.data = .cell v₀) (hm' : (L + 1 + 1 + 1 + 1, o') ∈ l') (K : ∀ q ∈ l, q.1 ≠ L + 1 + 1 + 1 + 1 → q ∈ l') (hd' : o'.data = .cell v) : LawC l' L src v1 v2 v3 v v5 := by
  have hs := C.src_ne N hm hd
  obtain ⟨o1, o2, o3, o4, o5, os, a1, a2, a3, a4, a5, a6, d1, d2, d3, d4, d5, ho⟩ := C
  exact ⟨o1, o2, o3, o', o5, os, K _ a1 (by show @Ne Nat _ _; dsimp only; omega), K _ a2 (by show @Ne Nat _ _; dsimp only; omega), K _ a3 (by show @Ne Nat _ _; dsimp only; omega), hm', K _ a5 (by show @Ne Nat _ _; dsimp only; omega), K _ a6 hs, d1, d2, d3, hd', d5, ho⟩
theorem LawC.store5 (N : News h₀ L' h l) (C : LawC l L src v1 v2 v3 v4 v5) (hm : (L + 1 + 1 + 1 + 1 + 1, o) ∈ l) (hd : o.data = .cell v₀) (hm' : (L + 1 + 1 + 1 + 1 + 1, o') ∈ l') (K : ∀ q ∈ l, q.1 ≠ L + 1 + 1 + 1 + 1 + 1 → q ∈ l') (hd' : o'.data = .cell v) : LawC l' L src v1 v2 v3 v4 v := by
  have hs := C.src_ne N hm hd
  obtain ⟨o1, o2, o3, o4, o5, os, a1, a2, a3, a4, a5, a6, d1, d2, d3, d4, d5, ho⟩ := C
  exact ⟨o1, o2, o3, o4, o', os, K _ a1 (by show @Ne Nat _ _; dsimp only; omega), K _ a2 (by show @Ne Nat _ _; dsimp only; omega), K _ a3 (by show @Ne Nat _ _; dsimp only; omega), K _ a4 (by show @Ne Nat _ _; dsimp only; omega), hm', K _ a6 hs, d1, d2, d3, d4, hd', ho⟩
end
theorem drawn_keep {h₀ h : Heap} {L src : Addr} {l l' : List (Addr × Obj)} {os : Obj} (N : News h₀ L h l) (hs : (src, os) ∈ l) (ho : SrcOk os) (D : Drawn src l l') : ∀ q ∈ l, q.2.cls ≠ .type "list" → q ∈ l' := fun q hq hc => D.2 q hq fun e => hc (by
  obtain ⟨vs, n, rfl⟩ := srcOk_seq ho
  have e1 := (N _ hq).1
  rw [e, (N _ hs).1] at e1
  rw [← Option.some.inj e1])
theorem menu_pick {l : List (Addr × Obj)} {r : Value} {A B C : Addr} {t1 t2 t3 t4 t5 t6 : Tok} (h : r ∈ [Value.ref A, .ref B, .ref C]) (ha : (A, tupObj [.str (Str.ofString "a") t1, .str (Str.ofString "b") t2]) ∈ l) (hb : (B, tupObj [.str (Str.ofString "m") t3, .str (Str.ofString "m") t4]) ∈ l) (hc : (C, tupObj [.str (Str.ofString "up") t5, .str (Str.ofString "x9") t6]) ∈ l) :
    ∃ T o t tk1 tk2, r = .ref T ∧ (T, tupObj [.str o tk1, .str t tk2]) ∈ l ∧ (o, t) ∈ menuL := by
  simp only [List.mem_cons, List.not_mem_nil, or_false] at h
  rcases h with rfl | rfl | rfl
  · exact ⟨A, _, _, _, _, rfl, ha, by simp [menuL]⟩
  · exact ⟨B, _, _, _, _, rfl, hb, by simp [menuL]⟩
  · exact ⟨C, _, _, _, _, rfl, hc, by simp [menuL]⟩
theorem tup_ne_list {vs : List Value} : (tupObj vs).cls ≠ .type "list" := by intro e; injection e with e; exact absurd e (by decide)
theorem one_list (w : World) (src th : Addr) (o : Obj) (ho : SrcOk o) (l : List (Addr × Obj)) (hm : (src, o) ∈ l) (vs : List Value) (k : Nat) (hth : (th, listOf vs.toArray k) ∈ l) (hne : th ≠ src) (h1 : 1 ≤ vs.length) (h8 : vs.length ≤ 8) :
    Spec w 300 2 16 [.ref src, .ref th] l (fun r l' => Drawn src l l' ∧ r ∈ vs) := one_any w src th o ho l hm _ vs k hth hne rfl rfl h1 h8
theorem menu_small : ∀ x ∈ menuL, x.1.length ≤ 20 ∧ x.2.length ≤ 20 := by decide +kernel

/-- the value stands for the path -/
noncomputable def PT (l : List (Addr × Obj)) (v : Value) (p : Path) : Prop := ∃ a, v = .ref a ∧ StrTup l a p
theorem PT.mono {l l' : List (Addr × Obj)} {v : Value} {p : Path} (P : PT l v p) (h : ∀ q ∈ l, q.2.cls = .type "tuple" → q ∈ l') : PT l' v p := by
  obtain ⟨a, e, vs, m, s⟩ := P
  exact ⟨a, e, vs, h _ m rfl, s⟩
noncomputable def extraP (o t : Str) (G : Bool) : List Path := if G then [[o, t, Str.ofString "z"], [o ++ Str.ofString "b", t]] else []
noncomputable def pathsP (o t : Str) (G : Bool) : List Path := [[o], [o, t], [o ++ Str.ofString "b"]] ++ extraP o t G
theorem PT.of {h₀ h : Heap} {L : Addr} {l : List (Addr × Obj)} {a : Addr} {vs : List Value} {ns : List Str} (_N : News h₀ L h l) (hm : (a, tupObj vs) ∈ l) (hs : StrsAre vs ns) : PT l (.ref a) ns := ⟨a, rfl, vs, hm, hs⟩
theorem strs1 {a : Str} {t : Tok} : StrsAre [.str a t] [a] := .cons _ _ .nil
theorem strs2 {a b : Str} {t u : Tok} : StrsAre [.str a t, .str b u] [a, b] := .cons _ _ (.cons _ _ .nil)
theorem strs3 {a b c : Str} {t u v : Tok} : StrsAre [.str a t, .str b u, .str c v] [a, b, c] := .cons _ _ (.cons _ _ (.cons _ _ .nil))
theorem LawC.subN {h₀ h : Heap} {L' : Addr} {l l' : List (Addr × Obj)} {L src : Addr} {v1 v2 v3 v4 v5 : Option Value} (C : LawC l L src v1 v2 v3 v4 v5) (_N : News h₀ L' h l') (h : ∀ q ∈ l, q ∈ l') : LawC l' L src v1 v2 v3 v4 v5 := C.sub h
noncomputable def PathsJ (l6 : List (Addr × Obj)) (ps : List Path) (v : Value) (l5 : List (Addr × Obj)) : Prop := ∃ e vs2 k, v = .ref e ∧ (∀ q ∈ l6, q ∈ l5) ∧ (e, listOf vs2.toArray k) ∈ l5 ∧ vs2.length ≤ 20 ∧ All2 (PT l5) vs2 ps
theorem pathsJ_two {h₀ h : Heap} {L e a b : Addr} {l6 l5 : List (Addr × Obj)} {p q : Path} {us vs : List Value} (_N : News h₀ L h l5) (hs : ∀ x ∈ l6, x ∈ l5) (he : (e, listOf #[.ref a, .ref b] 0) ∈ l5) (ha : (a, tupObj us) ∈ l5) (hb : (b, tupObj vs) ∈ l5) (sa : StrsAre us p) (sb : StrsAre vs q) : PathsJ l6 [p, q] (.ref e) l5 :=
  ⟨e, [.ref a, .ref b], 0, rfl, hs, he, by simp, .cons ⟨a, rfl, us, ha, sa⟩ (.cons ⟨b, rfl, vs, hb, sb⟩ .nil)⟩
theorem pathsJ_none {h₀ h : Heap} {L e : Addr} {l6 l5 : List (Addr × Obj)} (_N : News h₀ L h l5) (hs : ∀ x ∈ l6, x ∈ l5) (he : (e, listOf #[] 0) ∈ l5) : PathsJ l6 [] (.ref e) l5 := ⟨e, [], 0, rfl, hs, he, by simp, .nil⟩
theorem add_any {prog : Program} {w : World} {A : Around} {E : Value → Shared → Prop} {s : Shared} {h₀ : Heap} {L a b : Addr} {m : Str → Option Value} {l : List (Addr × Obj)} {us vs : List Value} {k1 k2 : Nat} {Q : Value → Shared → Prop} (F : Fr h₀ L s.heap m) (N : News h₀ L s.heap l) (ha : (a, listOf us.toArray k1) ∈ l) (hb : (b, listOf vs.toArray k2) ∈ l) (hz : us.length + vs.length ≤ 1000)
    (h : ∀ D h', Fr h₀ L h' m → News h₀ L h' ((D, listOf (us ++ vs).toArray 0) :: l) → (∀ p ∈ l, p.1 < D) → Q (.ref D) { s with heap := h' }) : wpAny (model prog w) A (binaryOp .Add (.ref a) (.ref b)) Q E s :=
  kmk_add_lit F N (News.isList N ha) (News.isList N hb) (by simp) h (by rw [PySem.sizeLine_eq]; simp; omega)
theorem paths_all {h₀ h : Heap} {L : Addr} {l l5 l6 : List (Addr × Obj)} {a b c : Value} {vs5 : List Value} {one other : Str} {G : Bool} (_N : News h₀ L h l) (hl : ∀ q ∈ l5, q ∈ l) (K5 : ∀ q ∈ l6, q ∈ l5) (P1 : PT l6 a [one]) (P2 : PT l6 b [one, other]) (P3 : PT l6 c [one ++ Str.ofString "b"]) (A5 : All2 (PT l5) vs5 (extraP one other G)) :
    All2 (PT l) ([a, b, c] ++ vs5) (pathsP one other G) :=
  .cons (P1.mono fun q hq _ => hl q (K5 q hq)) (.cons (P2.mono fun q hq _ => hl q (K5 q hq)) (.cons (P3.mono fun q hq _ => hl q (K5 q hq)) (A5.mono fun _ _ h => h.mono fun q hq _ => hl q hq)))
theorem dict_clsI {w : World} {o : Obj} {kv : List (Int × Value)} (d : o.IsDictOf (PySem.intKind Challenge.rw_up0052_01.row.prog w) kv) : o.cls = .type "dict" := by
  obtain ⟨es, ep, h, _⟩ := d; exact h.1
theorem seen_make {w : World} {A : Around} {E : Value → Shared → Prop} {s : Shared} {h₀ : Heap} {L d a : Addr} {m : Str → Option Value} {l : List (Addr × Obj)} {o : Obj} {vs : List Value} {p : Path} {b : Bool} {Q : Value → Shared → Prop} (F : Fr h₀ L s.heap m) (N : News h₀ L s.heap l) (hm : (a, tupObj vs) ∈ l) (hs : StrsAre vs p) (hd : (d, o) ∈ l) (lo : (d == sysModules) = false)
    (hI : o.IsDictOf (PySem.intKind Challenge.rw_up0052_01.row.prog w) []) (hu : A.units < cLine)
    (h : ∀ h' tk l', Fr h₀ L h' m → News h₀ L h' l' → SeenTab w l' d [(p, b)] → (∀ q ∈ l, q.1 ≠ d → q ∈ l') → Q (.ref d) { s with heap := h', toks := tk }) :
    TupStores Challenge.rw_up0052_01.row.prog w A E d Q [(.ref a, .bool b)] s := by
  have hcls := dict_clsI hI
  obtain ⟨es, ep, hx, hdat, _, hpairs, _⟩ := hI
  have hes : es.toList = [] := by
    have := hpairs.length
    simp at this
    simp [this]
  have hD : s.heap.DictOfH (tupleKind (kS w)) d ([] : List (Path × Addr × Value)) := ⟨o, es, ep, (N _ hd).1, hx, hdat, by rw [hes]; rfl, fun x hx => (by cases hx), List.nodup_nil⟩
  unfold TupStores storeAll
  rw [List.forIn_cons]
  refine wpAny_bind (wpAny_bind (wpAny_dictSet_heap (hsz := Nat.zero_le _) (knd := tupleKind (kS w)) hu (strTupKey N hm hs) hD fun h' hm' hsb => wpAny_pure ?_))
  dsimp only
  rw [List.forIn_nil]
  refine wpAny_pure ?_
  obtain ⟨o', es', ep', ho', hc', hd', he', _, hn'⟩ := hm'
  have ne : ∀ {q : Addr} {us : List Value}, (q, tupObj us) ∈ l → q ≠ d := fun hq => off_cls N hq hd rfl hcls (by decide)
  have keep : ∀ q ∈ l, q.1 ≠ d → q ∈ (l.map fun q => if q.1 = d then (d, o') else q) := fun q hq hqd => List.mem_map.mpr ⟨q, hq, by simp [hqd]⟩
  refine h h' _ (l.map fun q => if q.1 = d then (d, o') else q) (F.change hsb (N _ hd).2.1 (N.fresh hd)) (N.replace hsb ho') ⟨o', es', ep', storedH [] p a (.bool b), lo, List.mem_map.mpr ⟨(d, o), hd, by simp⟩, hc', hd', he', hn', fun x hx => ?_, ?_⟩ keep
  · rw [storedH_new rfl] at hx
    rw [List.mem_singleton.mp hx]
    exact ⟨vs, keep _ hm (ne hm), hs⟩
  · rw [storedH_new rfl]
    rfl
theorem cell_keep {h₀ h : Heap} {L c : Addr} {l l' : List (Addr × Obj)} {oc : Obj} {v : Option Value} (N : News h₀ L h l) (hm : (c, oc) ∈ l) (hd : oc.data = .cell v) (K : ∀ q ∈ l, q.1 ≠ c → q ∈ l') : ∀ q ∈ l, (∀ v, q.2.data ≠ .cell v) → q ∈ l' :=
  fun q hq hc => K q hq (off_obj N hq hm (by dsimp only; rw [hd]; exact hc v))
theorem SeenTab.mono2 {w : World} {l l' : List (Addr × Obj)} {sd : Addr} {S : Seen} (T : SeenTab w l sd S) (h : ∀ q ∈ l, q.2.cls = .type "dict" ∨ q.2.cls = .type "tuple" → (∀ v, q.2.data ≠ .cell v) → q ∈ l') : SeenTab w l' sd S := by
  obtain ⟨o, es, ep, xs, a, b, c, d, e, f, g, i⟩ := T
  exact ⟨o, es, ep, xs, a, h _ b (.inl c.1) (by intro v; rw [d]; intro e; cases e), c, d, e, f, fun x hx => let ⟨vs, p, q⟩ := g x hx; ⟨vs, h _ p (.inr rfl) (by intro v e; cases e), q⟩, i⟩
theorem SeenTab.obj {w : World} {l : List (Addr × Obj)} {sd : Addr} {S : Seen} (T : SeenTab w l sd S) : ∃ o, (sd, o) ∈ l ∧ o.cls = .type "dict" ∧ ∀ v, o.data ≠ .cell v := by
  obtain ⟨o, es, ep, xs, a, b, c, d, _⟩ := T
  exact ⟨o, b, c.1, by intro v; rw [d]; intro e; cases e⟩
/-- the draws: what is told of the ledger stays -/
theorem SeenTab.drawn {w : World} {h₀ h : Heap} {L src : Addr} {l l' : List (Addr × Obj)} {os : Obj} {sd : Addr} {S : Seen} (N : News h₀ L h l) (hs : (src, os) ∈ l) (ho : SrcOk os) (D : Drawn src l l') (T : SeenTab w l sd S) : SeenTab w l' sd S :=
  T.mono2 fun q hq hc _ => drawn_keep N hs ho D q hq (by rcases hc with h | h <;> (rw [h]; intro e; injection e with e; exact absurd e (by decide)))
theorem PT.drawn {h₀ h : Heap} {L src : Addr} {l l' : List (Addr × Obj)} {os : Obj} {ps : List Path} {vs : List Value} (N : News h₀ L h l) (hs : (src, os) ∈ l) (ho : SrcOk os) (D : Drawn src l l') (A : All2 (PT l) vs ps) : All2 (PT l') vs ps :=
  A.mono fun _ _ h => h.mono fun q hq ht => drawn_keep N hs ho D q hq (by rw [ht]; intro e; injection e with e; exact absurd e (by decide))
theorem PT.cell {h₀ h : Heap} {L c : Addr} {l l' : List (Addr × Obj)} {oc : Obj} {v : Option Value} {ps : List Path} {vs : List Value} (N : News h₀ L h l) (hm : (c, oc) ∈ l) (hd : oc.data = .cell v) (K : ∀ q ∈ l, q.1 ≠ c → q ∈ l') (A : All2 (PT l) vs ps) : All2 (PT l') vs ps := by
  refine A.mono fun v p h => ?_
  obtain ⟨a, e, us, m, s⟩ := h
  exact ⟨a, e, us, cell_keep N hm hd K _ m (by intro v e; cases e), s⟩
theorem list_no_cell {vs : Array Value} {n : Nat} : ∀ v, (listOf vs n).data ≠ .cell v := by intro v e; cases e
end

/- G2 -/
section
noncomputable abbrev fS : Str := Str.ofString "f"
inductive Gen : List Path → Seen → Prop
  | root (b : Bool) : Gen [] [([fS], b)]
  | plain {ps : List Path} {S : Seen} (p : Path) (b : Bool) : Gen ps S → Gen (ps ++ [p]) (S ++ [(p, b)])
  | withf {ps : List Path} {S : Seen} (p : Path) (b b' : Bool) : Gen ps S → Gen (ps ++ [p]) ((S ++ [(p, b)]) ++ [(p ++ [fS], b')])
theorem Gen.key {ps : List Path} {S : Seen} (g : Gen ps S) : ∀ x ∈ S, x.1 = [fS] ∨ x.1 ∈ ps ∨ ∃ q ∈ ps, x.1 = q ++ [fS] := by
  induction g with
  | root b => intro x hx; rw [List.mem_singleton.mp hx]; exact .inl rfl
  | plain p b _ ih =>
    intro x hx
    rcases List.mem_append.mp hx with hx | hx
    · rcases ih x hx with h | h | ⟨q, h1, h2⟩
      · exact .inl h
      · exact .inr (.inl (List.mem_append_left _ h))
      · exact .inr (.inr ⟨q, List.mem_append_left _ h1, h2⟩)
    · rw [List.mem_singleton.mp hx]; exact .inr (.inl (by simp))
  | withf p b b' _ ih =>
    intro x hx
    rcases List.mem_append.mp hx with hx | hx
    · rcases List.mem_append.mp hx with hx | hx
      · rcases ih x hx with h | h | ⟨q, h1, h2⟩
        · exact .inl h
        · exact .inr (.inl (List.mem_append_left _ h))
        · exact .inr (.inr ⟨q, List.mem_append_left _ h1, h2⟩)
      · rw [List.mem_singleton.mp hx]; exact .inr (.inl (by simp))
    · rw [List.mem_singleton.mp hx]; exact .inr (.inr ⟨p, by simp, rfl⟩)
theorem Gen.len {ps : List Path} {S : Seen} (g : Gen ps S) : S.length ≤ 2 * ps.length + 1 := by
  induction g with
  | root b => simp
  | plain p b _ ih => simp; omega
  | withf p b b' _ ih => simp; omega
theorem Gen.new {ps : List Path} {S : Seen} (g : Gen ps S) {p : Path} (hp : p ∉ ps) (hf : isFn p = false) : seenAt S p = none := by
  rw [seenAt_none]
  intro h
  obtain ⟨x, hx, e⟩ := List.mem_map.mp h
  have hfn : ∀ q : Path, isFn (q ++ [fS]) = true := fun q => by rw [isFn_snoc]; simp
  rcases g.key x hx with h1 | h1 | ⟨q, _, h1⟩
  · rw [← e, h1] at hf; exact absurd hf (by decide +kernel)
  · exact hp (e ▸ h1)
  · rw [← e, h1, hfn q] at hf; cases hf
theorem Gen.newf {ps : List Path} {S : Seen} (g : Gen ps S) {p : Path} {b : Bool} (hp : p ∉ ps) (hps : ∀ q ∈ ps, isFn q = false) (hf : isFn p = false) (h0 : p ≠ []) : seenAt (S ++ [(p, b)]) (p ++ [fS]) = none := by
  have hfn : ∀ q : Path, isFn (q ++ [fS]) = true := fun q => by rw [isFn_snoc]; simp
  rw [seen_snoc_ne (by intro e; have := congrArg List.length e; simp at this), seenAt_none]
  intro h
  obtain ⟨x, hx, e⟩ := List.mem_map.mp h
  rcases g.key x hx with h1 | h1 | ⟨q, h2, h1⟩
  · rw [h1] at e
    have : p = [] := by
      have h3 : ([] : Path) ++ [fS] = p ++ [fS] := e
      exact (List.append_inj' h3 rfl).1.symm
    exact h0 this
  · have := hps _ h1
    rw [e, hfn p] at this; cases this
  · rw [h1] at e
    exact hp ((List.append_inj' e rfl).1 ▸ h2)

section
variable {l l' : List (Addr × Obj)} {L src I : Addr} {v1 v2 v3 v4 v5 u1 u2 u3 u4 u5 : Option Value} {l0 : List (Addr × Obj)}
theorem LawC.off (C : LawC l L src v1 v2 v3 v4 v5) (C0 : LawC l0 L src u1 u2 u3 u4 u5) (h : ∀ q ∈ l0, q.1 ≠ I) (K : ∀ q ∈ l, q.1 ≠ I → q ∈ l') : LawC l' L src v1 v2 v3 v4 v5 := by
  obtain ⟨o1, o2, o3, o4, o5, os, a1, a2, a3, a4, a5, a6, r⟩ := C
  obtain ⟨_, _, _, _, _, _, b1, b2, b3, b4, b5, b6, _⟩ := C0
  have k : ∀ {a : Addr} {o o' : Obj}, (a, o') ∈ l0 → (a, o) ∈ l → (a, o) ∈ l' := fun {a o o'} b x => K (a, o) x (show a ≠ I from h (a, o') b)
  exact ⟨o1, o2, o3, o4, o5, os, k b1 a1, k b2 a2, k b3 a3, k b4 a4, k b5 a5, k b6 a6, r⟩
end
/-- the loop over the paths -/
inductive PathsLoop (w : World) (src sd pl : Addr) (L : Addr) (v1 v2 v3 v4 v5 : Option Value) (zs : List Value) (ps : List Path) (I : Addr) (m0 : Str → Option Value) (its : List Itm) (m : Str → Option Value) (l : List (Addr × Obj)) : Prop
  | mk : ∀ (vs2 : List Value) (ps1 ps2 : List Path) (S : Seen) (u : Option Value), (its = vs2.map Itm.val) → (All2 (PT l) vs2 ps2) → (ps = ps1 ++ ps2) → (Gen ps1 S) → (SeenTab w l sd S) → (LawC l L src v1 v2 v3 v4 v5) → (All2 (PT l) zs ps) → ((pl, listOf zs.toArray 0) ∈ l) → ((∀ q ∈ l, q.1 ≠ I)) → (m = fun y => if y = Str.ofString "path" then u else m0 y) → PathsLoop w src sd pl L v1 v2 v3 v4 v5 zs ps I m0 its m l
theorem paths_end {w : World} {src sd pl L I : Addr} {v1 v2 v3 v4 v5 u1 u2 u3 u4 u5 : Option Value} {zs vs2 : List Value} {ps ps1 ps2 : List Path} {m0 m' : Str → Option Value} {its : List Itm} {l l0 : List (Addr × Obj)} {S : Seen} {u : Option Value} {oI : Obj} {h₀ h' : Heap} {tk : Nat} {s₁ : Shared}
    (F : Fr h₀ L h' m') (N : News h₀ L h' l) (hI : (I, oI) ∈ l) (hcI : oI.cls = .type "list_iterator") (h0 : ∀ q ∈ l0, q.1 ≠ I) (C0 : LawC l0 L src u1 u2 u3 u4 u5) (hpl0 : (pl, listOf zs.toArray 0) ∈ l0)
    (hits : its = vs2.map Itm.val) (A2 : All2 (PT l) vs2 ps2) (hps : ps = ps1 ++ ps2) (g : Gen ps1 S) (T : SeenTab w l sd S) (C : LawC l L src v1 v2 v3 v4 v5) (A : All2 (PT l) zs ps) (hpl : (pl, listOf zs.toArray 0) ∈ l) (hm : m' = fun y => if y = Str.ofString "path" then u else m0 y) :
    UnrEndW h₀ L s₁ [(I, oI)] (fun m'' n'' => SubL [(pl, listOf zs.toArray 0)] n'' ∧ PathsLoop w src sd pl L v1 v2 v3 v4 v5 zs ps I m0 its m'' n'') { s₁ with heap := h', toks := tk } := by
  have hf : ∀ q ∈ l.filter (fun q => decide (q.1 ≠ I)), q.1 ≠ I ∧ q ∈ l := fun q hq => ⟨by simpa using (List.mem_filter.mp hq).2, (List.mem_filter.mp hq).1⟩
  have K : ∀ q ∈ l, q.1 ≠ I → q ∈ l.filter (fun q => decide (q.1 ≠ I)) := fun q hq hn => List.mem_filter.mpr ⟨hq, by simpa using hn⟩
  have Kt : ∀ q ∈ l, q.2.cls = .type "tuple" → q ∈ l.filter (fun q => decide (q.1 ≠ I)) := fun q hq ht => K q hq (off_cls N hq hI ht hcI (by decide))
  have hplr := K _ hpl (h0 _ hpl0)
  refine ⟨h', tk, m', l.filter (fun q => decide (q.1 ≠ I)), rfl, F, fun p hp => ?_, fun p hp q hq => ?_, And.intro hplr trivial, vs2, ps1, ps2, S, u, hits, A2.mono fun _ _ h => h.mono Kt, hps, g, T.mono2 fun q hq hc _ => ?_, C.off C0 h0 K, A.mono fun _ _ h => h.mono Kt, hplr, fun q hq => (hf q hq).1, hm⟩
  · rcases List.mem_cons.mp hp with rfl | hp
    · exact N _ hI
    · exact N _ (hf p hp).2
  · rw [List.mem_singleton.mp hq]
    exact (hf p hp).1
  · rcases hc with hc | hc
    · exact K q hq (off_cls N hq hI hc hcI (by decide))
    · exact Kt q hq hc
theorem menu_paths : ∀ x ∈ menuL, ∀ G ∈ [true, false], (pathsP x.1 x.2 G).Nodup ∧ ∀ p ∈ pathsP x.1 x.2 G, p ≠ [] ∧ isFn p = false ∧ p.length ≤ 3 := by decide +kernel
/-- what stays of the law's ledger while seen is filled -/
structure LS (w : World) (l : List (Addr × Obj)) (src sd pl L : Addr) (v1 v2 v3 v4 v5 : Option Value) (zs : List Value) (ps : List Path) (S : Seen) : Prop where
  T : SeenTab w l sd S
  C : LawC l L src v1 v2 v3 v4 v5
  A : All2 (PT l) zs ps
  pl : (pl, listOf zs.toArray 0) ∈ l
section
variable {w : World} {l l' : List (Addr × Obj)} {src sd pl L : Addr} {v1 v2 v3 v4 v5 : Option Value} {zs : List Value} {ps : List Path} {S S' : Seen} {h₀ h : Heap}
theorem LS.sub (X : LS w l src sd pl L v1 v2 v3 v4 v5 zs ps S) (_N : News h₀ L h l') (k : ∀ q ∈ l, q ∈ l') : LS w l' src sd pl L v1 v2 v3 v4 v5 zs ps S := ⟨X.T.mono k, X.C.sub k, X.A.mono fun _ _ h => h.mono fun q hq _ => k q hq, k _ X.pl⟩
theorem LS.drawn (N : News h₀ L h l) (X : LS w l src sd pl L v1 v2 v3 v4 v5 zs ps S) (hpl : pl ≠ src) (D : Drawn src l l') : LS w l' src sd pl L v1 v2 v3 v4 v5 zs ps S := by
  obtain ⟨o1, o2, o3, o4, o5, os, a1, a2, a3, a4, a5, a6, r⟩ := X.C
  exact ⟨X.T.drawn N a6 r.2.2.2.2.2 D, X.C.drawn N D, PT.drawn N a6 r.2.2.2.2.2 D X.A, D.2 _ X.pl hpl⟩
theorem LS.set (N : News h₀ L h l) (X : LS w l src sd pl L v1 v2 v3 v4 v5 zs ps S) (T' : SeenTab w l' sd S') (K : ∀ q ∈ l, q.1 ≠ sd → q ∈ l') : LS w l' src sd pl L v1 v2 v3 v4 v5 zs ps S' := by
  obtain ⟨od, hod, hdc, hdd⟩ := X.T.obj
  obtain ⟨o1, o2, o3, o4, o5, os, a1, a2, a3, a4, a5, a6, r⟩ := X.C
  obtain ⟨us, n, e⟩ := srcOk_seq r.2.2.2.2.2
  have hs : sd ≠ src := Ne.symm (off_cls N a6 hod (by rw [e]) hdc (by decide))
  refine ⟨T', X.C.kept N hod hdd hs K, X.A.mono fun _ _ h => h.mono fun q hq ht => K q hq (off_cls N hq hod ht hdc (by decide)), K _ X.pl (off_cls N X.pl hod rfl hdc (by decide))⟩
theorem LS.tup_set (N : News h₀ L h l) (X : LS w l src sd pl L v1 v2 v3 v4 v5 zs ps S) (K : ∀ q ∈ l, q.1 ≠ sd → q ∈ l') : ∀ q ∈ l, q.2.cls = .type "tuple" ∨ q.2.cls = .type "list_iterator" → q ∈ l' := fun q hq hc => by
  obtain ⟨od, hod, hdc, hdd⟩ := X.T.obj
  rcases hc with hc | hc
  · exact K q hq (off_cls N hq hod hc hdc (by decide))
  · exact K q hq (off_cls N hq hod hc hdc (by decide))
theorem LS.tup_drawn (N : News h₀ L h l) (X : LS w l src sd pl L v1 v2 v3 v4 v5 zs ps S) (D : Drawn src l l') : ∀ q ∈ l, q.2.cls = .type "tuple" ∨ q.2.cls = .type "list_iterator" → q ∈ l' := fun q hq hc => by
  obtain ⟨o1, o2, o3, o4, o5, os, a1, a2, a3, a4, a5, a6, r⟩ := X.C
  refine drawn_keep N a6 r.2.2.2.2.2 D q hq ?_
  rcases hc with hc | hc <;> (rw [hc]; intro e; injection e with e; exact absurd e (by decide))
end
noncomputable def LS.J {w : World} {l : List (Addr × Obj)} {src sd pl L : Addr} {v1 v2 v3 v4 v5 : Option Value} {zs : List Value} {ps : List Path} {S : Seen} (_ : LS w l src sd pl L v1 v2 v3 v4 v5 zs ps S) (I : Addr) (m0 : Str → Option Value) (its : List Itm) (m : Str → Option Value) (l1 : List (Addr × Obj)) : Prop := PathsLoop w src sd pl L v1 v2 v3 v4 v5 zs ps I m0 its m l1
theorem LS.hide {w : World} {l : List (Addr × Obj)} {src sd pl L : Addr} {v1 v2 v3 v4 v5 : Option Value} {zs : List Value} {ps : List Path} {S : Seen} (_ : LS w l src sd pl L v1 v2 v3 v4 v5 zs ps S) (I : Addr) : ∃ J, J = PathsLoop w src sd pl L v1 v2 v3 v4 v5 zs ps I := ⟨_, rfl⟩
theorem LS.start {w : World} {l : List (Addr × Obj)} {src sd pl L : Addr} {v1 v2 v3 v4 v5 : Option Value} {zs : List Value} {ps : List Path} {S : Seen} (X : LS w l src sd pl L v1 v2 v3 v4 v5 zs ps S) (g : Gen [] S) {I : Addr} (h : ∀ q ∈ l, q.1 ≠ I) (m : Str → Option Value) : X.J I m (zs.map Itm.val) m l :=
  ⟨zs, [], ps, S, _, rfl, X.A, rfl, g, X.T, X.C, X.A, X.pl, h, over_one rfl⟩
end

/- G3 -/
section
theorem Gen.mem {ps : List Path} {S : Seen} (g : Gen ps S) : ∀ p ∈ ps, p ∈ S.map (·.1) := by
  induction g with
  | root b => intro p hp; cases hp
  | plain p b _ ih =>
    intro q hq
    rw [List.map_append]
    rcases List.mem_append.mp hq with hq | hq
    · exact List.mem_append_left _ (ih q hq)
    · rw [List.mem_singleton.mp hq]; simp
  | withf p b b' _ ih =>
    intro q hq
    rw [List.map_append, List.map_append]
    rcases List.mem_append.mp hq with hq | hq
    · exact List.mem_append_left _ (List.mem_append_left _ (ih q hq))
    · rw [List.mem_singleton.mp hq]; simp
theorem nodup_snoc {S : Seen} {q : Path} {b : Bool} (h : (S.map (·.1)).Nodup) (h0 : seenAt S q = none) : ((S ++ [(q, b)]).map (·.1)).Nodup := by
  rw [List.map_append]
  refine List.nodup_append.mpr ⟨h, by simp, fun y hy z hz e => ?_⟩
  have hz' : z = q := by simpa using hz
  exact seenAt_none.mp h0 (hz' ▸ e ▸ hy)
theorem Gen.nodup {ps : List Path} {S : Seen} (g : Gen ps S) : ps.Nodup → (∀ p ∈ ps, p ≠ [] ∧ isFn p = false) → (S.map (·.1)).Nodup := by
  induction g with
  | root b => intro _ _; simp
  | plain p b g ih =>
    intro hn hf
    have hn' := List.nodup_append.mp hn
    have hp : p ∉ _ := fun h => hn'.2.2 p h p (by simp) rfl
    exact nodup_snoc (ih hn'.1 fun q hq => hf q (List.mem_append_left _ hq)) (g.new hp (hf p (by simp)).2)
  | withf p b b' g ih =>
    intro hn hf
    have hn' := List.nodup_append.mp hn
    have hp : p ∉ _ := fun h => hn'.2.2 p h p (by simp) rfl
    exact nodup_snoc (nodup_snoc (ih hn'.1 fun q hq => hf q (List.mem_append_left _ hq)) (g.new hp (hf p (by simp)).2)) (g.newf hp (fun q hq => (hf q (List.mem_append_left _ hq)).2) (hf p (by simp)).2 (hf p (by simp)).1)
theorem menu_univ : ∀ x ∈ menuL, ∀ G ∈ [true, false], [fS] ∈ univL x.1 x.2 ∧ ∀ p ∈ pathsP x.1 x.2 G, p ∈ univL x.1 x.2 ∧ p ++ [fS] ∈ univL x.1 x.2 ∧ p ∈ modsL x.1 x.2 ∧ (p.dropLast = [] ∨ p.dropLast ∈ pathsP x.1 x.2 G) := by decide +kernel
theorem gen_uni {o t : Str} (hm : (o, t) ∈ menuL) : Uni ([] :: univL o t) where
  nil := .head _
  inj := fun p hp q hq => menu_inj _ hm p hp q hq
  len := fun p hp => (menu_len _ hm p hp).1
theorem gen_ok {o t : Str} {G : Bool} {S : Seen} (hm : (o, t) ∈ menuL) (g : Gen (pathsP o t G) S) : SeenOk ([] :: univL o t) S := by
  obtain ⟨hn, hf⟩ := menu_paths _ hm G (by cases G <;> simp)
  obtain ⟨hu0, hu⟩ := menu_univ _ hm G (by cases G <;> simp)
  dsimp only at hn hf hu0 hu
  have hlen : (pathsP o t G).length ≤ 5 := by cases G <;> simp [pathsP, extraP]
  have hU : ∀ x ∈ S, x.1 ∈ univL o t := fun x hx => by
    rcases g.key x hx with h | h | ⟨q, h1, h2⟩
    · rw [h]; exact hu0
    · exact (hu _ h).1
    · rw [h2]; exact (hu _ h1).2.1
  refine ⟨by have := g.len; omega, fun x hx => ?_, g.nodup hn fun p hp => ⟨(hf p hp).1, (hf p hp).2.1⟩, fun x hx => .tail _ (hU x hx), fun x hx => ?_, fun x hx n hl => ?_⟩
  · rcases g.key x hx with h | h | ⟨q, h1, h2⟩
    · rw [h]; simp
    · exact ⟨(hf _ h).1, Nat.le_trans (hf _ h).2.2 (by decide)⟩
    · rw [h2]; exact ⟨by simp, by have := (hf _ h1).2.2; simp; omega⟩
  · rcases g.key x hx with h | h | ⟨q, h1, h2⟩
    · rw [h]; exact ⟨by decide +kernel, .inl rfl⟩
    · rcases (hu _ h).2.2.2 with e | e
      · rw [e]; exact ⟨by decide +kernel, .inl rfl⟩
      · exact ⟨(hf _ e).2.1, .inr (seenAt_isSome.mpr (g.mem _ e))⟩
    · rw [h2, List.dropLast_concat]
      exact ⟨(hf _ h1).2.1, .inr (seenAt_isSome.mpr (g.mem _ h1))⟩
  · have h := menu_names _ hm _ (hU x hx) n (List.mem_of_getLast? hl)
    exact ⟨h.2.1, h.2.2⟩
end

/- G4 -/
section
theorem dict_nc {w : World} {o : Obj} {kv : List (Str × Value)} (d : o.IsDictOf (kS w) kv) : ∀ v, o.data ≠ .cell v := by
  obtain ⟨es, ep, _, h, _⟩ := d
  intro v
  rw [h]
  intro e
  cases e
noncomputable def Solid (q : Addr × Obj) : Prop := (q.2.cls = .type "dict" ∨ ∃ a, q.2.cls = .ref a) ∧ ∀ v, q.2.data ≠ .cell v
theorem StrDict.solid {w : World} {l l' : List (Addr × Obj)} {d : Addr} {kv : List (Str × Value)} (D : StrDict w l d kv) (h : ∀ q ∈ l, Solid q → q ∈ l') : StrDict w l' d kv := by
  obtain ⟨o, m, s, k⟩ := D
  exact ⟨o, h _ m ⟨.inl (dict_cls k), dict_nc k⟩, s, k⟩
theorem TableAt.solid {w : World} {l l' : List (Addr × Obj)} {tb : Addr} {kT kV : List (Str × Value)} (D : TableAt w l tb kT kV) (h : ∀ q ∈ l, Solid q → q ∈ l') : TableAt w l' tb kT kV := by
  obtain ⟨td, ty, va, us, k1, k2, k3, n, a, b, c, d, e⟩ := D
  exact ⟨td, ty, va, us, k1, k2, k3, n, h _ a ⟨.inr ⟨_, rfl⟩, by intro v e; cases e⟩, h _ b ⟨.inl rfl, by intro v e; cases e⟩, c.solid h, d.solid h, e.solid h⟩
/-- what find asks for stays while dicts and instances stay -/
theorem ModsU.solid {w : World} {l l' : List (Addr × Obj)} {mo dx : Addr} {S : Seen} (M : ModsU w l mo dx S) (h : ∀ q ∈ l, Solid q → q ∈ l') : ModsU w l' mo dx S := by
  obtain ⟨rest, k1, k2, k3, k4, k5, k6, ka, pa, ta, ga, ia, ke, hr, hdx, hne, hmo, kvK, kvB, kvP, hK, hB, hP, h1, h2, h3⟩ := M
  open Classical in
  have hs : ∀ q ∈ rest, Solid q → q ∈ rest.filter (fun q => decide (q ∈ l')) := fun q hq hs => List.mem_filter.mpr ⟨hq, by simpa using h q (hr q hq) hs⟩
  open Classical in
  refine ⟨rest.filter (fun q => decide (q ∈ l')), k1, k2, k3, k4, k5, k6, ka, pa, ta, ga, ia, ke, fun q hq => by simpa using (List.mem_filter.mp hq).2, h _ hdx ⟨.inl rfl, by intro v e; cases e⟩, fun q hq => hne q (List.mem_filter.mp hq).1, hs _ hmo ⟨.inr ⟨_, rfl⟩, by intro v e; cases e⟩, kvK, kvB, kvP, hK.solid hs, hB.solid hs, hP.solid hs, ?_, h2, h3⟩
  intro p hp
  obtain ⟨a, b, tb, kvT, kvV, c, d, e⟩ := h1 p hp
  exact ⟨a, b, tb, kvT, kvV, c, d.solid hs, e⟩
end

/- G5 -/
section
/-- a pair that is asked: the asking module's path and the names -/
noncomputable def AskAt (l : List (Addr × Obj)) (v : Value) (x : Path × List Str) : Prop := ∃ T a n, v = .ref T ∧ (T, tupObj [.ref a, .ref n]) ∈ l ∧ StrTup l a x.1 ∧ StrTup l n x.2
theorem AskAt.mono {l l' : List (Addr × Obj)} {v : Value} {x : Path × List Str} (P : AskAt l v x) (h : ∀ q ∈ l, q.2.cls = .type "tuple" → q ∈ l') : AskAt l' v x := by
  obtain ⟨T, a, n, e, m, ⟨u1, m1, s1⟩, ⟨u2, m2, s2⟩⟩ := P
  exact ⟨T, a, n, e, h _ m rfl, ⟨u1, h _ m1 rfl, s1⟩, ⟨u2, h _ m2 rfl, s2⟩⟩
theorem strs4 {a b c d : Str} {t u v x : Tok} : StrsAre [.str a t, .str b u, .str c v, .str d x] [a, b, c, d] := .cons _ _ (.cons _ _ (.cons _ _ (.cons _ _ .nil)))
theorem AskAt.of {h₀ h : Heap} {L T a n : Addr} {l : List (Addr × Obj)} {us vs : List Value} {p : Path} {ns : List Str} (_N : News h₀ L h l) (hT : (T, tupObj [.ref a, .ref n]) ∈ l) (ha : (a, tupObj us) ∈ l) (hn : (n, tupObj vs) ∈ l) (sa : StrsAre us p) (sn : StrsAre vs ns) : AskAt l (.ref T) (p, ns) := ⟨T, a, n, rfl, hT, ⟨us, ha, sa⟩, ⟨vs, hn, sn⟩⟩
noncomputable def aheadL : List (List Str) := [[], [Str.ofString "crate"], [Str.ofString "self"], [Str.ofString "super"], [Str.ofString "super", Str.ofString "super"], [Str.ofString "super", Str.ofString "super", Str.ofString "super"], [Str.ofString "self", Str.ofString "super"]]
noncomputable def downL (o t : Str) : List Str := [o, t, o ++ Str.ofString "b", Str.ofString "z", Str.ofString "super"]
/-- what may be asked -/
structure Asked (o t : Str) (G : Bool) (x : Path × List Str) : Prop where
  asker : x.1 ∈ [] :: pathsP o t G
  names : ∃ ah ∈ aheadL, ∃ dn : List Str, dn.length ≤ 2 ∧ (∀ n ∈ dn, n ∈ downL o t) ∧ x.2 = ah ++ dn ++ [fS]
theorem menu_down : ∀ x ∈ menuL, ∀ n ∈ downL x.1 x.2, n ≠ fS ∧ preludeL.any (· == n) = false ∧ n.length ≤ 20 := by decide +kernel
theorem ahead_ok : ∀ ah ∈ aheadL, ah.length ≤ 3 ∧ ∀ n ∈ ah, n ≠ fS ∧ preludeL.any (· == n) = false ∧ n.length ≤ 20 := by decide +kernel
theorem fS_ok : preludeL.any (· == fS) = false ∧ fS.length ≤ 20 := by decide +kernel
theorem sum_le {l : List Str} {k : Nat} (h : ∀ n ∈ l, n.length ≤ k) : (l.map (·.length)).sum ≤ l.length * k := by
  induction l with
  | nil => simp
  | cons a l ih =>
    have h1 := h a (.head _)
    have h2 := ih fun n hn => h n (.tail _ hn)
    simp only [List.map_cons, List.sum_cons, List.length_cons, Nat.succ_mul]
    omega
theorem Asked.ok {o t : Str} {G : Bool} {x : Path × List Str} (hm : (o, t) ∈ menuL) (A : Asked o t G x) : LeftOk x.2 ∧ x.2.length ≤ 100 ∧ (x.2.map (·.length)).sum ≤ 10000 ∧ ∀ n ∈ x.2, preludeL.any (· == n) = false := by
  obtain ⟨ah, hah, dn, hl, hdn, e⟩ := A.names
  obtain ⟨a1, a2⟩ := ahead_ok ah hah
  have hall : ∀ n ∈ x.2, preludeL.any (· == n) = false ∧ n.length ≤ 20 := fun n hn => by
    rw [e] at hn
    rcases List.mem_append.mp hn with hn | hn
    · rcases List.mem_append.mp hn with hn | hn
      · exact (a2 n hn).2
      · exact (menu_down _ hm n (hdn n hn)).2
    · rw [List.mem_singleton.mp hn]; exact fS_ok
  have hlen : x.2.length ≤ 6 := by rw [e]; simp; omega
  refine ⟨⟨ah ++ dn, e, fun h => ?_⟩, by omega, ?_, fun n hn => (hall n hn).1⟩
  · rcases List.mem_append.mp h with h | h
    · exact (a2 _ h).1 rfl
    · exact (menu_down _ hm _ (hdn _ h)).1 rfl
  · have := sum_le (l := x.2) (k := 20) fun n hn => (hall n hn).2
    have : x.2.length * 20 ≤ 6 * 20 := Nat.mul_le_mul_right _ hlen
    omega
end

/- G6 -/
section
theorem menu_modsG : ∀ x ∈ menuL, ∀ G ∈ [true, false], ∀ p ∈ [] :: pathsP x.1 x.2 G, p ∈ modsL x.1 x.2 ∧ (p ≠ [] → p.dropLast ∈ [] :: pathsP x.1 x.2 G) := by decide +kernel
theorem gen_mod {o t : Str} {G : Bool} {S : Seen} (hm : (o, t) ∈ menuL) (g : Gen (pathsP o t G) S) {p : Path} (hp : p ∈ [] :: pathsP o t G) : isMod S p := by
  obtain ⟨hn, hf⟩ := menu_paths _ hm G (by cases G <;> simp)
  rcases List.mem_cons.mp hp with rfl | hp
  · exact .inl rfl
  · exact .inr ⟨seenAt_isSome.mpr (g.mem _ hp), (hf _ hp).2.1⟩
theorem mod_gen {o t : Str} {G : Bool} {S : Seen} (g : Gen (pathsP o t G) S) {p : Path} (hp : isMod S p) : p ∈ [] :: pathsP o t G := by
  rcases hp with rfl | ⟨h, hf⟩
  · exact .head _
  · obtain ⟨x, hx, e⟩ := List.mem_map.mp (seenAt_isSome.mp h)
    rcases g.key x hx with h1 | h1 | ⟨q, h1, h2⟩
    · rw [← e, h1] at hf; exact absurd hf (by decide +kernel)
    · exact .tail _ (e ▸ h1)
    · rw [← e, h2, isFn_snoc] at hf; simp at hf
theorem prefix_up {P : Path → Prop} (hd : ∀ p, P p → p ≠ [] → P p.dropLast) : ∀ (n : Nat) (p q : Path), q.length ≤ n → P q → p <+: q → P p
  | 0, p, q, hn, hq, h => by
    have : q = [] := List.eq_nil_of_length_eq_zero (Nat.le_zero.mp hn)
    subst this
    rw [List.prefix_nil.mp h]; exact hq
  | n + 1, p, q, hn, hq, h => by
    by_cases e : p = q
    · rw [e]; exact hq
    · have hq0 : q ≠ [] := fun e2 => by rw [e2] at h; exact e (by rw [List.prefix_nil.mp h, e2])
      have hlt : p.length < q.length := by
        rcases Nat.lt_or_ge p.length q.length with h1 | h1
        · exact h1
        · exact absurd (h.eq_of_length_le h1) e
      refine prefix_up hd n p q.dropLast (by rw [List.length_dropLast]; omega) (hd q hq hq0) ?_
      obtain ⟨t, rfl⟩ := h
      have ht : t ≠ [] := fun e2 => e (by rw [e2]; simp)
      rw [List.dropLast_append_of_ne_nil ht]
      exact List.prefix_append _ _
theorem gen_ask {o t : Str} {G : Bool} {S : Seen} (hm : (o, t) ∈ menuL) (g : Gen (pathsP o t G) S) {asker : Path} (ha : asker ∈ [] :: pathsP o t G) : AskOk S asker := by
  intro p hp
  have hin : p ∈ [] :: pathsP o t G := prefix_up (P := fun p => p ∈ [] :: pathsP o t G) (fun p hp h0 => (menu_modsG _ hm G (by cases G <;> simp) p hp).2 h0) asker.length p asker (Nat.le_refl _) ha hp
  refine ⟨gen_mod hm g hin, fun h0 => ?_⟩
  have hmods := (menu_modsG _ hm G (by cases G <;> simp) p hin).1
  refine ⟨menu_parent _ hm p hmods h0, (menu_len _ hm p ?_).2 h0⟩
  rcases List.mem_cons.mp hin with rfl | hin
  · exact .head _
  · exact .tail _ ((menu_univ _ hm G (by cases G <;> simp)).2 p hin).1
theorem gen_wq {o t : Str} {G : Bool} {S : Seen} (hm : (o, t) ∈ menuL) (g : Gen (pathsP o t G) S) {asker : Path} (ha : asker ∈ [] :: pathsP o t G) : ∀ p, isMod S p → withinF (pth asker) (pth p) = decide (asker.take p.length = p) := fun p hp =>
  menu_within _ hm asker (menu_modsG _ hm G (by cases G <;> simp) asker ha).1 p (menu_modsG _ hm G (by cases G <;> simp) p (mod_gen g hp)).1
theorem gen_jq {o t : Str} {G : Bool} {S : Seen} (hm : (o, t) ∈ menuL) (g : Gen (pathsP o t G) S) : ∀ p, (seenAt S p).isSome = true → Txt.join (Str.ofString "::") p = pth p ∧ p.length ≤ 20 ∧ (p.map (·.length)).sum ≤ 10000 := fun p hp => by
  obtain ⟨x, hx, e⟩ := List.mem_map.mp (seenAt_isSome.mp hp)
  have := (gen_ok hm g).uni x hx
  rw [e] at this
  exact menu_join _ hm p this
end

/- G7 -/
section
theorem Gen.root_seen {ps : List Path} {S : Seen} (g : Gen ps S) : (seenAt S [fS]).isSome = true := by
  rw [seenAt_isSome]
  induction g with
  | root b => simp
  | plain p b _ ih => rw [List.map_append]; exact List.mem_append_left _ ih
  | withf p b b' _ ih => rw [List.map_append, List.map_append]; exact List.mem_append_left _ (List.mem_append_left _ ih)
theorem goP_f {S : Seen} {asker : Path} (h : (seenAt S [fS]).isSome = true) : goP S asker [] [fS] = .ok [fS] := by
  obtain ⟨b, hb⟩ := Option.isSome_iff_exists.mp h
  have hw : withinF (pth asker) (pth []) = true := by
    unfold withinF
    rw [show pth [] = Str.ofString "" from rfl]
    simp
  have hn : nextP S [] fS (!([] : List Str).isEmpty) = some b := by
    unfold nextP
    simp [hb]
  unfold goP
  rw [hn]
  simp [hw, goP]
theorem told_one {S : Seen} {o : Str} (h : (seenAt S [fS]).isSome = true) : findP S [o] [Str.ofString "super", fS] = .ok [fS] := by
  unfold findP
  rw [begin_super, supP_hit (by simp) (by simp)]
  rw [supP_end (by decide +kernel)]
  exact goP_f h
theorem told_two {S : Seen} {o t : Str} (h : (seenAt S [fS]).isSome = true) : findP S [o, t] [Str.ofString "self", Str.ofString "super", Str.ofString "super", fS] = .ok [fS] := by
  unfold findP
  rw [begin_self, supP_hit (by simp) (by simp), supP_hit (by simp) (by simp)]
  rw [supP_end (by decide +kernel)]
  exact goP_f h
theorem told_str : resStr (.ok [fS]) = Str.ofString "f" := by decide +kernel
theorem told_ok1 : LeftOk [Str.ofString "super", fS] := ⟨[Str.ofString "super"], rfl, by decide +kernel⟩
theorem told_ok2 : LeftOk [Str.ofString "self", Str.ofString "super", Str.ofString "super", fS] := ⟨[Str.ofString "self", Str.ofString "super", Str.ofString "super"], rfl, by decide +kernel⟩
end

/- CR -/
section
open PyProof.Rows.LCg
section
variable {prog : Program} {w : World} {A : Around} {E : Value → Shared → Prop} {s : Shared} {h₀ : Heap} {L : Addr} {m : Str → Option Value} {env : Env}
/-- the turns of a comprehension without tests, by induction -/
theorem crest_ind {elt : PySem.Expr} {scope : Scope} {cl : List (Str × Addr)} {Tg : Value → (Str → Option Value) → Prop} {S : List (Addr × Obj) → Prop} {P : Nat → Value → Prop} {Fin : List Value → List (Addr × Obj) → Prop} {n : Nat}
    (J : Nat → List Value → List (Addr × Obj) → Prop) (fin : ∀ ys news, J n ys news → Fin ys news)
    (turn : ∀ i ys news, i < n → J i ys news → ∀ v I oI C oC D m₂ h tk (E' : Value → Shared → Prop), P i v → NsObj oC m₂ → Tg v m₂ → Fr h₀ L h m → News h₀ L h ((I, oI) :: (C, oC) :: (D, lst ys) :: news) → S news → Off3 I C D news → ((@Ne Nat I C) ∧ (@Ne Nat I D) ∧ (@Ne Nat C D)) →
      wpAny (model prog w) A (eval elt (compEnvC scope cl C env)) (CompEnd h₀ L m { s with heap := h, toks := tk } I oI C oC D (lst ys) S (fun y news' => J (i + 1) (ys ++ [y]) news')) E' { s with heap := h, toks := tk }) :
    ∀ k i ys news, i + k = n → J i ys news → CRest prog w A h₀ L m env elt [] scope cl Tg s S P Fin k i ys news
  | 0, i, ys, news, e, j => by
    have e' : i = n := by omega
    subst e'
    exact fin ys news j
  | k + 1, i, ys, news, e, j => by
    intro v I oI C oC D m₂ h tk E' hP hC hT F N hS off ne
    refine wpAny_tests_nil ?_
    simp only [if_true]
    refine wpAny_mono (turn i ys news (by omega) j v I oI C oC D m₂ h tk E' hP hC hT F N hS off ne) (fun y s₂ h₂ => ?_) fun _ _ e => e
    obtain ⟨h', tk', n', e1, e2, e3, e4, e5, e6⟩ := h₂
    exact ⟨h', tk', n', e1, e2, e3, e4, e5, crest_ind J fin turn k (i + 1) (ys ++ [y]) n' (by omega) e6⟩
/-- what the iterated expression must give: a range -/
noncomputable def RSrc (prog : Program) (w : World) (A : Around) (h₀ : Heap) (L : Addr) (m : Str → Option Value) (env : Env) (elt : PySem.Expr) (ifs : List PySem.Expr) (target : PySem.Expr) (scope : Scope) (cl : List (Str × Addr)) (Tg : Value → (Str → Option Value) → Prop)
    (Q : Value → Shared → Prop) (xv : Value) (s₁ : Shared) : Prop :=
  ∃ (r : Addr) (a b : Int) (t u v : Tok) (n : Nat) (S : List (Addr × Obj) → Prop) (news : List (Addr × Obj)), xv = .ref r ∧ A.handled = none ∧ Fr h₀ L s₁.heap m ∧ News h₀ L s₁.heap news ∧ IsRange s₁.heap r a b 1 t u v ∧ Builtin.Range.small a b 1 = true ∧ Builtin.Range.rangeSize a b 1 = ((n : Nat) : Int) ∧ n ≤ sizeLine ∧ S news ∧
    (∀ (i : Nat) (v : Value) (s' : Shared) (C : Addr) (m' : Str → Option Value) (news' : List (Addr × Obj)) (Q : Unit → Shared → Prop) (E : Value → Shared → Prop), (∃ t, v = .int (a + (i : Int)) t) → S news' → News h₀ L s'.heap news' → s'.heap.Ns C m' →
      (∀ h' tk m'', h'.Ns C m'' → Tg v m'' → (∀ c o, c ≠ C → s'.heap.get? c = some o → h'.get? c = some o) → Q () { s' with heap := h', toks := tk }) → wpAny (model prog w) A (assign target (compEnvC scope cl C env) v) Q E s') ∧
    ∀ g : Heap, CRest prog w A h₀ L m env elt ifs scope cl Tg { s₁ with heap := g } S (fun (i : Nat) (v : Value) => ∃ t, v = .int (a + (i : Int)) t) (FinE h₀ L m { s₁ with heap := g } Q) n 0 [] news

/-- as RSrc, for a comprehension whose value is stored -/
noncomputable def RSrcA (prog : Program) (w : World) (A : Around) (h₀ : Heap) (L : Addr) (m : Str → Option Value) (env : Env) (elt : PySem.Expr) (ifs : List PySem.Expr) (target : PySem.Expr) (scope : Scope) (cl : List (Str × Addr)) (Tg : Value → (Str → Option Value) → Prop) (y : Str)
    (Q : Flow → Shared → Prop) (xv : Value) (s₁ : Shared) : Prop :=
  ∃ (r : Addr) (a b : Int) (t u v : Tok) (n : Nat) (S : List (Addr × Obj) → Prop) (news : List (Addr × Obj)), xv = .ref r ∧ A.handled = none ∧ Fr h₀ L s₁.heap m ∧ News h₀ L s₁.heap news ∧ IsRange s₁.heap r a b 1 t u v ∧ Builtin.Range.small a b 1 = true ∧ Builtin.Range.rangeSize a b 1 = ((n : Nat) : Int) ∧ n ≤ sizeLine ∧ S news ∧
    (∀ (i : Nat) (v : Value) (s' : Shared) (C : Addr) (m' : Str → Option Value) (news' : List (Addr × Obj)) (Q : Unit → Shared → Prop) (E : Value → Shared → Prop), (∃ t, v = .int (a + (i : Int)) t) → S news' → News h₀ L s'.heap news' → s'.heap.Ns C m' →
      (∀ h' tk m'', h'.Ns C m'' → Tg v m'' → (∀ c o, c ≠ C → s'.heap.get? c = some o → h'.get? c = some o) → Q () { s' with heap := h', toks := tk }) → wpAny (model prog w) A (assign target (compEnvC scope cl C env) v) Q E s') ∧
    ∀ g : Heap, CRest prog w A h₀ L m env elt ifs scope cl Tg { s₁ with heap := g } S (fun (i : Nat) (v : Value) => ∃ t, v = .int (a + (i : Int)) t) (FinA h₀ L m { s₁ with heap := g } y Q) n 0 [] news
theorem assign_comp_range {elt iter target : PySem.Expr} {y : Str} {py : Pos} {ifs : List PySem.Expr} {scope : Scope} {cl : List (Str × Addr)} {pos spos : Pos} {Q : Flow → Shared → Prop} (Tg : Value → (Str → Option Value) → Prop) (_F₀ : Fr h₀ L s.heap m) (hLe : env.locals = L)
    (hsw : swapsWith (.ListComp elt [⟨target, iter, ifs, 0⟩] scope pos) (some (.Name y py)) spos.line env = pure true)
    (hclos : closureFor scope env = pure cl) (hcell : ∀ y ∈ scope.names, y.2 ≠ .cell) (hkind : scope.kind = .function)
    (hnames : ∀ y ∈ scope.names, y.2 = .local → scope.names.lookup y.1 = some .local)
    (hy : env.kindOf y = some .local) (hp : (env.scope.kind == .class || (env.scope.kind == .module && env.locals != env.globals)) = false)
    (h : wpAny (model prog w) A (eval iter env) (RSrcA prog w A h₀ L m env elt ifs target scope cl Tg y Q) E s)
    (hs : ∀ x, foldedSetIterable iter env x = pure x := by intro _; rfl) :
    wpAny (model prog w) A (exec (.Assign [.Name y py] (.ListComp elt [⟨target, iter, ifs, 0⟩] scope pos) spos) env) Q E s := by
  subst hLe
  rw [exec_Assign_Name_used _ _ _ _ hsw]
  refine wpAny_bind (wpAny_standAt (wpAny_bind ?_))
  show wpAny _ A (do let _ ← comprehension (.ListComp elt [⟨target, iter, ifs, 0⟩] scope pos) scope env _ (newList []) false (eval iter env) (some (assign (.Name y py) env))) _ _ s
  refine wpAny_bind (wpAny_mono (wpAny_comprehension_free (use := some (assign (.Name y py) env)) (Q := fun _ s' => Q .next s') rfl hs hclos hkind hnames
    (wpAny_mono h (fun xv s₁ h₁ => ?_) fun _ _ e => e)) (fun _ s' hq => wpAny_pure (wpAny_pure hq)) fun _ _ e => e)
  obtain ⟨r, a, b, t, u, v, n, S, news, rfl, hh, F, N, hr, hsm, hn, hsz, hS, hasg, R⟩ := h₁
  refine wpAny_pyIter_range hr hsm ?_
  refine cb_block (P := fun (i : Nat) (v : Value) => ∃ t, v = .int (a + (i : Int)) t) (Tg := Tg) (n := n) (range_walks hh a n) hsz (fun i h st => ⟨_, st⟩) (fun i v s Q E st q => letGo_rg st q) hasg
    (fun i h h' o nw st e e' kp N' _ => range_st i h h' o nw st e e' kp N' trivial) hcell hkind (by show IsRangeIter _ _ _ _ _; rw [hn]; simpa using Heap.get?_push_size _ rfl) (fun b hb => ?_)
    (F.keeps fun _ _ e => Heap.get?_push_of_some _ e) (N.grown fun _ _ e => Heap.get?_push_of_some _ e) (Nat.ne_of_lt F.ns.lt) (next_is_new F) (fun p hp => Nat.ne_of_lt (Heap.lt_size (N p hp).1)) hS (R _) ?_
  · rw [List.mem_singleton.mp hb]
    show s₁.heap.objs.size < (s₁.heap.push _).objs.size
    rw [Heap.size_push]; exact Nat.lt_succ_self _
  · intro D C h' tk m' ys news' F' N' o1 hn hC₀ hD₀ hCL hDL hCD offC fin
    show wpAny _ A (assign (.Name y py) env (.ref D)) _ _ _
    refine wpAny_assign_Name (wpAny_storeName_local hy F'.ns (fun h₂ hn₂ hs₂ => ?_) hp)
    have hL₀ : h₀.get? env.locals = none := Heap.get?_none_of_le F'.above
    have F₂ : Fr h₀ env.locals h₂ (fun z => if z = y then some (.ref D) else m z) := ⟨hn₂, fun b o e => hs₂.extBut b o (fun q => by rw [q, hL₀] at e; cases e) (F'.keep b o e), F'.above⟩
    refine ⟨m', hn.sameBut hs₂ hCL, fun h'' hs'' => fin D h'' _ (F₂.change hs'' hCL hC₀) (fun p hp => ?_) o1⟩
    have z : h₂.get? p.1 = some p.2 := hs₂.extBut _ _ (N' p hp).2.1 (N' p hp).1
    refine ⟨hs''.extBut _ _ ?_ z, (N' p hp).2⟩
    rcases List.mem_cons.mp hp with rfl | hp
    · exact Ne.symm hCD
    · exact offC p hp
end
end

/- G8 -/
section
open PyProof.Rows.LCg
/-- what stays of the law's ledger while the pairs to ask are drawn -/
structure AS (w : World) (l : List (Addr × Obj)) (src sd pl L mo dx ak : Addr) (v1 v2 v3 v4 v5 : Option Value) (zs : List Value) (ps : List Path) (S : Seen) (ask : List Value) (n : Nat) (xs : List (Path × List Str)) : Prop where
  X : LS w l src sd pl L v1 v2 v3 v4 v5 zs ps S
  M : ModsU w l mo dx S
  A : All2 (AskAt l) ask xs
  ak : (ak, listOf ask.toArray n) ∈ l
section
variable {w : World} {l l' : List (Addr × Obj)} {src sd pl L mo dx ak : Addr} {v1 v2 v3 v4 v5 : Option Value} {zs ask : List Value} {ps : List Path} {S : Seen} {n : Nat} {xs : List (Path × List Str)} {h₀ h : Heap}
theorem AS.sub (Z : AS w l src sd pl L mo dx ak v1 v2 v3 v4 v5 zs ps S ask n xs) (N : News h₀ L h l') (k : ∀ q ∈ l, q ∈ l') : AS w l' src sd pl L mo dx ak v1 v2 v3 v4 v5 zs ps S ask n xs :=
  ⟨Z.X.sub N k, Z.M.solid fun q hq _ => k q hq, Z.A.mono fun _ _ h => h.mono fun q hq _ => k q hq, k _ Z.ak⟩
/-- a draw keeps all that is no list -/
theorem LS.keep (N : News h₀ L h l) (X : LS w l src sd pl L v1 v2 v3 v4 v5 zs ps S) (D : Drawn src l l') : ∀ q ∈ l, q.2.cls ≠ .type "list" → q ∈ l' := by
  obtain ⟨o1, o2, o3, o4, o5, os, a1, a2, a3, a4, a5, a6, r⟩ := X.C
  exact drawn_keep N a6 r.2.2.2.2.2 D
theorem solid_nl {q : Addr × Obj} (h : Solid q) : q.2.cls ≠ .type "list" := by
  rcases h.1 with h | ⟨a, h⟩
  · rw [h]; intro e; injection e with e; exact absurd e (by decide)
  · rw [h]; intro e; cases e
theorem AS.drawn (N : News h₀ L h l) (Z : AS w l src sd pl L mo dx ak v1 v2 v3 v4 v5 zs ps S ask n xs) (hpl : pl ≠ src) (hak : ak ≠ src) (D : Drawn src l l') : AS w l' src sd pl L mo dx ak v1 v2 v3 v4 v5 zs ps S ask n xs :=
  ⟨Z.X.drawn N hpl D, Z.M.solid fun q hq hs => Z.X.keep N D q hq (solid_nl hs), Z.A.mono fun _ _ h => h.mono fun q hq ht => Z.X.keep N D q hq (by rw [ht]; intro e; injection e with e; exact absurd e (by decide)), D.2 _ Z.ak hak⟩
theorem solid_off {q p : Addr × Obj} (N : News h₀ L h l) (hq : q ∈ l) (hp : p ∈ l) (hs : Solid q) (hc : p.2.cls = .type "list") : q.1 ≠ p.1 := by
  rcases hs.1 with h | ⟨a, h⟩
  · exact off_cls N hq hp h hc (by decide)
  · exact off_clsR N hq hp h hc
theorem AS.app (N : News h₀ L h l) (Z : AS w l src sd pl L mo dx ak v1 v2 v3 v4 v5 zs ps S ask n xs) (hpl : pl ≠ ak) (hsr : ak ≠ src) {n' : Nat} {v : Value} {x : Path × List Str} (K : ∀ q ∈ l, q.1 ≠ ak → q ∈ l') (hm : (ak, listOf (ask ++ [v]).toArray n') ∈ l') (hv : AskAt l' v x) :
    AS w l' src sd pl L mo dx ak v1 v2 v3 v4 v5 zs ps S (ask ++ [v]) n' (xs ++ [x]) := by
  have kt : ∀ q ∈ l, q.2.cls = .type "tuple" → q ∈ l' := fun q hq ht => K q hq (off_cls N hq Z.ak ht rfl (by decide))
  refine ⟨⟨Z.X.T.mono2 fun q hq hc _ => ?_, Z.X.C.kept N Z.ak (by intro v e; cases e) hsr K, Z.X.A.mono fun _ _ h => h.mono kt, K _ Z.X.pl hpl⟩, Z.M.solid fun q hq hs => K q hq (solid_off N hq Z.ak hs rfl), (Z.A.mono fun _ _ h => h.mono kt).snoc hv, hm⟩
  rcases hc with hc | hc
  · exact K q hq (off_cls N hq Z.ak hc rfl (by decide))
  · exact kt q hq hc
theorem AS.off {I : Addr} {oI : Obj} {l0 : List (Addr × Obj)} {u1 u2 u3 u4 u5 : Option Value} (N : News h₀ L h l) (Z : AS w l src sd pl L mo dx ak v1 v2 v3 v4 v5 zs ps S ask n xs) (hI : (I, oI) ∈ l) (hcI : oI.cls = .type "range_iterator") (C0 : LawC l0 L src u1 u2 u3 u4 u5) (h0 : ∀ q ∈ l0, q.1 ≠ I) (K : ∀ q ∈ l, q.1 ≠ I → q ∈ l') :
    AS w l' src sd pl L mo dx ak v1 v2 v3 v4 v5 zs ps S ask n xs := by
  have kt : ∀ q ∈ l, ∀ c : String, q.2.cls = .type c → c ≠ "range_iterator" → q ∈ l' := fun q hq c hc hn => K q hq (off_cls N hq hI hc hcI hn)
  refine ⟨⟨Z.X.T.mono2 fun q hq hc _ => ?_, Z.X.C.off C0 h0 K, Z.X.A.mono fun _ _ h => h.mono fun q hq ht => kt q hq _ ht (by decide), kt _ Z.X.pl _ rfl (by decide)⟩, Z.M.solid fun q hq hs => ?_, Z.A.mono fun _ _ h => h.mono fun q hq ht => kt q hq _ ht (by decide), kt _ Z.ak _ rfl (by decide)⟩
  · rcases hc with hc | hc
    · exact kt q hq _ hc (by decide)
    · exact kt q hq _ hc (by decide)
  · rcases hs.1 with hs | ⟨a, hs⟩
    · exact kt q hq _ hs (by decide)
    · exact K q hq (off_clsR N hq hI hs hcI)
theorem AS.srcm (Z : AS w l src sd pl L mo dx ak v1 v2 v3 v4 v5 zs ps S ask n xs) : ∃ os, SrcOk os ∧ (src, os) ∈ l := by
  obtain ⟨o1, o2, o3, o4, o5, os, a1, a2, a3, a4, a5, a6, r⟩ := Z.X.C
  exact ⟨os, r.2.2.2.2.2, a6⟩
end
/-- a draw from a ledger with the three objects of a comprehension ahead -/
theorem drawn_off3 {src I C D : Addr} {oI oC oD : Obj} {news ex l : List (Addr × Obj)} (hs : ∃ os, SrcOk os ∧ (src, os) ∈ news) (Dr : Drawn src (ex ++ (I, oI) :: (C, oC) :: (D, oD) :: news) l) (off : Off3 I C D news) :
    ∃ nw, Drawn src news nw ∧ Off3 I C D nw ∧ (∀ p ∈ (I, oI) :: (C, oC) :: (D, oD) :: nw, p ∈ l) ∧ ∀ q ∈ l, q.1 ≠ I → q.1 ≠ C → q.1 ≠ D → q ∈ nw := by
  obtain ⟨os, _, hos⟩ := hs
  have h3 := off.mem
  obtain ⟨s1, s2, s3⟩ := h3 _ hos
  dsimp only at s1 s2 s3
  obtain ⟨⟨o', ho', hm'⟩, K⟩ := Dr
  have hf : ∀ q ∈ l.filter (fun q => decide (q.1 ≠ I ∧ q.1 ≠ C ∧ q.1 ≠ D)), q ∈ l ∧ q.1 ≠ I ∧ q.1 ≠ C ∧ q.1 ≠ D := fun q hq => ⟨(List.mem_filter.mp hq).1, by simpa using (List.mem_filter.mp hq).2⟩
  have hg : ∀ q ∈ l, q.1 ≠ I → q.1 ≠ C → q.1 ≠ D → q ∈ l.filter (fun q => decide (q.1 ≠ I ∧ q.1 ≠ C ∧ q.1 ≠ D)) := fun q hq a b c => List.mem_filter.mpr ⟨hq, by simp [a, b, c]⟩
  refine ⟨l.filter (fun q => decide (q.1 ≠ I ∧ q.1 ≠ C ∧ q.1 ≠ D)), ⟨⟨o', ho', hg _ hm' s1 s2 s3⟩, fun q hq hn => ?_⟩, Off3.of fun p hp => (hf p hp).2, fun p hp => ?_, hg⟩
  · obtain ⟨a, b, c⟩ := h3 q hq
    exact hg q (K q (List.mem_append_right _ (.tail _ (.tail _ (.tail _ hq)))) hn) a b c
  · rcases List.mem_cons.mp hp with rfl | hp
    · exact K _ (List.mem_append_right _ (.head _)) (Ne.symm s1)
    · rcases List.mem_cons.mp hp with rfl | hp
      · exact K _ (List.mem_append_right _ (.tail _ (.head _))) (Ne.symm s2)
      · rcases List.mem_cons.mp hp with rfl | hp
        · exact K _ (List.mem_append_right _ (.tail _ (.tail _ (.head _)))) (Ne.symm s3)
        · exact (hf p hp).1
noncomputable def told (o t : Str) : List (Path × List Str) := [([o], [Str.ofString "super", fS]), ([o, t], [Str.ofString "self", Str.ofString "super", Str.ofString "super", fS])]
/-- the loop that draws what is asked -/
inductive AskLoop (w : World) (src sd pl mo dx ak L : Addr) (v1 v2 v3 v4 v5 : Option Value) (zs : List Value) (ps : List Path) (S : Seen) (o t : Str) (G : Bool) (c : Nat) (m0 : Str → Option Value) (its : List Itm) (m : Str → Option Value) (l : List (Addr × Obj)) : Prop
  | mk : ∀ (ask : List Value) (n : Nat) (xs : List (Path × List Str)) (u1 u2 u3 : Option Value), (AS w l src sd pl L mo dx ak v1 v2 v3 v4 v5 zs ps S ask n (told o t ++ xs)) → ((∀ x ∈ xs, Asked o t G x)) → (its.length + xs.length = c) → ((∀ a ∈ its, ∃ k : Int, a = Itm.tok fun t => .int k t)) → (m = fun y => if y = Str.ofString "turn" then u1 else if y = Str.ofString "ahead" then u2 else if y = Str.ofString "down" then u3 else m0 y) → AskLoop w src sd pl mo dx ak L v1 v2 v3 v4 v5 zs ps S o t G c m0 its m l
theorem AS.hide {w : World} {l : List (Addr × Obj)} {src sd pl L mo dx ak : Addr} {v1 v2 v3 v4 v5 : Option Value} {zs ask : List Value} {ps : List Path} {S : Seen} {n : Nat} {xs : List (Path × List Str)} (_ : AS w l src sd pl L mo dx ak v1 v2 v3 v4 v5 zs ps S ask n xs) (o t : Str) (G : Bool) (c : Nat) : ∃ J, J = AskLoop w src sd pl mo dx ak L v1 v2 v3 v4 v5 zs ps S o t G c := ⟨_, rfl⟩
noncomputable def AS.J {w : World} {l : List (Addr × Obj)} {src sd pl L mo dx ak : Addr} {v1 v2 v3 v4 v5 : Option Value} {zs ask : List Value} {ps : List Path} {S : Seen} {n : Nat} {xs : List (Path × List Str)} (_ : AS w l src sd pl L mo dx ak v1 v2 v3 v4 v5 zs ps S ask n xs) (o t : Str) (G : Bool) (c : Nat) (m0 : Str → Option Value) (its : List Itm) (m : Str → Option Value) (l1 : List (Addr × Obj)) : Prop :=
  AskLoop w src sd pl mo dx ak L v1 v2 v3 v4 v5 zs ps S o t G c m0 its m l1
theorem over_three9 {m : Str → Option Value} {a b c : Str} : m = fun y => if y = a then m a else if y = b then m b else if y = c then m c else m y := by
  funext y
  by_cases e1 : y = a
  · rw [if_pos e1, e1]
  · rw [if_neg e1]
    by_cases e2 : y = b
    · rw [if_pos e2, e2]
    · rw [if_neg e2]
      by_cases e3 : y = c
      · rw [if_pos e3, e3]
      · rw [if_neg e3]
theorem over_turn9 {m : Str → Option Value} {a b c : Str} {u1 u2 u3 v1 v2 v3 : Option Value} (ab : a ≠ b) (ac : a ≠ c) (bc : b ≠ c) :
    (fun y => if y = c then v3 else if y = b then v2 else if y = a then v1 else if y = a then u1 else if y = b then u2 else if y = c then u3 else m y) = fun y => if y = a then v1 else if y = b then v2 else if y = c then v3 else m y := by
  funext y
  by_cases e3 : y = c
  · subst e3; simp [Ne.symm ac, Ne.symm bc]
  · by_cases e2 : y = b
    · subst e2; simp [e3, Ne.symm ab]
    · by_cases e1 : y = a
      · subst e1; simp [e2, e3]
      · simp [e1, e2, e3]
theorem AS.start {w : World} {l : List (Addr × Obj)} {src sd pl L mo dx ak : Addr} {v1 v2 v3 v4 v5 : Option Value} {zs ask : List Value} {ps : List Path} {S : Seen} {n : Nat} {o t : Str} (Z : AS w l src sd pl L mo dx ak v1 v2 v3 v4 v5 zs ps S ask n (told o t)) (G : Bool) (c : Nat) (m : Str → Option Value) :
    Z.J o t G c m ((List.range c).map fun i => Itm.tok fun t => .int (0 + (i : Nat) * 1) t) m l :=
  ⟨ask, n, [], _, _, _, by rw [List.append_nil]; exact Z, by simp, by simp, fun a ha => by obtain ⟨i, _, e⟩ := List.mem_map.mp ha; exact ⟨_, e.symm⟩, over_three9⟩
theorem ask_end {w : World} {src sd pl mo dx ak L I : Addr} {v1 v2 v3 v4 v5 u1 u2 u3 u4 u5 a1 a2 a3 : Option Value} {zs ask : List Value} {ps : List Path} {m0 m' : Str → Option Value} {its : List Itm} {l l0 : List (Addr × Obj)} {S : Seen} {oI : Obj} {h₀ h' : Heap} {tk n c : Nat} {s₁ : Shared} {o t : Str} {G : Bool} {xs : List (Path × List Str)}
    (F : Fr h₀ L h' m') (N : News h₀ L h' l) (hI : (I, oI) ∈ l) (hcI : oI.cls = .type "range_iterator") (h0 : ∀ q ∈ l0, q.1 ≠ I) (C0 : LawC l0 L src u1 u2 u3 u4 u5)
    (Z : AS w l src sd pl L mo dx ak v1 v2 v3 v4 v5 zs ps S ask n (told o t ++ xs)) (hx : ∀ x ∈ xs, Asked o t G x) (hc : its.length + xs.length = c) (hk : ∀ a ∈ its, ∃ k : Int, a = Itm.tok fun t => .int k t)
    (hm : m' = fun y => if y = Str.ofString "turn" then a1 else if y = Str.ofString "ahead" then a2 else if y = Str.ofString "down" then a3 else m0 y) :
    UnrEndW h₀ L s₁ [(I, oI)] (fun m'' n'' => SubL [] n'' ∧ AskLoop w src sd pl mo dx ak L v1 v2 v3 v4 v5 zs ps S o t G c m0 its m'' n'') { s₁ with heap := h', toks := tk } := by
  have hf : ∀ q ∈ l.filter (fun q => decide (q.1 ≠ I)), q.1 ≠ I ∧ q ∈ l := fun q hq => ⟨by simpa using (List.mem_filter.mp hq).2, (List.mem_filter.mp hq).1⟩
  have K : ∀ q ∈ l, q.1 ≠ I → q ∈ l.filter (fun q => decide (q.1 ≠ I)) := fun q hq hn => List.mem_filter.mpr ⟨hq, by simpa using hn⟩
  refine ⟨h', tk, m', l.filter (fun q => decide (q.1 ≠ I)), rfl, F, fun p hp => ?_, fun p hp q hq => ?_, trivial, ask, n, xs, a1, a2, a3, Z.off N hI hcI C0 h0 K, hx, hc, hk, hm⟩
  · rcases List.mem_cons.mp hp with rfl | hp
    · exact N _ hI
    · exact N _ (hf p hp).2
  · rw [List.mem_singleton.mp hq]
    exact (hf p hp).1
end

/- TM -/
section
open Builtin in
theorem tm_noFill : fillsNumberSlot (.type "tuple") "mul" = pure false :=
  PySem.fillsNumberSlot_seq (id := "tuple.__mul__") (r := some (.builtin "tuple.__rmul__")) F.slot_tuple_mul.lookup (by decide +kernel) F.slot_tuple_rmul.lookup (by decide +kernel)
theorem tm_repeat : seqRepeat? (.type "tuple") = pure (some (.builtin "tuple.__mul__")) := by
  unfold seqRepeat?
  rw [PySem.seqSlot_of (T := "tuple") (name := "__mul__") (id := "tuple.__mul__") F.slot_tuple_mul.lookup (by decide +kernel), PySem.seqSlot_of (T := "tuple") (name := "__rmul__") (id := "tuple.__rmul__") F.slot_tuple_rmul.lookup (by decide +kernel)]
  rfl
theorem tm_rmul (a : Int) (t : Tok) (l : Addr) (items : Array Value) (n : Nat) (d : Option Addr) (sl : Array (Option Value)) :
    Meets (Builtin.«int.__rmul__» ⟨[.int a t, .ref l], []⟩) (fun _ R s => s.heap.get? l = some { cls := .type "tuple", dict := d, data := .seq items n, slots := sl } ∧ R (.ok (.ret Value.notImplemented)) s) :=
  .of_wp fun prog w A R s h => by obtain ⟨hp, g, d, tk, os⟩ := s; obtain ⟨hl, h⟩ := h; wp_walk; exact ⟨_, rfl, h⟩
theorem tm_mul2 (l : Addr) (v : Value) (n : Nat) (d : Option Addr) (sl : Array (Option Value)) (u : Tok) :
    Meets (Builtin.«tuple.__mul__» ⟨[.ref l, .int 2 u], []⟩) (fun _ R s => s.heap.get? l = some { cls := .type "tuple", dict := d, data := .seq #[v] n, slots := sl } ∧ R (.ok (.ret (Value.ref s.heap.objs.size))) { s with heap := s.heap.push { cls := Value.type "tuple", data := Data.seq #[v, v] }, toks := s.toks }) :=
  .of_wp fun prog w A R s h => by
    obtain ⟨hp, g, d, tk, os⟩ := s; obtain ⟨hl, h⟩ := h
    wp_walk
    exact ⟨_, rfl, h⟩
theorem tm_mul3 (l : Addr) (v : Value) (n : Nat) (d : Option Addr) (sl : Array (Option Value)) (u : Tok) :
    Meets (Builtin.«tuple.__mul__» ⟨[.ref l, .int 3 u], []⟩) (fun _ R s => s.heap.get? l = some { cls := .type "tuple", dict := d, data := .seq #[v] n, slots := sl } ∧ R (.ok (.ret (Value.ref s.heap.objs.size))) { s with heap := s.heap.push { cls := Value.type "tuple", data := Data.seq #[v, v, v] }, toks := s.toks }) :=
  .of_wp fun prog w A R s h => by
    obtain ⟨hp, g, d, tk, os⟩ := s; obtain ⟨hl, h⟩ := h
    wp_walk
    exact ⟨_, rfl, h⟩
section
variable {prog : Program} {w : World} {A : Around} {E : Value → Shared → Prop} {s : Shared} {h₀ : Heap} {L : Addr} {m : Str → Option Value} {news : List (Addr × Obj)}
theorem tup_mul2 {l : Addr} {v : Value} {u : Tok} {Q : Value → Shared → Prop} (Fm : Fr h₀ L s.heap m) (N : News h₀ L s.heap news) (hl : (l, ({ cls := .type "tuple", data := .seq #[v] } : Obj)) ∈ news)
    (h : ∀ D h', Fr h₀ L h' m → News h₀ L h' ((D, ({ cls := .type "tuple", data := .seq #[v, v] } : Obj)) :: news) → (∀ p ∈ news, p.1 < D) → Q (.ref D) { s with heap := h' }) :
    wpAny (model prog w) A (binaryOp .Mult (.ref l) (.int 2 u)) Q E s := by
  have ho := (N _ hl).1
  exact wpAny_binaryOp_repeat_ref (T := "tuple") (U := "int") (by decide) ⟨_, ho, rfl⟩ (fun s' => typeIs_int s' 2 u) tm_noFill F.fills_int_mul F.slot_int_rmul tm_repeat F.slot_int_index.lookup
    (call_meets F.slot_int_rmul (typeIs_int s 2 u) F.entry_int_rmul (F.args_int_rmul_2 _ _) (tm_rmul 2 u l #[v] 0 none #[])
      ⟨ho, rfl, ⟨_, ho, rfl⟩, call_meets F.slot_tuple_mul ⟨_, ho, rfl⟩ F.entry_tuple_mul (F.args_tuple_mul_2 _ _) (tm_mul2 l v 0 none #[] u) ⟨ho, h _ _ (Fm.push _) (News.push Fm N _) fun p hp => Heap.lt_size (N p hp).1⟩⟩)
theorem tup_mul3 {l : Addr} {v : Value} {u : Tok} {Q : Value → Shared → Prop} (Fm : Fr h₀ L s.heap m) (N : News h₀ L s.heap news) (hl : (l, ({ cls := .type "tuple", data := .seq #[v] } : Obj)) ∈ news)
    (h : ∀ D h', Fr h₀ L h' m → News h₀ L h' ((D, ({ cls := .type "tuple", data := .seq #[v, v, v] } : Obj)) :: news) → (∀ p ∈ news, p.1 < D) → Q (.ref D) { s with heap := h' }) :
    wpAny (model prog w) A (binaryOp .Mult (.ref l) (.int 3 u)) Q E s := by
  have ho := (N _ hl).1
  exact wpAny_binaryOp_repeat_ref (T := "tuple") (U := "int") (by decide) ⟨_, ho, rfl⟩ (fun s' => typeIs_int s' 3 u) tm_noFill F.fills_int_mul F.slot_int_rmul tm_repeat F.slot_int_index.lookup
    (call_meets F.slot_int_rmul (typeIs_int s 3 u) F.entry_int_rmul (F.args_int_rmul_2 _ _) (tm_rmul 3 u l #[v] 0 none #[])
      ⟨ho, rfl, ⟨_, ho, rfl⟩, call_meets F.slot_tuple_mul ⟨_, ho, rfl⟩ F.entry_tuple_mul (F.args_tuple_mul_2 _ _) (tm_mul3 l v 0 none #[] u) ⟨ho, h _ _ (Fm.push _) (News.push Fm N _) fun p hp => Heap.lt_size (N p hp).1⟩⟩)
end
end

/- G9 -/
section
open PyProof.Rows.LCg
theorem eq_strLists {prog : Program} {w : World} {A : Around} {E : Value → Shared → Prop} {s : Shared} {h₀ : Heap} {L a b : Addr} {news : List (Addr × Obj)} {vs us : List Value} {ns : List Str} {k1 k2 : Nat} {Q : Value → Shared → Prop} (N : News h₀ L s.heap news) (h1 : (a, listOf vs.toArray k1) ∈ news) (h2 : (b, listOf us.toArray k2) ∈ news) (s1 : StrsAre vs ns) (s2 : StrsAre us ns) (hu : A.units < cLine) (h : Q (.bool true) s) :
    wpAny (model prog w) A (compareOp .Eq (.ref a) (.ref b)) Q E s := by
  refine PySem.SeqAt.RcAt.lists (e := fun j => ns.getD j Str.empty == ns.getD j Str.empty) (News.isList N h1) (News.isList N h2) (by simp [strsAre_len s1, strsAre_len s2]) hu (strsAre_eqAt s1 s2) prog w E Q ?_
  rw [List.all_eq_true.mpr fun j _ => by simp]
  exact h
theorem drop2_list {prog : Program} {w : World} {A : Around} {E : Value → Shared → Prop} {h₀ : Heap} {L D : Addr} {m : Str → Option Value} {l : List (Addr × Obj)} {vs : List Value} {n : Nat} {Q : Value → Shared → Prop} {value slice : PySem.Expr} {u : Tok} {hp : Heap} {g : Array GenState} {d : PySem.Drawn} {tk : Nat} {os : OsState}
    (F : Fr h₀ L hp m) (N : News h₀ L hp l) (hm : (D, listOf vs.toArray n) ∈ l) (hz : vs.length ≤ 100)
    (h : ∀ D' h', Fr h₀ L h' m → News h₀ L h' ((D', listOf (vs.drop 2).toArray 0) :: l) → Q (.ref D') ⟨h', g, d, tk, os⟩)
    (hs : subscripted slice false (.ref D) (.ref hp.objs.size) = operate [.ref hp.objs.size, .ref D] (getItem (.ref D) (.ref hp.objs.size)) := by with_unfolding_all rfl)
    (ht : ∀ r, letTemporaryGo value (.ref D) r = pure () := by intro _; with_unfolding_all rfl) :
    wpAny (model prog w) A (subscriptTail value slice (.ref D) (.ref hp.objs.size)) Q E ⟨hp.push { cls := .type "slice", data := .fields #[.int 2 u, .none, .none] }, g, d, tk, os⟩ :=
  kmk_slice_lit (s := ⟨hp, g, d, tk, os⟩) (its := vs.toArray) (zs := vs.drop 2) F N (News.isList N hm) (IsPart.int _ _) .none (by rw [show (2 : Int) = ((2 : Nat) : Int) from rfl, slicePick_from']) (fun D' h' F' N' _ => h D' h' F' N') hs ht (by rw [PySem.sizeLine_eq]; simp; omega)
theorem All2.get {α β : Type} {R : α → β → Prop} {l : List α} {m : List β} (h : All2 R l m) : ∀ {i : Nat} {a : α}, l[i]? = some a → ∃ b, m[i]? = some b ∧ R a b := by
  induction h with
  | nil => intro i a e; simp at e
  | cons r _ ih =>
    intro i a e
    cases i with
    | zero => simp at e; subst e; exact ⟨_, rfl, r⟩
    | succ i => exact ih (by simpa using e)
theorem All2.drop {α β : Type} {R : α → β → Prop} {l : List α} {m : List β} (h : All2 R l m) (k : Nat) : All2 R (l.drop k) (m.drop k) := by
  induction h generalizing k with
  | nil => simp; exact .nil
  | cons r h ih =>
    cases k with
    | zero => exact .cons r h
    | succ k => exact ih k
noncomputable def resOf (S : Seen) (x : Path × List Str) : Str := resStr (findP S x.1 x.2)
theorem res_snoc {S : Seen} {ys : List Value} {xs : List (Path × List Str)} {i : Nat} {x : Path × List Str} {tk : Tok} (h : StrsAre ys ((xs.take i).map (resOf S))) (e : xs[i]? = some x) : StrsAre (ys ++ [.str (resStr (findP S x.1 x.2)) tk]) ((xs.take (i + 1)).map (resOf S)) := by
  have e1 : xs.take (i + 1) = xs.take i ++ [x] := by rw [List.take_add_one, e]; rfl
  rw [e1, List.map_append]
  exact strsAre_append h strs1
/-- what a comprehension's pair target binds -/
noncomputable def AskTg (news0 : List (Addr × Obj)) (v : Value) (m : Str → Option Value) : Prop := ∀ x, AskAt news0 v x → ∃ a n, m (Str.ofString "asker") = some (.ref a) ∧ m (Str.ofString "names") = some (.ref n) ∧ StrTup news0 a x.1 ∧ StrTup news0 n x.2
theorem asg_ask {prog : Program} {w : World} {A : Around} {env : Env} {h₀ : Heap} {L : Addr} {news0 news' : List (Addr × Obj)} {x : Path × List Str} {v : Value} {pa pb tp : Pos} {kk : Nat} {scope : Scope} {cl : List (Str × Addr)} (hh : A.handled = none) (hkind : scope.kind = .function) (ha : scope.names.lookup (Str.ofString "asker") = some .local) (hb : scope.names.lookup (Str.ofString "names") = some .local)
    {s' : Shared} {C : Addr} {m' : Str → Option Value} {Q : Unit → Shared → Prop} {E : Value → Shared → Prop} (N : News h₀ L s'.heap news') (sub : ∀ q ∈ news0, q.2.cls = .type "tuple" → q ∈ news') (P : AskAt news0 v x) (hn : s'.heap.Ns C m')
    (h : ∀ h' tk m'', h'.Ns C m'' → AskTg news0 v m'' → (∀ c o, c ≠ C → s'.heap.get? c = some o → h'.get? c = some o) → Q () { s' with heap := h', toks := tk }) :
    wpAny (model prog w) A (assign (.Tuple [.Name (Str.ofString "asker") pa, .Name (Str.ofString "names") pb] kk tp) (compEnvC scope cl C env) v) Q E s' := by
  obtain ⟨T, a, n, rfl, hT, sa, sn⟩ := P
  refine assign_pair hh hkind ha hb (by decide) (x := .ref a) (y := .ref n) ⟨_, (N _ (sub _ hT rfl)).1, rfl, _, rfl⟩ hn fun h' tk m'' hn' e hk => h h' tk m'' hn' (fun x' P' => ?_) hk
  obtain ⟨T', a', n', e1, hT', sa', sn'⟩ := P'
  injection e1 with e1
  subst e1
  have e2 := (N _ (sub _ hT rfl)).1
  rw [(N _ (sub _ hT' rfl)).1] at e2
  have e3 := congrArg Obj.data (Option.some.inj e2)
  injection e3 with e4
  have e5 := congrArg Array.toList e4
  simp at e5
  obtain ⟨e6, e7⟩ := e5
  subst e6 e7
  exact ⟨a', n', e.1, e.2, sa', sn'⟩
theorem src_off {h₀ h : Heap} {L src ak a b : Addr} {l : List (Addr × Obj)} {os : Obj} {k : Nat} (N : News h₀ L h l) (h1 : (src, os) ∈ l) (ho : SrcOk os) (h2 : (ak, listOf #[.ref a, .ref b] k) ∈ l) : ak ≠ src := off_obj N h2 h1 (by
  obtain ⟨g, x, t1, t2, n, _, _, rfl⟩ := ho
  intro e
  injection e with e
  have e5 := congrArg Array.toList e
  simp at e5)
theorem pl_off {h₀ h : Heap} {L pl ak : Addr} {l : List (Addr × Obj)} {zs : List Value} {x y : Value} {k j : Nat} (N : News h₀ L h l) (h1 : (pl, listOf zs.toArray j) ∈ l) (h2 : (ak, listOf #[x, y] k) ∈ l) (hz : 3 ≤ zs.length) : pl ≠ ak := off_obj N h1 h2 (by
  intro e
  injection e with e
  have e5 := congrArg Array.size e
  simp at e5
  omega)
theorem pathsP_len3 {o t : Str} {G : Bool} : 3 ≤ (pathsP o t G).length := by cases G <;> simp [pathsP, extraP]
theorem src_offS {h₀ h : Heap} {L src th : Addr} {l : List (Addr × Obj)} {os : Obj} {vs : Array Value} {k : Nat} (N : News h₀ L h l) (h1 : (src, os) ∈ l) (ho : SrcOk os) (h2 : (th, listOf vs k) ∈ l) (hz : vs.size ≠ 2) : th ≠ src := off_obj N h2 h1 (by
  obtain ⟨g, x, t1, t2, n, _, _, rfl⟩ := ho
  intro e
  injection e with e
  have e5 := congrArg Array.size e
  exact hz (by simpa using e5))
theorem ahead_pick {l : List (Addr × Obj)} {r : Value} {A1 A2 A3 A4 A5 A6 A7 : Addr} {t2 t3 t4 t5 t6 t7 t8 t9 t10 t11 : Tok} (h : r ∈ [Value.ref A1, .ref A2, .ref A3, .ref A4, .ref A5, .ref A6, .ref A7])
    (h1 : (A1, tupObj []) ∈ l) (h2 : (A2, tupObj [.str (Str.ofString "crate") t2]) ∈ l) (h3 : (A3, tupObj [.str (Str.ofString "self") t3]) ∈ l) (h4 : (A4, tupObj [.str (Str.ofString "super") t4]) ∈ l)
    (h5 : (A5, tupObj [.str (Str.ofString "super") t5, .str (Str.ofString "super") t6]) ∈ l) (h6 : (A6, tupObj [.str (Str.ofString "super") t7, .str (Str.ofString "super") t8, .str (Str.ofString "super") t9]) ∈ l) (h7 : (A7, tupObj [.str (Str.ofString "self") t10, .str (Str.ofString "super") t11]) ∈ l) :
    ∃ a ah vs, r = .ref a ∧ ah ∈ aheadL ∧ (a, tupObj vs) ∈ l ∧ StrsAre vs ah := by
  simp only [List.mem_cons, List.not_mem_nil, or_false] at h
  rcases h with rfl | rfl | rfl | rfl | rfl | rfl | rfl
  · exact ⟨A1, [], _, rfl, by simp [aheadL], h1, .nil⟩
  · exact ⟨A2, _, _, rfl, by simp [aheadL], h2, strs1⟩
  · exact ⟨A3, _, _, rfl, by simp [aheadL], h3, strs1⟩
  · exact ⟨A4, [Str.ofString "super"], _, rfl, by simp [aheadL], h4, strs1⟩
  · exact ⟨A5, [Str.ofString "super", Str.ofString "super"], _, rfl, by simp [aheadL], h5, strs2⟩
  · exact ⟨A6, [Str.ofString "super", Str.ofString "super", Str.ofString "super"], _, rfl, by simp [aheadL], h6, strs3⟩
  · exact ⟨A7, [Str.ofString "self", Str.ofString "super"], _, rfl, by simp [aheadL], h7, strs2⟩
theorem down_pick {r : Value} {o t : Str} {t1 t2 t3 t4 t5 : Tok} (h : r ∈ [Value.str o t1, .str t t2, .str (o ++ Str.ofString "b") t3, .str (Str.ofString "z") t4, .str (Str.ofString "super") t5]) : ∃ n tk, r = .str n tk ∧ n ∈ downL o t := by
  simp only [List.mem_cons, List.not_mem_nil, or_false] at h
  rcases h with rfl | rfl | rfl | rfl | rfl <;> exact ⟨_, _, rfl, by simp [downL]⟩
/-- kept while names are drawn: the law's ledger and two more objects -/
noncomputable def AS.Kp {w : World} {l : List (Addr × Obj)} {src sd pl L mo dx ak : Addr} {v1 v2 v3 v4 v5 : Option Value} {zs ask : List Value} {ps : List Path} {S : Seen} {n : Nat} {xs : List (Path × List Str)} (_ : AS w l src sd pl L mo dx ak v1 v2 v3 v4 v5 zs ps S ask n xs) (p q : Addr × Obj) (nw : List (Addr × Obj)) : Prop :=
  AS w nw src sd pl L mo dx ak v1 v2 v3 v4 v5 zs ps S ask n xs ∧ p ∈ nw ∧ q ∈ nw
theorem AS.hideK {w : World} {l : List (Addr × Obj)} {src sd pl L mo dx ak : Addr} {v1 v2 v3 v4 v5 : Option Value} {zs ask : List Value} {ps : List Path} {S : Seen} {n : Nat} {xs : List (Path × List Str)} (_ : AS w l src sd pl L mo dx ak v1 v2 v3 v4 v5 zs ps S ask n xs) (p q : Addr × Obj) :
    ∃ J : List (Addr × Obj) → Prop, J = fun nw => AS w nw src sd pl L mo dx ak v1 v2 v3 v4 v5 zs ps S ask n xs ∧ p ∈ nw ∧ q ∈ nw := ⟨_, rfl⟩
theorem All2.memL {α β : Type} {R : α → β → Prop} {l : List α} {m : List β} (h : All2 R l m) : ∀ {a : α}, a ∈ l → ∃ b, b ∈ m ∧ R a b := by
  induction h with
  | nil => intro a e; cases e
  | cons r _ ih =>
    intro a e
    rcases List.mem_cons.mp e with rfl | e
    · exact ⟨_, .head _, r⟩
    · obtain ⟨b, hb, hr⟩ := ih e
      exact ⟨b, .tail _ hb, hr⟩
theorem asker_pick {l : List (Addr × Obj)} {r : Value} {B : Addr} {zs : List Value} {ps : List Path} (h : r ∈ [Value.ref B] ++ zs) (hb : (B, tupObj []) ∈ l) (A : All2 (PT l) zs ps) : ∃ a p vs, r = .ref a ∧ (a, tupObj vs) ∈ l ∧ StrsAre vs p ∧ p ∈ [] :: ps := by
  rcases List.mem_append.mp h with h | h
  · exact ⟨B, [], [], List.mem_singleton.mp h, hb, .nil, .head _⟩
  · obtain ⟨p, hp, a, e, vs, hm, hs⟩ := A.memL h
    exact ⟨a, p, vs, e, hm, hs, .tail _ hp⟩
theorem off1_mem {D : Addr} : ∀ {l : List (Addr × Obj)}, Off1 D l → ∀ p ∈ l, p.1 ≠ D
  | [], _, _, h => nomatch h
  | _ :: _, x, p, h => by
    rcases List.mem_cons.mp h with rfl | h
    · exact x.1
    · exact off1_mem x.2 p h
theorem AS.appN {w : World} {l l5 : List (Addr × Obj)} {src sd pl L mo dx ak : Addr} {v1 v2 v3 v4 v5 : Option Value} {zs ask : List Value} {ps : List Path} {S : Seen} {n : Nat} {xs : List (Path × List Str)} {h₀ h h5 : Heap} {v : Value} {x : Path × List Str}
    (Z : AS w l src sd pl L mo dx ak v1 v2 v3 v4 v5 zs ps S ask n xs) (N : News h₀ L h l) (hpl : pl ≠ ak) (hsr : ak ≠ src) (_N5 : News h₀ L h5 ((ak, listOf (ask ++ [v]).toArray (n + 1)) :: l5)) (K : ∀ q ∈ l, q.1 ≠ ak → q ∈ l5) (hv : AskAt l v x) :
    AS w ((ak, listOf (ask ++ [v]).toArray (n + 1)) :: l5) src sd pl L mo dx ak v1 v2 v3 v4 v5 zs ps S (ask ++ [v]) (n + 1) (xs ++ [x]) :=
  Z.app N hpl hsr (fun q hq hn => .tail _ (K q hq hn)) (.head _) (hv.mono fun q hq ht => .tail _ (K q hq (off_cls N hq Z.ak ht rfl (by decide))))
end

/- G10 -/
section
open PyProof.Rows.LCg
theorem crest_keep {prog : Program} {w : World} {A : Around} {s : Shared} {h₀ : Heap} {L : Addr} {m : Str → Option Value} {env : Env} {elt : PySem.Expr} {scope : Scope} {cl : List (Str × Addr)} {Tg : Value → (Str → Option Value) → Prop} {P : Nat → Value → Prop} {Fin : List Value → List (Addr × Obj) → Prop} {n : Nat} {news : List (Addr × Obj)}
    (J : Nat → List Value → Prop) (h0 : J 0 []) (fin : ∀ ys nw, (∀ p ∈ news, p ∈ nw) → J n ys → Fin ys nw)
    (turn : ∀ i ys nw, i < n → (∀ p ∈ news, p ∈ nw) → J i ys → ∀ v I oI C oC D m₂ h tk (E' : Value → Shared → Prop), P i v → NsObj oC m₂ → Tg v m₂ → Fr h₀ L h m → News h₀ L h ((I, oI) :: (C, oC) :: (D, lst ys) :: nw) → Off3 I C D nw →
      wpAny (model prog w) A (eval elt (compEnvC scope cl C env)) (CompEnd h₀ L m { s with heap := h, toks := tk } I oI C oC D (lst ys) (fun nw => ∀ p ∈ news, p ∈ nw) (fun y _ => J (i + 1) (ys ++ [y]))) E' { s with heap := h, toks := tk }) :
    CRest prog w A h₀ L m env elt [] scope cl Tg s (fun nw => ∀ p ∈ news, p ∈ nw) P Fin n 0 [] news :=
  crest_ind (fun i ys nw => (∀ p ∈ news, p ∈ nw) ∧ J i ys) (fun ys nw h => fin ys nw h.1 h.2) (fun i ys nw hi hJ v I oI C oC D m₂ h tk E' hP hC hT F N _ off _ =>
    wpAny_mono (turn i ys nw hi hJ.1 hJ.2 v I oI C oC D m₂ h tk E' hP hC hT F N off) (fun y s₂ h₂ => by
      obtain ⟨h', tk', n', e1, e2, e3, e4, e5, e6⟩ := h₂
      exact ⟨h', tk', n', e1, e2, e3, e4, e5, e5, e6⟩) fun _ _ e => e) n 0 [] news (Nat.zero_add _) ⟨fun _ h => h, h0⟩
theorem Asked.alen {o t : Str} {G : Bool} {x : Path × List Str} (hm : (o, t) ∈ menuL) (A : Asked o t G x) : x.1.length ≤ 3 := by
  rcases List.mem_cons.mp A.asker with h | h
  · rw [h]; simp
  · exact ((menu_paths _ hm G (by cases G <;> simp)).2 _ h).2.2
theorem found_off3 {w : World} {mo dx I C D : Addr} {S : Seen} {oI oC oD : Obj} {nw n9 : List (Addr × Obj)} (hd : ∃ od, (dx, od) ∈ nw) (M : ModsK w nw n9 mo dx S) (K : ∀ p ∈ (I, oI) :: (C, oC) :: (D, oD) :: nw, p.1 ≠ dx → p ∈ n9) (off : Off3 I C D nw) :
    ∃ nw', ModsU w nw' mo dx S ∧ (∀ p ∈ nw, p.1 ≠ dx → p ∈ nw') ∧ Off3 I C D nw' ∧ (∀ p ∈ (I, oI) :: (C, oC) :: (D, oD) :: nw', p ∈ n9) := by
  obtain ⟨od, hod⟩ := hd
  have h3 := off.mem
  obtain ⟨s1, s2, s3⟩ := h3 _ hod
  dsimp only at s1 s2 s3
  obtain ⟨ob, hob, hM⟩ := M
  have hf : ∀ q ∈ n9.filter (fun q => decide (q.1 ≠ I ∧ q.1 ≠ C ∧ q.1 ≠ D)), q ∈ n9 ∧ q.1 ≠ I ∧ q.1 ≠ C ∧ q.1 ≠ D := fun q hq => ⟨(List.mem_filter.mp hq).1, by simpa using (List.mem_filter.mp hq).2⟩
  have hg : ∀ q ∈ n9, q.1 ≠ I → q.1 ≠ C → q.1 ≠ D → q ∈ n9.filter (fun q => decide (q.1 ≠ I ∧ q.1 ≠ C ∧ q.1 ≠ D)) := fun q hq a b c => List.mem_filter.mpr ⟨hq, by simp [a, b, c]⟩
  have hk : ∀ p ∈ nw, p.1 ≠ dx → p ∈ n9.filter (fun q => decide (q.1 ≠ I ∧ q.1 ≠ C ∧ q.1 ≠ D)) := fun p hp hn => hg p (K p (.tail _ (.tail _ (.tail _ hp))) hn) (h3 p hp).1 (h3 p hp).2.1 (h3 p hp).2.2
  refine ⟨_, hM _ hk (hg _ hob s1 s2 s3), hk, Off3.of fun p hp => (hf p hp).2, fun p hp => ?_⟩
  rcases List.mem_cons.mp hp with rfl | hp
  · exact K _ (.head _) (Ne.symm s1)
  · rcases List.mem_cons.mp hp with rfl | hp
    · exact K _ (.tail _ (.head _)) (Ne.symm s2)
    · rcases List.mem_cons.mp hp with rfl | hp
      · exact K _ (.tail _ (.tail _ (.head _))) (Ne.symm s3)
      · exact (hf p hp).1
theorem ModsU.dxm {w : World} {l : List (Addr × Obj)} {mo dx : Addr} {S : Seen} (M : ModsU w l mo dx S) : ∃ od, (dx, od) ∈ l ∧ od.cls = .type "dict" ∧ ∀ v, od.data ≠ .cell v := by
  obtain ⟨rest, k1, k2, k3, k4, k5, k6, ka, pa, ta, ga, ia, ke, hr, hdx, R⟩ := M
  exact ⟨_, hdx, rfl, by intro v e; cases e⟩
theorem told_res {S : Seen} {o t : Str} (h : (seenAt S [fS]).isSome = true) : (told o t).map (resOf S) = [Str.ofString "f", Str.ofString "f"] := by
  simp only [told, List.map_cons, List.map_nil, resOf, told_one h, told_two h, told_str]
theorem due_strs {S : Seen} {o t : Str} {xs : List (Path × List Str)} {ys : List Value} {t1 t2 : Tok} (h : (seenAt S [fS]).isSome = true) (hy : StrsAre ys (xs.map (resOf S))) : StrsAre ([.str (Str.ofString "f") t1, .str (Str.ofString "f") t2] ++ ys) ((told o t ++ xs).map (resOf S)) := by
  rw [List.map_append, told_res h]
  exact strsAre_append strs2 hy
theorem told_drop {o t : Str} {xs : List (Path × List Str)} : (told o t ++ xs).drop 2 = xs := rfl
theorem asker_join {o t : Str} {G : Bool} {x : Path × List Str} (hm : (o, t) ∈ menuL) (A : Asked o t G x) : Txt.join (Str.ofString "::") x.1 = pth x.1 ∧ x.1.length ≤ 20 ∧ (x.1.map (·.length)).sum ≤ 10000 := by
  refine menu_join _ hm x.1 ?_
  rcases List.mem_cons.mp A.asker with h | h
  · rw [h]; exact .head _
  · exact .tail _ ((menu_univ _ hm G (by cases G <;> simp)).2 _ h).1
theorem told_asked {o t : Str} {G : Bool} : ∀ x ∈ told o t, Asked o t G x := by
  intro x hx
  simp only [told, List.mem_cons, List.not_mem_nil, or_false] at hx
  rcases hx with rfl | rfl
  · exact ⟨by simp [pathsP], [Str.ofString "super"], by simp [aheadL], [], by simp, by simp, rfl⟩
  · exact ⟨by simp [pathsP], [Str.ofString "self", Str.ofString "super"], by simp [aheadL], [Str.ofString "super"], by simp, by simp [downL], rfl⟩
theorem due_pack {h₀ h : Heap} {L dl : Addr} {l : List (Addr × Obj)} {ys : List Value} {t1 t2 : Tok} {S : Seen} {xs : List (Path × List Str)} (o t : Str) (_N : News h₀ L h ((dl, listOf ([Value.str (Str.ofString "f") t1, Value.str (Str.ofString "f") t2] ++ ys).toArray 0) :: l)) (hr : (seenAt S [fS]).isSome = true) (hy : StrsAre ys (xs.map (resOf S))) :
    ∃ dys : List Value, (dl, listOf dys.toArray 0) ∈ ((dl, listOf ([Value.str (Str.ofString "f") t1, Value.str (Str.ofString "f") t2] ++ ys).toArray 0) :: l) ∧ StrsAre dys ((told o t ++ xs).map (resOf S)) := ⟨_, .head _, due_strs hr hy⟩
theorem StrTup.mono2 {l l' : List (Addr × Obj)} {a : Addr} {ns : List Str} (D : StrTup l a ns) (h : ∀ q ∈ l, q.2.cls = .type "tuple" → q ∈ l') : StrTup l' a ns := by
  obtain ⟨vs, m, s⟩ := D
  exact ⟨vs, h _ m rfl, s⟩
/-- kept while find is asked: what Modules holds, all but its own dict, one more object -/
noncomputable def AS.FK {w : World} {l : List (Addr × Obj)} {src sd pl L mo dx ak : Addr} {v1 v2 v3 v4 v5 : Option Value} {zs ask : List Value} {ps : List Path} {S : Seen} {n : Nat} {xs : List (Path × List Str)} (_ : AS w l src sd pl L mo dx ak v1 v2 v3 v4 v5 zs ps S ask n xs) (p : Addr × Obj) (nw : List (Addr × Obj)) : Prop :=
  ModsU w nw mo dx S ∧ (∀ q ∈ l, q.1 ≠ dx → q ∈ nw) ∧ p ∈ nw
end

/- G11 -/
section
open PyProof.Rows.LCg
/-- the goal under a name: what is taken apart meanwhile does not repeat it -/
theorem atP {P : Prop} (h : ∀ P' : Prop, P' = P → P') : P := h P rfl
theorem LawC.elim {l : List (Addr × Obj)} {L src : Addr} {v1 v2 v3 v4 v5 : Option Value} {P : Prop} (C : LawC l L src v1 v2 v3 v4 v5)
    (h : ∀ o1 o2 o3 o4 o5 os, (L + 1, o1) ∈ l → (L + 1 + 1, o2) ∈ l → (L + 1 + 1 + 1, o3) ∈ l → (L + 1 + 1 + 1 + 1, o4) ∈ l → (L + 1 + 1 + 1 + 1 + 1, o5) ∈ l → (src, os) ∈ l →
      o1.data = .cell v1 → o2.data = .cell v2 → o3.data = .cell v3 → o4.data = .cell v4 → o5.data = .cell v5 → SrcOk os → P) : P := by
  obtain ⟨o1, o2, o3, o4, o5, os, a1, a2, a3, a4, a5, a6, e1, e2, e3, e4, e5, ho⟩ := C
  exact h o1 o2 o3 o4 o5 os a1 a2 a3 a4 a5 a6 e1 e2 e3 e4 e5 ho
section
variable {w : World} {mean : ExcName → Option Value} {mg mb : Str → Option Value} {dp un : Nat} {gd : Option (List Code)} {cn : Str} {cs : Scope} {a : Addr} {ccd : Value} {cl : List (Str × Addr)} {outer : List Env} {A₀ : Around} {base h₀ : Heap} {L : Addr} {m : Str → Option Value} {s : Shared} {hp : Heap} {tp : Nat} {Q E : Value → Shared → Prop}
theorem take_use {l : List (Addr × Obj)} {src : Addr} {o : Obj} {top : Int} {t3 : Tok} (hm : (src, o) ∈ l) (ho : SrcOk o) (h1 : 1 ≤ top) (h8 : top ≤ 8)
    (B : Below A₀ base outer h₀) (F : Fr h₀ L hp m) (X : (Mine.hd.heap_39 w.params).In h₀) (N : News h₀ L hp l) (T : Top Mine.hd.view_39 (looseW Mine.hd.view_39 [Str.ofString "LendError", Str.ofString "PLAIN_NAMES"]) mean mg mb h₀) (BO : BaseOk w mean mg mb base)
    (hk : cs.kind = .function) (hd : dp + 1 < recursionLimit) (hu : un + 8 < cLine)
    (ret : ∀ d tk h' tk' n', Fr h₀ L h' m → News h₀ L h' n' → Drawn src l n' → 0 ≤ d → d < top → Q (.int d tk) ⟨h', s.gens, s.drawn, tk', s.os⟩) :
    wpAny (model Challenge.rw_up0052_01.row.prog w) (ktrTop dp un gd cn cs L a ccd cl outer) (call (.ref 293) [.ref src, .int top t3]) Q E ⟨hp, s.gens, s.drawn, tp, s.os⟩ :=
  Spec.use (take_any w src o ho l hm top t3 h1 h8) B F X N T BO hk hd hu fun r h' tk' n' F' N' p => by
    obtain ⟨D, d, tk, h0, h2, rfl⟩ := p
    exact ret d tk h' tk' n' F' N' D h0 h2
theorem one_use {l : List (Addr × Obj)} {src th : Addr} {o : Obj} (vs : List Value) (k : Nat) (hm : (src, o) ∈ l) (ho : SrcOk o) (hth : (th, listOf vs.toArray k) ∈ l) (hne : th ≠ src) (h1 : 1 ≤ vs.length) (h8 : vs.length ≤ 8)
    (B : Below A₀ base outer h₀) (F : Fr h₀ L hp m) (X : (Mine.hd.heap_39 w.params).In h₀) (N : News h₀ L hp l) (T : Top Mine.hd.view_39 (looseW Mine.hd.view_39 [Str.ofString "LendError", Str.ofString "PLAIN_NAMES"]) mean mg mb h₀) (BO : BaseOk w mean mg mb base)
    (hk : cs.kind = .function) (hd : dp + 2 < recursionLimit) (hu : un + 16 < cLine)
    (ret : ∀ r h' tk' n', Fr h₀ L h' m → News h₀ L h' n' → Drawn src l n' → r ∈ vs → Q r ⟨h', s.gens, s.drawn, tk', s.os⟩) :
    wpAny (model Challenge.rw_up0052_01.row.prog w) (ktrTop dp un gd cn cs L a ccd cl outer) (call (.ref 300) [.ref src, .ref th]) Q E ⟨hp, s.gens, s.drawn, tp, s.os⟩ :=
  Spec.use (one_list w src th o ho l hm vs k hth hne h1 h8) B F X N T BO hk hd hu fun r h' tk' n' F' N' p => ret r h' tk' n' F' N' p.1 p.2
end
end

/- HT -/
section
noncomputable def walkT : Prop := by
  refine (?f : (K : Prop) → (K → Challenge.rw_up0052_01.Holds) → Prop) ?K ?h
  case f => exact fun K _ => K
  case h =>
    intro walk
    refine holds_law hd.said fun _ => ?_
    refine' holds_open (q := hd.view_39) (loose := [Str.ofString "LendError", Str.ofString "PLAIN_NAMES"]) (Xt := hd.xt) (XP := XL hd.view_39 [(Str.ofString "PLAIN_NAMES", WData.tuple [WData.str ⟨#[105, 56]⟩, WData.str ⟨#[105, 49, 54]⟩, WData.str ⟨#[105, 51, 50]⟩, WData.str ⟨#[105, 54, 52]⟩, WData.str ⟨#[117, 56]⟩, WData.str ⟨#[117, 49, 54]⟩, WData.str ⟨#[117, 51, 50]⟩, WData.str ⟨#[117, 54, 52]⟩, WData.str ⟨#[117, 115, 105, 122, 101]⟩, WData.str ⟨#[98, 111, 111, 108]⟩, WData.str ⟨#[66, 111, 120]⟩])]) (Yf := Hook.obs (kHook hd.heap_39 hd.addrs hd.addrs_eq)) (Ya := Hook.val (kHook hd.heap_39 hd.addrs hd.addrs_eq)) (YP := Hook.says (kHook hd.heap_39 hd.addrs hd.addrs_eq)) (N := 5038) ?hl (Hook.of (kHook hd.heap_39 hd.addrs hd.addrs_eq)) (Hook.keeps (kHook hd.heap_39 hd.addrs hd.addrs_eq)) ?h1 ?h2 ?h3 ?h4 ?h5 ?h6 ?h7 ?h8 ?h9 ?h10 ?hw ?hc
    case hc => exact walk
    case hl => exact hd.left
    case h1 => exact fun s e => xl_of s (Bool.and_eq_true_iff.mp e).1
    case h2 => exact XL.keeps
    case h3 => rfl
    case h4 => rfl
    case h5 => rfl
    case h6 => exact (fun s e => recFacts_of (Bool.and_eq_true_iff.mp e).2)
    case h7 => rfl
    case h8 => decide +kernel
    case h9 => decide +kernel
    case h10 => exact ⟨rfl, rfl, rfl, rfl, rfl, by decide +kernel⟩
    case hw => w_witness2
theorem hdT (walk : walkT) : Challenge.rw_up0052_01.Holds := by
  refine holds_law hd.said fun _ => ?_
  refine' holds_open (q := hd.view_39) (loose := [Str.ofString "LendError", Str.ofString "PLAIN_NAMES"]) (Xt := hd.xt) (XP := XL hd.view_39 [(Str.ofString "PLAIN_NAMES", WData.tuple [WData.str ⟨#[105, 56]⟩, WData.str ⟨#[105, 49, 54]⟩, WData.str ⟨#[105, 51, 50]⟩, WData.str ⟨#[105, 54, 52]⟩, WData.str ⟨#[117, 56]⟩, WData.str ⟨#[117, 49, 54]⟩, WData.str ⟨#[117, 51, 50]⟩, WData.str ⟨#[117, 54, 52]⟩, WData.str ⟨#[117, 115, 105, 122, 101]⟩, WData.str ⟨#[98, 111, 111, 108]⟩, WData.str ⟨#[66, 111, 120]⟩])]) (Yf := Hook.obs (kHook hd.heap_39 hd.addrs hd.addrs_eq)) (Ya := Hook.val (kHook hd.heap_39 hd.addrs hd.addrs_eq)) (YP := Hook.says (kHook hd.heap_39 hd.addrs hd.addrs_eq)) (N := 5038) ?hl (Hook.of (kHook hd.heap_39 hd.addrs hd.addrs_eq)) (Hook.keeps (kHook hd.heap_39 hd.addrs hd.addrs_eq)) ?h1 ?h2 ?h3 ?h4 ?h5 ?h6 ?h7 ?h8 ?h9 ?h10 ?hw ?hc
  case hc => exact walk
  case hl => exact hd.left
  case h1 => exact fun s e => xl_of s (Bool.and_eq_true_iff.mp e).1
  case h2 => exact XL.keeps
  case h3 => rfl
  case h4 => rfl
  case h5 => rfl
  case h6 => exact (fun s e => recFacts_of (Bool.and_eq_true_iff.mp e).2)
  case h7 => rfl
  case h8 => decide +kernel
  case h9 => decide +kernel
  case h10 => exact ⟨rfl, rfl, rfl, rfl, rfl, by decide +kernel⟩
  case hw => w_witness2
end

/- LW -/
section
local macro_rules | `(tactic| ktr_step) => `(tactic| repeat' (first | ((fail_if_success (with_reducible show wpAny _ _ (exec (Stmt.While _ _ _ _) _) _ _ _)); (fail_if_success (with_reducible show wpAny _ _ (exec (Stmt.For _ _ _ _ _) _) _ _ _)); (fail_if_success (with_reducible show wpAny _ _ (call (Value.ref _) _) _ _ _)); (fail_if_success (with_reducible show wpAny _ _ (setItem (Value.ref _) (Value.ref _) _) _ _ _)); (fail_if_success (with_reducible show wpAny _ _ (binaryOp _ (Value.ref _) (Value.ref _)) _ _ _)); (first | (k_unfold; (try dsimp only)) | (k_end; wrow_close) | walk1 | (dsimp only; walk1) | (leave1; try dsimp only)))))
local macro_rules | `(tactic| walk_at "eval Name") => `(tactic| (k_here; (with_reducible show wpAny _ _ (eval (PySem.Expr.Name _ _) (compEnvC _ _ _ _)) _ _ _); k_dflt (first
  | refine LCgL.ld_own (by k_asm) (by k_mem) (by assumption) (by assumption) ?_
  | refine LCgL.ld_global (by k_asm) (by k_asm) (by k_asm) (by k_is) ?_
  | refine kcf_cell (by k_asm) (by rfl) (by k_mem) (by k_asm) ?_)))
local macro_rules | `(tactic| ktr_room) => `(tactic| first | decide | fail "room")
local macro_rules | `(tactic| k_qdec) => `(tactic| decide +kernel)
local macro_rules | `(tactic| ktr_units) => `(tactic| first | decide | fail "units")
theorem execs_named {M : Model} {A : Around} {b : List Stmt} {env : Env} {Q : Flow → Shared → Prop} {E : Value → Shared → Prop} {s : Shared} (hP : PassesOwn M A env E) (h : ∀ Q' E', Q' = Q → E' = E → PassesOwn M A env E' → wpAny M A (execs b env) Q' E' s) : wpAny M A (execs b env) Q E s := h _ _ rfl rfl hP
theorem mem_of4 {h₀ h : Heap} {L : Addr} {l : List (Addr × Obj)} {q : Addr × Obj} (_N : News h₀ L h l) (hm : q ∈ l) : q ∈ l := hm
theorem walk : walkT := by
  delta walkT
  k_go0
  all_goals try k_fold
  refine execs_named (by first | with_reducible exact PassesOwn.leaving | exact PassesOwn.leaving) ?_
  intro QQ EE hQQ hEE hPE
  ktr_step
  rename Below callerA _ _ _ => hB
  rename Frag.In _ _ => hX
  rename Top _ _ _ _ _ _ => hT
  rename Fr _ _ _ _ => lF
  rename News _ _ _ _ => lN
  rename IntsAre _ _ => hI
  rename Heap.IsList _ _ _ => hL
  refine wpAny_call (pool_spec _ _ _ _ hI ?z _ _ _ _ _ _ _ _ _ _ _ _ _ _ _ _ _ _ _ _ _ hL ⟨hB, hX, hT, hX, hT⟩ lF lN ?k7 ?k8 ?k9 ?_)
  case z => omega
  case k7 => exact rfl
  case k8 => decide
  case k9 => decide
  intro r9 h9 tk9 n9 F9 N9 P9
  obtain ⟨src, g, x, t1, t2, n, hg, hx, rfl, rfl, hsrc⟩ := P9
  clear lF lN
  clear hI hL
  generalize bindL _ _ _ = mb0 at F9
  revert mb0
  refine lock ?_
  intro mb0 F9
  generalize hL0 : Array.size (Heap.objs (Shared.heap _)) = L0 at *
  clear hL0
  revert L0
  refine lock ?_
  intros
  try rename Fr _ _ _ _ => F9
  try rename News _ _ _ _ => N9
  try rename PassesOwn _ _ _ _ => hPE
  try rename QQ = _ => hQQ
  try rename EE = _ => hEE
  try rename Below _ _ _ _ => hB
  try rename ∀ p ∈ _, p.1 ≠ src => hsrc
  repeat' (first | ((fail_if_success (with_reducible show wpAny _ _ (storeName _ _ _) _ _ _)); (first | (k_unfold; (try dsimp only)) | (k_end; wrow_close) | walk1 | (dsimp only; walk1) | (leave1; try dsimp only))))
  have C9 : LawC _ _ _ none none none none none := LawC.of (src := src) N9 (by repeat (first | exact List.Mem.head _ | apply List.Mem.tail)) (by repeat (first | exact List.Mem.head _ | apply List.Mem.tail)) (by repeat (first | exact List.Mem.head _ | apply List.Mem.tail)) (by repeat (first | exact List.Mem.head _ | apply List.Mem.tail)) (by repeat (first | exact List.Mem.head _ | apply List.Mem.tail)) (.head _) (by assumption) (by assumption) (by assumption) (by assumption) (by assumption) ⟨g, x, t1, t2, n, hg, hx, rfl⟩
  refine store_cell_any F9 N9 rfl (by repeat (first | exact List.Mem.head _ | apply List.Mem.tail)) (by assumption) ?_
  intro h8 o8 l8 F8 N8 M8 K8 D8
  have C8 := C9.store1 N9 (by repeat (first | exact List.Mem.head _ | apply List.Mem.tail)) (by assumption) M8 K8 D8
  have hsm : (src, listOf #[.int g t1, .int x t2] n) ∈ l8 := K8 _ (.head _) (C9.src_ne N9 (by repeat (first | exact List.Mem.head _ | apply List.Mem.tail)) (by assumption))
  clear F9 N9 C9 K8
  refine LawC.elim C8 ?_; intro o1 o2 o3 o4 o5 os a1 a2 a3 a4 a5 a6 e1 e2 e3 e4 e5 ho
  ktr_step
  rename Fr _ _ _ _ => lF
  rename News _ _ _ _ => lN
  rename_i thm _ _ hthm
  k_dflt (refine' one_use [.ref _, .ref _, .ref _] 0 ?h1 ho ?h2 (Nat.ne_of_gt (hthm _ (.tail _ (.tail _ (.tail _ a6))))) ?h3 ?h4 ?k1 ?k2 ?k3 ?k4 ?k5 ?k6 ?k7 ?k8 ?k9 ?_; (case k4 => exact lN); (case h2 => exact List.Mem.head _); (case h1 => exact List.Mem.tail _ (List.Mem.tail _ (List.Mem.tail _ (List.Mem.tail _ a6)))); (case h3 => exact Nat.le_of_ble_eq_true rfl); (case h4 => exact Nat.le_of_ble_eq_true rfl); (case k1 => exact hB); (case k2 => exact lF); (case k3 => exact hX); (case k5 => exact hT); (case k6 => exact ⟨hX, hT⟩); (case k7 => exact rfl); (case k8 => decide); (case k9 => decide); k_whole)
  intro r9 h9 tk9 n9 F9 N9 DR P9
  have KL := drawn_keep lN (.tail _ (.tail _ (.tail _ (.tail _ a6)))) ho DR
  have C9 := LawC.drawn lN (C8.sub (fun q hq => .tail _ (.tail _ (.tail _ (.tail _ hq))))) DR
  obtain ⟨Tm, one, other, tk1, tk2, rfl, hTm, hmenu⟩ := menu_pick P9 (KL _ (.tail _ (.tail _ (.tail _ (.head _)))) tup_ne_list) (KL _ (.tail _ (.tail _ (.head _))) tup_ne_list) (KL _ (.tail _ (.head _)) tup_ne_list)
  clear lF lN KL DR P9 C8 a1 a2 a3 a4 a5 a6 e1 e2 e3 e4 e5 ho hsm M8 D8 hthm
  refine LawC.elim C9 ?_; intro o1 o2 o3 o4 o5 os a1 a2 a3 a4 a5 a6 e1 e2 e3 e4 e5 ho
  repeat' (first | ((fail_if_success (with_reducible show wpAny _ _ (storeName _ _ _) _ _ _)); (first | (k_unfold; (try dsimp only)) | (k_end; wrow_close) | walk1 | (dsimp only; walk1) | (leave1; try dsimp only))))
  rename Fr _ _ _ _ => lF
  rename News _ _ _ _ => lN
  generalize decide (0 < [g, x].getD (Int.toNat 0) 0) = G at lF
  revert G
  refine lock ?_
  intro G lF
  refine store_cell_any lF lN rfl a2 e2 ?_
  intro h8 p8 l8 F8 N8 M8 K8 D8
  have C8 := C9.store2 lN a2 e2 M8 K8 D8
  clear lF lN C9 a1 a2 a3 a4 a5 a6 e1 e2 e3 e4 e5 ho hTm
  refine LawC.elim C8 ?_; intro q1 q2 q3 q4 q5 qs a1 a2 a3 a4 a5 a6 e1 e2 e3 e4 e5 ho
  repeat' (first | ((fail_if_success (with_reducible show wpAny _ _ (storeName _ _ _) _ _ _)); (first | (k_unfold; (try dsimp only)) | (k_end; wrow_close) | walk1 | (dsimp only; walk1) | (leave1; try dsimp only))))
  refine store_cell_any F8 N8 rfl a3 e3 ?_
  intro h7 p7 l7 F7 N7 M7 K7 D7
  have C7 := C8.store3 N8 a3 e3 M7 K7 D7
  clear F8 N8 M8 K8 D8 M7 K7 D7 C8 a1 a2 a3 a4 a5 a6 e1 e2 e3 e4 e5 ho
  refine LawC.elim C7 ?_; intro r1 r2 r3 r4 r5 rs a1 a2 a3 a4 a5 a6 e1 e2 e3 e4 e5 ho
  have hsm := menu_small _ hmenu
  have hol : one.length ≤ 20 := hsm.1
  have htl : other.length ≤ 20 := hsm.2
  repeat' (first | ((fail_if_success (with_reducible show wpAny _ _ (eval (PySem.Expr.IfExp _ _ _ _) _) _ _ _)); (first | (k_unfold; (try dsimp only)) | (k_end; wrow_close) | walk1 | (dsimp only; walk1) | (leave1; try dsimp only))))
  rename Fr _ _ _ _ => lF
  rename News _ _ _ _ => lN
  have P1 := PT.of lN (.tail _ (.tail _ (.tail _ (.head _)))) strs1
  have P2 := PT.of lN (.tail _ (.tail _ (.head _))) strs2
  have P3 := PT.of lN (.tail _ (.head _)) strs1
  have P0 := mem_of4 lN (.head _)
  have C6 := C7.subN lN (fun q hq => .tail _ (.tail _ (.tail _ (.tail _ hq))))
  clear C7 a1 a2 a3 a4 a5 a6 e1 e2 e3 e4 e5 ho
  generalize (_ :: _ :: _ :: _ :: l7 : List (Addr × Obj)) = l6 at lN P1 P2 P3 P0 C6
  revert l6
  refine lock ?_
  intro l6 lN P1 P2 P3 P0 C6
  refine LawC.elim C6 ?_; intro q1 q2 q3 q4 q5 qs a1 a2 a3 a4 a5 a6 e1 e2 e3 e4 e5 ho
  refine eval_cutE lF (PathsJ l6 (extraP one other G)) ?i1 ?i2
  case i1 =>
    cases G with
    | true =>
      ktr_step
      rename Fr _ _ _ _ => lF
      rename News _ _ _ _ => lN
      exact CutEnd.intro lF lN (pathsJ_two lN (fun q hq => .tail _ (.tail _ (.tail _ hq))) (.head _) (.tail _ (.tail _ (.head _))) (.tail _ (.head _)) strs3 strs2)
    | false =>
      ktr_step
      rename Fr _ _ _ _ => lF
      rename News _ _ _ _ => lN
      exact CutEnd.intro lF lN (pathsJ_none lN (fun q hq => .tail _ hq) (.head _))
  case i2 =>
    intro v5 h5 tk5 l5 lF5 lN5 J5
    obtain ⟨e5', vs5, k5, rfl, K5, he5, hz5, A5⟩ := J5
    clear lF lN
    ktr_step
    refine add_any lF5 lN5 (K5 _ P0) he5 (by simp; omega) ?_
    intro pl h4 lF4 lN4 lpl
    have A4 := paths_all lN4 (fun q hq => .tail _ hq) K5 P1 P2 P3 A5
    have C4 := C6.subN lN4 (fun q hq => .tail _ (K5 q hq))
    have hpls : pl ≠ src := Nat.ne_of_gt (lpl _ (K5 _ a6))
    have hplm := mem_of4 lN4 (.head _)
    generalize ([Value.ref _, Value.ref _, Value.ref _] ++ vs5) = zs at lN4 A4 C4 hplm
    revert zs
    refine lock ?_
    intro zs lN4 A4 C4 hplm
    generalize ((pl, listOf zs.toArray 0) :: l5) = l4 at lN4 A4 C4 hplm
    revert l4
    refine lock ?_
    intro l4 lN4 A4 C4 hplm
    clear lF5 lN5 P0 P1 P2 P3 A5 he5 C6 a1 a2 a3 a4 a5 a6 e1 e2 e3 e4 e5 ho K5 lpl
    refine LawC.elim C4 ?_; intro q1 q2 q3 q4 q5 qs a1 a2 a3 a4 a5 a6 e1 e2 e3 e4 e5 ho
    repeat' (first | ((fail_if_success (with_reducible show wpAny _ _ (eval (PySem.Expr.Dict _ _ _) _) _ _ _)); (first | (k_unfold; (try dsimp only)) | (k_end; wrow_close) | walk1 | (dsimp only; walk1) | (leave1; try dsimp only))))
    rename Fr _ _ _ _ => lF
    have hsys := lF.notModules (modules_low (Top.nolimit hT))
    ktr_step
    rename Fr _ _ _ _ => lF
    rename News _ _ _ _ => lN
    rename Obj.IsDictOf (intKind _ _) _ _ => dD0
    have hDk := mem_of4 lN (.head _)
    have hDd := mem_of4 lN (.tail _ (.head _))
    have hsl := mem_of2 lN (fun q (hq : q ∈ l4) => .tail _ (.tail _ hq))
    generalize (_ :: _ :: l4 : List (Addr × Obj)) = l3 at lN hDk hDd hsl
    revert l3
    refine lock ?_
    intro l3 lN hDk hDd hsl
    k_dflt (refine' take_use ?k0 ho (by decide) (by decide) ?k1 ?k2 ?k3 ?k4 ?k5 ?k6 ?k7 ?k8 ?k9 ?_; (case k4 => exact lN); (case k0 => exact hsl _ a6); (case k1 => exact hB); (case k2 => exact lF); (case k3 => exact hX); (case k5 => exact hT); (case k6 => exact ⟨hX, hT⟩); (case k7 => exact rfl); (case k8 => decide); (case k9 => decide); k_whole)
    intro d9 tk9' h9 tk9 n9 F9 N9 DR hd0 hd2
    have KL := drawn_keep lN (hsl _ a6) ho DR
    have C2 := LawC.drawn lN (C4.sub hsl) DR
    have A2 := A4.mono fun _ _ h => h.mono fun q hq ht => KL q (hsl q hq) (by rw [ht]; intro e; injection e with e; exact absurd e (by decide))
    have hpl9 := DR.2 _ (hsl _ hplm) hpls
    have hDk9 := KL _ hDk (by intro e; injection e with e; exact absurd e (by decide))
    have hDd9 := KL _ hDd (by rw [dict_clsI dD0]; intro e; injection e with e; exact absurd e (by decide))
    clear lF lN KL DR A4 C4 a1 a2 a3 a4 a5 a6 e1 e2 e3 e4 e5 ho hplm hDk hDd hsl
    refine LawC.elim C2 ?_; intro q1 q2 q3 q4 q5 qs a1 a2 a3 a4 a5 a6 e1 e2 e3 e4 e5 ho
    ktr_step
    refine seen_make F9 N9 hDk9 strs1 hDd9 hsys dD0 (show callerA.units + 3 < cLine by decide) ?_
    intro h3 tk3 l3 lF3 lN3 T3 K3
    have hdcls := dict_clsI dD0
    have hds : (_, _).1 ≠ (src, qs).1 := off_obj N9 hDd9 a6 (by obtain ⟨es9, ep9, _, hdat9, _⟩ := dD0; dsimp only; rw [hdat9]; obtain ⟨us9, n9', e9'⟩ := srcOk_seq ho; rw [e9']; intro e; cases e)
    have C3 := LawC.kept N9 C2 hDd9 (by obtain ⟨es9, ep9, _, hdat9, _⟩ := dD0; intro v; rw [hdat9]; intro e; cases e) hds K3
    have A3 : All2 (PT l3) zs (pathsP one other G) := A2.mono fun _ _ h => h.mono fun q hq ht => K3 q hq (off_cls N9 hq hDd9 ht hdcls (by decide))
    have hpl3 := K3 _ hpl9 (off_cls N9 hpl9 hDd9 rfl hdcls (by decide))
    clear F9 N9 C2 A2 hpl9 hDk9 hDd9 K3 a1 a2 a3 a4 a5 a6 e1 e2 e3 e4 e5 ho hdcls hds dD0 hsys
    refine LawC.elim C3 ?_; intro q1 q2 q3 q4 q5 qs a1 a2 a3 a4 a5 a6 e1 e2 e3 e4 e5 ho
    refine store_cell_any lF3 lN3 rfl a4 e4 ?_
    intro h8 p8 l8 F8 N8 M8 K8 D8
    have C8 := C3.store4 lN3 a4 e4 M8 K8 D8
    have Kc := cell_keep lN3 a4 e4 K8
    have A8 := PT.cell lN3 a4 e4 K8 A3
    have T8 := T3.mono2 fun q hq _ hc => Kc q hq hc
    have hpl8 := Kc _ hpl3 list_no_cell
    clear lF3 lN3 C3 A3 hpl3 T3 Kc K8 M8 D8 a1 a2 a3 a4 a5 a6 e1 e2 e3 e4 e5 ho
    refine LawC.elim C8 ?_; intro q1 q2 q3 q4 q5 qs a1 a2 a3 a4 a5 a6 e1 e2 e3 e4 e5 ho
    have X8 : LS _ l8 src _ pl _ _ _ _ _ _ zs (pathsP one other G) _ := ⟨T8, C8, A8, hpl8⟩
    clear T8 C8 A8 hpl8
    obtain ⟨hpn, hpf⟩ := menu_paths _ hmenu G (by cases G <;> simp)
    dsimp only at hpn hpf
    have hlen8 : zs.length = (pathsP one other G).length := X8.A.len
    have hplen : (pathsP one other G).length ≤ 5 := by cases G <;> simp [pathsP, extraP]
    ktr_step
    k_dflt (refine' For_turns ?zf ?zt ?zs ?ze)
    case zf => exact F8
    case zs => exact fun _ => rfl
    case ze => exact hPE
    ktr_step
    rename Fr _ _ _ _ => lF
    rename News _ _ _ _ => lN
    with_unfolding_all refine iter_listTurns (by rfl) lF lN X8.pl rfl rfl ?_
    intro I lI
    have hI0 : ∀ q ∈ l8, q.1 ≠ I := fun q hq => Nat.ne_of_lt (lI q hq)
    clear lF lN lI a1 a2 a3 a4 a5 a6 e1 e2 e3 e4 e5 ho
    obtain ⟨J1, hJ1⟩ := X8.hide I
    refine items_from (fun m0 n0 => J1 m0) ?zstart ?zzero ?zturn
    case zstart => rw [hJ1]; exact X8.start (.root _) hI0 _
    case zzero =>
      intro m1 n1 hJ0 h1 tk1 lF lN
      rw [hJ1] at hJ0
      obtain ⟨vs2, ps1, ps2, S, u, hits, hA2, hps, hg, hT1, hC1, hA1, hpl1, hoff, rfl⟩ := hJ0
      cases vs2 with
      | cons v vs2 => cases hits
      | nil =>
      cases hA2 with
      | nil =>
      rw [List.append_nil] at hps
      subst hps
      have X0 : LS _ n1 src _ pl _ _ _ _ _ _ zs (pathsP one other G) S := ⟨hT1, hC1, hA1, hpl1⟩
      refine LawC.elim X0.C ?_; intro o1 o2 o3 o4 o5 os a1 a2 a3 a4 a5 a6 e1 e2 e3 e4 e5 ho
      clear hT1 hC1 hA1 hpl1 hoff
      ktr_step
      rename Fr _ _ _ _ => lF
      rename News _ _ _ _ => lN
      have XA := X0.sub lN (fun q hq => .tail _ hq)
      k_dflt (refine' take_use ?k0 ho (by decide) (by decide) ?k1 ?k2 ?k3 ?k4 ?k5 ?k6 ?k7 ?k8 ?k9 ?_; (case k4 => exact lN); (case k0 => exact (.tail _ a6)); (case k1 => exact hB); (case k2 => exact lF); (case k3 => exact hX); (case k5 => exact hT); (case k6 => exact ⟨hX, hT⟩); (case k7 => exact rfl); (case k8 => decide); (case k9 => decide); k_whole)
      intro d9 tk9' h9 tk9 n9 F9 N9 DR hd0 hd2
      have XB := XA.drawn lN hpls DR
      have KT := XA.tup_drawn lN DR
      have hDe := KT _ (.head _) (.inl rfl)
      clear lF lN DR KT XA X0 a1 a2 a3 a4 a5 a6 e1 e2 e3 e4 e5 ho
      refine LawC.elim XB.C ?_; intro o1 o2 o3 o4 o5 os a1 a2 a3 a4 a5 a6 e1 e2 e3 e4 e5 ho
      ktr_step
      rename Fr _ _ _ _ => lF
      rename News _ _ _ _ => lN
      have hSok := gen_ok hmenu hg
      k_dflt (refine' Spec.use (items_spec _ _ S _ (Nat.le_trans hSok.len (by decide)) (fun x hx => ⟨(hSok.ne x hx).1, Nat.le_trans (hSok.ne x hx).2 (by decide)⟩) hSok.nodup 20 [] _ _ (fun x hx => by simpa using (hSok.ne x hx).2) ⟨_, hDe, .nil⟩ XB.T) ?k1 ?k2 ?k3 ?k4 ?k5 ?k6 ?k7 ?k8 ?k9 ?_; (case k4 => exact lN); (case k1 => exact hB); (case k2 => exact lF); (case k3 => exact hX); (case k5 => exact hT); (case k6 => exact ⟨hX, hT⟩); (case k7 => exact rfl); (case k8 => decide); (case k9 => decide); k_whole)
      intro r9 h9 tk9 n9 F9 N9 P9
      obtain ⟨K9, Dm, ms, km, rfl, hDm, hmz, hms⟩ := P9
      have XC := XB.sub N9 K9
      clear lF lN XB hDe a1 a2 a3 a4 a5 a6 e1 e2 e3 e4 e5 ho
      ktr_step
      rename Fr _ _ _ _ => lF
      rename News _ _ _ _ => lN
      k_dflt (refine' modules_make _ Dm ms km _ _ _ _ _ _ _ _ _ _ _ _ _ _ _ _ _ _ _ _ _ hDm hmz _ (gen_uni hmenu) S hSok _ _ hms ⟨hB, hX, hT, ⟨hX, hT⟩⟩ lF lN ?k7 ?k8 ?k9 ?_; (case k7 => exact rfl); (case k8 => decide); (case k9 => decide); k_whole)
      intro r9 h9 tk9 n9' F9 N9 P9
      obtain ⟨mo, dx, rfl, hMU, hMK⟩ := P9
      have XD := XC.sub N9 (fun q hq => (hMK q hq).1)
      clear lF lN hDm hms
      refine LawC.elim XD.C ?_; intro o1 o2 o3 o4 o5 os a1 a2 a3 a4 a5 a6 e1 e2 e3 e4 e5 ho
      repeat' (first | ((fail_if_success (with_reducible show wpAny _ _ (storeName _ _ _) _ _ _)); (first | (k_unfold; (try dsimp only)) | (k_end; wrow_close) | walk1 | (dsimp only; walk1) | (leave1; try dsimp only))))
      obtain ⟨osd, hosd, _, _⟩ := XC.T.obj
      have hsdx := (hMK _ hosd).2
      dsimp only at hsdx
      clear hosd
      rename Fr _ _ _ _ => lF
      rename News _ _ _ _ => lN
      refine store_cell_any lF lN rfl a5 e5 ?_
      intro h8 p8 lb F8 N8 M8 K8 D8
      have Kc := cell_keep lN a5 e5 K8
      have XE : LS _ lb src _ pl _ _ _ _ _ _ zs (pathsP one other G) S := ⟨XD.T.mono2 (fun q hq _ hc => Kc q hq hc), XD.C.store5 lN a5 e5 M8 K8 D8, PT.cell lN a5 e5 K8 XD.A, Kc _ XD.pl list_no_cell⟩
      have hM := hMU.solid (l' := lb) (fun q hq hs => Kc q hq hs.2)
      clear lF lN XC XD hMU hMK K9 Kc M8 K8 D8 a1 a2 a3 a4 a5 a6 e1 e2 e3 e4 e5 ho
      refine LawC.elim XE.C ?_; intro o1 o2 o3 o4 o5 os a1 a2 a3 a4 a5 a6 e1 e2 e3 e4 e5 ho
      ktr_step
      rename Fr _ _ _ _ => lF
      rename News _ _ _ _ => lN
      have K7 := mem_of2 lN (fun q (hq : q ∈ lb) => .tail _ (.tail _ (.tail _ (.tail _ (.tail _ (.tail _ (.tail _ hq)))))))
      have hA2 := AskAt.of lN (.tail _ (.head _)) (.tail _ (.tail _ (.tail _ (.head _)))) (.tail _ (.tail _ (.head _))) strs2 strs4
      have hA1 := AskAt.of lN (.tail _ (.tail _ (.tail _ (.tail _ (.head _))))) (.tail _ (.tail _ (.tail _ (.tail _ (.tail _ (.tail _ (.head _))))))) (.tail _ (.tail _ (.tail _ (.tail _ (.tail _ (.head _)))))) strs1 strs2
      have haks := src_off lN (K7 _ a6) ho (.head _)
      have hplk := pl_off lN (K7 _ XE.pl) (.head _) (by rw [hlen8]; exact pathsP_len3)
      have Z0 := AS.mk (XE.sub lN K7) (hM.solid fun q hq _ => K7 q hq) (.cons hA1 (.cons hA2 .nil)) (.head _)
      change AS _ _ _ _ _ _ _ _ _ _ _ _ _ _ _ _ _ _ _ (told one other) at Z0
      clear hA1 hA2 K7 XE hM a1 a2 a3 a4 a5 a6 e1 e2 e3 e4 e5 ho
      generalize (_ :: _ :: _ :: _ :: _ :: _ :: _ :: lb : List (Addr × Obj)) = lz at lN Z0
      revert lz
      refine lock ?_
      intro lz lN Z0
      k_dflt (refine' For_turns ?yf ?yt ?ys ?ye)
      case yf => exact lF
      case ys => exact fun _ => rfl
      case ye => exact hPE
      repeat' (first | ((fail_if_success (with_reducible show wpAny _ _ (eval (PySem.Expr.IfExp _ _ _ _) _) _ _ _)); (first | (k_unfold; (try dsimp only)) | (k_end; wrow_close) | walk1 | (dsimp only; walk1) | (leave1; try dsimp only))))
      refine eval_cutE lF (fun v l' => (∃ c tk, v = .int c tk ∧ 0 ≤ c ∧ c ≤ 6) ∧ l' = lz) ?j1 ?j2
      case j1 =>
        cases G with
        | true =>
          ktr_step
          exact CutEnd.intro (by k_asm) (by k_asm) ⟨⟨_, _, rfl, by decide, by decide⟩, rfl⟩
        | false =>
          ktr_step
          exact CutEnd.intro (by k_asm) (by k_asm) ⟨⟨_, _, rfl, by decide, by decide⟩, rfl⟩
      case j2 =>
        rintro v6 h6 tk6 l6' lF6 lN6 ⟨⟨c, tkr, rfl, hc0, hc6⟩, rfl⟩
        clear lF lN
        repeat' (first | ((fail_if_success (with_reducible show wpAny _ _ (call (Value.type _) _) _ _ _)); (first | (k_unfold; (try dsimp only)) | (k_end; wrow_close) | walk1 | (dsimp only; walk1) | (leave1; try dsimp only))))
        refine range1_rows lF6 lN6 ?_
        intro h7 tk7 t7 u7 v7 rg lF7 lN7 K7
        clear lF6 lN6 K7
        with_unfolding_all refine iter_rangeTurns (by rfl) rg (small_one (by decide) (by decide) (by omega) (by omega)) (rangeSize_nat _ _) lF7 lN7 ?_
        intro I lI
        have hI0' : ∀ q ∈ l6', q.1 ≠ I := fun q hq => Nat.ne_of_lt (lI q hq)
        clear lF7 lN7 lI rg
        obtain ⟨J2, hJ2⟩ := Z0.hide one other G (c - 0).toNat
        refine items_from (fun m0 n0 => J2 m0) ?start2 ?zero2 ?turn2
        case start2 => rw [hJ2]; exact Z0.start G _ _
        case turn2 =>
          intro it r m1 n1 hJ0 v1 h1 tk1 hv lF
          rw [hJ2] at hJ0
          obtain ⟨ask, n2, xs, u1, u2, u3, Z, hxs, hcn, hk, rfl⟩ := hJ0
          obtain ⟨kk, rfl⟩ := hk it (.head _)
          obtain ⟨tv, rfl⟩ := hv
          refine AllObj.cons (fun oI hcI => AllObj.nil (fun lN => ?_))
          dsimp only [List.cons_append, List.nil_append] at lN
          have hcI' : oI.cls = .type "range_iterator" := hcI
          have ZA := Z.sub lN (fun q hq => .tail _ hq)
          have hIA : (I, oI) ∈ (I, oI) :: n1 := .head _
          clear Z
          generalize ((I, oI) :: n1) = lA at lN ZA hIA
          revert lA
          refine lock ?_
          intro lA lN ZA hIA
          refine LawC.elim ZA.X.C ?_; intro o1 o2 o3 o4 o5 os a1 a2 a3 a4 a5 a6 e1 e2 e3 e4 e5 ho
          ktr_step
          rename Fr _ _ _ _ => lF
          rename News _ _ _ _ => lN
          refine tup_mul2 lF lN (.head _) ?_
          clear lF lN
          intro D2 h2 lF lN l2
          ktr_step
          rename Fr _ _ _ _ => lF
          rename News _ _ _ _ => lN
          refine tup_mul3 lF lN (.head _) ?_
          clear lF lN
          intro D3 h3 lF lN l3
          ktr_step
          rename Fr _ _ _ _ => lF
          rename News _ _ _ _ => lN
          have hsl := mem_of2 lN (fun q (hq : q ∈ lA) => .tail _ (.tail _ (.tail _ (.tail _ (.tail _ (.tail _ (.tail _ (.tail _ (.tail _ (.tail _ hq))))))))))
          have ZB := ZA.sub lN hsl
          have hths := src_offS lN (hsl _ a6) ho (.head _) (by simp)
          k_dflt (refine' one_use [.ref _, .ref _, .ref _, .ref _, .ref _, .ref _, .ref _] 0 ?h1 ho ?h2 hths ?h3 ?h4 ?k1 ?k2 ?k3 ?k4 ?k5 ?k6 ?k7 ?k8 ?k9 ?_; (case k4 => exact lN); (case h2 => exact List.Mem.head _); (case h1 => exact hsl _ a6); (case h3 => exact Nat.le_of_ble_eq_true rfl); (case h4 => exact Nat.le_of_ble_eq_true rfl); (case k1 => exact hB); (case k2 => exact lF); (case k3 => exact hX); (case k5 => exact hT); (case k6 => exact ⟨hX, hT⟩); (case k7 => exact rfl); (case k8 => decide); (case k9 => decide); k_whole)
          intro r9 h9 tk9 n9 F9 N9 DR P9
          have ZC := ZB.drawn lN hpls haks DR
          have KL := ZB.X.keep lN DR
          obtain ⟨ah, ahL, ahV, rfl, hah, hAm, hAs⟩ := ahead_pick P9 (KL _ (by repeat (first | exact List.Mem.head _ | apply List.Mem.tail)) tup_ne_list) (KL _ (by repeat (first | exact List.Mem.head _ | apply List.Mem.tail)) tup_ne_list) (KL _ (by repeat (first | exact List.Mem.head _ | apply List.Mem.tail)) tup_ne_list) (KL _ (by repeat (first | exact List.Mem.head _ | apply List.Mem.tail)) tup_ne_list) (KL _ (by repeat (first | exact List.Mem.head _ | apply List.Mem.tail)) tup_ne_list) (KL _ (by repeat (first | exact List.Mem.head _ | apply List.Mem.tail)) tup_ne_list) (KL _ (by repeat (first | exact List.Mem.head _ | apply List.Mem.tail)) tup_ne_list)
          have hIC := KL _ (hsl _ hIA) (by rw [hcI']; intro e; injection e with e; exact absurd e (by decide))
          clear lF lN KL DR P9 ZA ZB hths hsl hIA l2 l3 a1 a2 a3 a4 a5 a6 e1 e2 e3 e4 e5 ho
          refine LawC.elim ZC.X.C ?_; intro o1 o2 o3 o4 o5 os a1 a2 a3 a4 a5 a6 e1 e2 e3 e4 e5 ho
          repeat' (first | ((fail_if_success (with_reducible show wpAny _ _ (exec (Stmt.Assign _ (PySem.Expr.ListComp _ _ _ _) _) _) _ _ _)); (first | (k_unfold; (try dsimp only)) | (k_end; wrow_close) | walk1 | (dsimp only; walk1) | (leave1; try dsimp only))))
          rename Fr _ _ _ _ => lF
          rename News _ _ _ _ => lN
          k_dflt (refine assign_comp_range (fun v m₂ => True) lF (by rfl) (by with_unfolding_all rfl) (by with_unfolding_all rfl) (by decide) (by rfl) (by decide) (by rfl) (by rfl) ?_)
          ktr_step
          rename Fr _ _ _ _ => lF
          rename News _ _ _ _ => lN
          k_dflt (refine' take_use ?k0 ho (by decide) (by decide) ?k1 ?k2 ?k3 ?k4 ?k5 ?k6 ?k7 ?k8 ?k9 ?_; (case k4 => exact lN); (case k0 => exact a6); (case k1 => exact hB); (case k2 => exact lF); (case k3 => exact hX); (case k5 => exact hT); (case k6 => exact ⟨hX, hT⟩); (case k7 => exact rfl); (case k8 => decide); (case k9 => decide); k_whole)
          intro d9 tk9' h9 tk9 n9' F9 N9 DR hd0 hd3
          have KL := ZC.X.keep lN DR
          have ZD := ZC.drawn lN hpls haks DR
          have hAD := KL _ hAm tup_ne_list
          have hID := KL _ hIC (by rw [hcI']; intro e; injection e with e; exact absurd e (by decide))
          clear lF lN KL DR ZC hAm hIC a1 a2 a3 a4 a5 a6 e1 e2 e3 e4 e5 ho
          repeat' (first | ((fail_if_success (with_reducible show wpAny _ _ (call (Value.type _) _) _ _ _)); (first | (k_unfold; (try dsimp only)) | (k_end; wrow_close) | walk1 | (dsimp only; walk1) | (leave1; try dsimp only))))
          refine range1_rows F9 N9 ?_
          intro h8 tk8 t8 u8 v8 rg lF8 lN8 K8
          clear F9 N9 K8

          obtain ⟨SK, hSK⟩ := ZD.hideK (ah, tupObj ahV) (I, oI)
          have hS0 : SK n9' := by rw [hSK]; exact ⟨ZD, hAD, hID⟩
          refine ⟨_, 0, d9, _, _, _, (d9 - 0).toNat, SK, n9', rfl, rfl, lF8, lN8, rg, small_one (by decide) (by decide) (by omega) (by omega), rangeSize_nat _ _, (by rw [PySem.sizeLine_eq]; omega), hS0, ?ca, ?cb⟩
          case ca => exact fun i v s' C m' news' Q E hv hS hN hn k => assign_name (by rfl) (by rfl) hn fun h' tk m'' a _ b => k h' tk m'' a trivial b
          case cb =>
            intro gh
            refine crest_ind (fun i ys nw => SK nw ∧ ∃ ds : List Str, StrsAre ys ds ∧ ds.length = i ∧ ∀ n ∈ ds, n ∈ downL one other) ?cfin ?cturn _ 0 [] _ (Nat.zero_add _) ⟨hS0, [], .nil, rfl, by simp⟩
            case cturn =>
              rintro i ys nw hi ⟨hK, ds, hds, hdl, hdm⟩ v Ic oIc C oC D m₂ h tk E' hP hC hTg lF lN hS hoff hne
              rw [hSK] at hK
              have ZE := hK.1.sub lN (fun q hq => .tail _ (.tail _ (.tail _ hq)))
              refine LawC.elim ZE.X.C ?_; intro o1 o2 o3 o4 o5 os a1 a2 a3 a4 a5 a6 e1 e2 e3 e4 e5 ho
              repeat' (first | ((fail_if_success (with_reducible show wpAny _ _ (call (Value.ref _) _) _ _ _)); (fail_if_success (with_reducible show wpAny _ _ (call (Value.type _) _) _ _ _)); (fail_if_success (with_reducible show wpAny _ _ (call (Value.builtin _) _) _ _ _)); (fail_if_success (with_reducible show wpAny _ _ (binaryOp _ (Value.ref _) (Value.ref _)) _ _ _)); (first | (k_unfold; (try dsimp only)) | (k_end; wrow_close) | walk1 | (dsimp only; walk1) | (leave1; try dsimp only))))
              rename Fr _ _ _ _ => lF
              rename News _ _ _ _ => lN
              have hths := src_offS lN (.tail _ a6) ho (.head _) (by simp)
              k_dflt (refine' one_use [.str _ _, .str _ _, .str _ _, .str _ _, .str _ _] 0 ?h1 ho ?h2 hths ?h3 ?h4 ?k1 ?k2 ?k3 ?k4 ?k5 ?k6 ?k7 ?k8 ?k9 ?_; (case k4 => exact lN); (case h2 => exact List.Mem.head _); (case h1 => exact List.Mem.tail _ a6); (case h3 => exact Nat.le_of_ble_eq_true rfl); (case h4 => exact Nat.le_of_ble_eq_true rfl); (case k1 => exact hB); (case k2 => exact lF); (case k3 => exact hX); (case k5 => exact hT); (case k6 => exact ⟨hX, hT⟩); (case k7 => exact rfl); (case k8 => decide); (case k9 => decide); k_whole)
              intro r9 h9 tk9 n9'' F9 N9 DR P9
              obtain ⟨nm, tkn, rfl, hnm⟩ := down_pick P9
              have N0 := news_sub lN (fun q (hq : q ∈ nw) => .tail _ (.tail _ (.tail _ (.tail _ hq))))
              obtain ⟨nw', DR', off', hsub, _⟩ := drawn_off3 (ex := [(_, _)]) hK.1.srcm DR hoff
              have ZF := hK.1.drawn N0 hpls haks DR'
              have KL := hK.1.X.keep N0 DR'
              have hKp : SK nw' := by
                rw [hSK]
                exact ⟨ZF, KL _ hK.2.1 tup_ne_list, KL _ hK.2.2 (by rw [hcI']; intro e; injection e with e; exact absurd e (by decide))⟩
              exact LCg.CompEnd.intro F9 N9 nw' hsub off' hKp ⟨hKp, ds ++ [nm], strsAre_append hds strs1, by simp [hdl], fun n hn => by
                rcases List.mem_append.mp hn with hn | hn
                · exact hdm n hn
                · rw [List.mem_singleton.mp hn]; exact hnm⟩
            case cfin =>
              rintro ys nw ⟨hK, ds, hds, hdl, hdm⟩ D' h' tk' lF lN o1
              rw [hSK] at hK
              try dsimp only
              have ZG := hK.1.sub lN (fun q hq => .tail _ hq)
              have hAG : (ah, tupObj ahV) ∈ (D', LCg.lst ys) :: nw := .tail _ hK.2.1
              have hIG : (I, oI) ∈ (D', LCg.lst ys) :: nw := .tail _ hK.2.2
              have hDG : (D', LCg.lst ys) ∈ (D', LCg.lst ys) :: nw := .head _
              obtain ⟨os0, _, hos0⟩ := hK.1.srcm
              have hDs := Ne.symm (off1_mem o1 _ hos0)
              clear hos0
              clear hSK hS0 ZD hAD hID hK rg lF8 lN8 o1
              generalize ((D', LCg.lst ys) :: nw) = lG at lN ZG hAG hIG hDG
              revert lG
              refine lock ?_
              intro lG lN ZG hAG hIG hDG
              refine LawC.elim ZG.X.C ?_; intro o1 o2 o3 o4 o5 os a1 a2 a3 a4 a5 a6 e1 e2 e3 e4 e5 ho
              have hakm := ZG.ak
              repeat' (first | ((fail_if_success (with_reducible show wpAny _ _ (call (Value.ref _) _) _ _ _)); (fail_if_success (with_reducible show wpAny _ _ (call (Value.type _) _) _ _ _)); (fail_if_success (with_reducible show wpAny _ _ (call (Value.builtin _) _) _ _ _)); (fail_if_success (with_reducible show wpAny _ _ (binaryOp _ (Value.ref _) (Value.ref _)) _ _ _)); (first | (k_unfold; (try dsimp only)) | (k_end; wrow_close) | walk1 | (dsimp only; walk1) | (leave1; try dsimp only))))
              rename Fr _ _ _ _ => lF
              rename News _ _ _ _ => lN
              refine add_any (us := [.ref _]) lF lN (.head _) (.tail _ (.tail _ ZG.X.pl)) (by simp; omega) ?_
              intro D2 h2 F2 N2 l2
              clear lF lN
              repeat' (first | ((fail_if_success (with_reducible show wpAny _ _ (call (Value.ref _) _) _ _ _)); (fail_if_success (with_reducible show wpAny _ _ (call (Value.type _) _) _ _ _)); (fail_if_success (with_reducible show wpAny _ _ (call (Value.builtin _) _) _ _ _)); (fail_if_success (with_reducible show wpAny _ _ (binaryOp _ (Value.ref _) (Value.ref _)) _ _ _)); (first | (k_unfold; (try dsimp only)) | (k_end; wrow_close) | walk1 | (dsimp only; walk1) | (leave1; try dsimp only))))
              rename Fr _ _ _ _ => lF
              rename News _ _ _ _ => lN
              have hsl := mem_of2 lN (fun q (hq : q ∈ lG) => .tail _ (.tail _ (.tail _ hq)))
              have ZH := ZG.sub lN hsl
              have hths := src_offS lN (hsl _ a6) ho (.head _) (by simp; have := pathsP_len3 (o := one) (t := other) (G := G); omega)
              k_dflt (refine' one_use ([.ref _] ++ zs) 0 ?h1 ho ?h2 hths ?h3 ?h4 ?k1 ?k2 ?k3 ?k4 ?k5 ?k6 ?k7 ?k8 ?k9 ?_; (case k4 => exact lN); (case h2 => exact List.Mem.head _); (case h1 => exact hsl _ a6); (case h3 => simp); (case h4 => (simp; omega)); (case k1 => exact hB); (case k2 => exact lF); (case k3 => exact hX); (case k5 => exact hT); (case k6 => exact ⟨hX, hT⟩); (case k7 => exact rfl); (case k8 => decide); (case k9 => decide); k_whole)
              intro r9 h9 tk9 n9'' F9 N9 DR P9
              have ZI := ZH.drawn lN hpls haks DR
              have KL := ZH.X.keep lN DR
              obtain ⟨as, asP, asV, rfl, has, hss, hasP⟩ := asker_pick P9 (KL _ (.tail _ (.tail _ (.head _))) tup_ne_list) ZI.X.A
              have hAJ := KL _ (hsl _ hAG) tup_ne_list
              have hIJ := KL _ (hsl _ hIG) (by rw [hcI']; intro e; injection e with e; exact absurd e (by decide))
              have hDJ := DR.2 _ (hsl _ hDG) hDs
              clear lF lN KL DR ZH ZG hAG hIG hDG hths hsl hakm P9 l2 a1 a2 a3 a4 a5 a6 e1 e2 e3 e4 e5 ho hDs
              repeat' (first | ((fail_if_success (with_reducible show wpAny _ _ (call (Value.ref _) _) _ _ _)); (fail_if_success (with_reducible show wpAny _ _ (call (Value.type _) _) _ _ _)); (fail_if_success (with_reducible show wpAny _ _ (call (Value.builtin _) _) _ _ _)); (fail_if_success (with_reducible show wpAny _ _ (binaryOp _ (Value.ref _) (Value.ref _)) _ _ _)); (first | (k_unfold; (try dsimp only)) | (k_end; wrow_close) | walk1 | (dsimp only; walk1) | (leave1; try dsimp only))))
              rename Fr _ _ _ _ => lF
              rename News _ _ _ _ => lN
              have hysl := strsAre_len hds
              have hdl2 : ds.length ≤ 2 := by omega
              refine kde_tupleOf lF lN (News.isList lN hDJ) (by simp; omega) (zs := ys) (by simp) ?_
              clear lF lN
              intro ti h3 F3 N3 l3
              repeat' (first | ((fail_if_success (with_reducible show wpAny _ _ (call (Value.ref _) _) _ _ _)); (fail_if_success (with_reducible show wpAny _ _ (call (Value.type _) _) _ _ _)); (fail_if_success (with_reducible show wpAny _ _ (call (Value.builtin _) _) _ _ _)); (fail_if_success (with_reducible show wpAny _ _ (binaryOp _ (Value.ref _) (Value.ref _)) _ _ _)); (first | (k_unfold; (try dsimp only)) | (k_end; wrow_close) | walk1 | (dsimp only; walk1) | (leave1; try dsimp only))))
              rename Fr _ _ _ _ => lF
              rename News _ _ _ _ => lN
              k_dflt (refine' add_strs lF lN ?za (List.Mem.head _) hAs hds (Nat.le_trans (ahead_ok _ hah).1 (by decide)) (Nat.le_trans hdl2 (by decide)) ?_; (case za => exact List.Mem.tail _ hAJ); k_whole)
              intro Dn ws h7 F7 N7 S7
              clear lF lN
              repeat' (first | ((fail_if_success (with_reducible show wpAny _ _ (call (Value.ref _) _) _ _ _)); (fail_if_success (with_reducible show wpAny _ _ (call (Value.type _) _) _ _ _)); (fail_if_success (with_reducible show wpAny _ _ (call (Value.builtin _) _) _ _ _)); (fail_if_success (with_reducible show wpAny _ _ (binaryOp _ (Value.ref _) (Value.ref _)) _ _ _)); (first | (k_unfold; (try dsimp only)) | (k_end; wrow_close) | walk1 | (dsimp only; walk1) | (leave1; try dsimp only))))
              rename Fr _ _ _ _ => lF
              rename News _ _ _ _ => lN
              k_dflt (refine' add_strs lF lN ?za (List.Mem.head _) S7 strs1 (by simp; have := (ahead_ok _ hah).1; omega) (by decide) ?_; (case za => exact List.Mem.tail _ (List.Mem.head _)); k_whole)
              intro Dm ws2 h6 F6 N6 S6
              clear lF lN
              repeat' (first | ((fail_if_success (with_reducible show wpAny _ _ (call (Value.ref _) _) _ _ _)); (fail_if_success (with_reducible show wpAny _ _ (call (Value.type _) _) _ _ _)); (fail_if_success (with_reducible show wpAny _ _ (call (Value.builtin _) _) _ _ _)); (fail_if_success (with_reducible show wpAny _ _ (binaryOp _ (Value.ref _) (Value.ref _)) _ _ _)); (first | (k_unfold; (try dsimp only)) | (k_end; wrow_close) | walk1 | (dsimp only; walk1) | (leave1; try dsimp only))))
              rename Fr _ _ _ _ => lF
              rename News _ _ _ _ => lN
              have hsl := mem_of2 lN (fun q (hq : q ∈ n9'') => .tail _ (.tail _ (.tail _ (.tail _ (.tail _ hq)))))
              have ZJ := ZI.sub lN hsl
              have hAt := AskAt.of lN (.head _) (hsl _ has) (.tail _ (.head _)) hss S6
              have hlenA := ZJ.A.len
              have hIJ' := hsl _ hIJ
              refine append_any lF lN ZJ.ak (by rw [hlenA]; simp [told]; simp at hcn; omega) ?_
              intro h5 l5 F5 N5 K5 A5
              have ZK := ZJ.appN lN hplk haks N5 K5 hAt
              have hIK := K5 _ hIJ' (off_cls lN hIJ' ZJ.ak hcI' rfl (by decide))
              clear lF lN
              repeat' (first | ((fail_if_success (with_reducible show wpAny _ _ (call (Value.ref _) _) _ _ _)); (fail_if_success (with_reducible show wpAny _ _ (call (Value.type _) _) _ _ _)); (fail_if_success (with_reducible show wpAny _ _ (call (Value.builtin _) _) _ _ _)); (fail_if_success (with_reducible show wpAny _ _ (binaryOp _ (Value.ref _) (Value.ref _)) _ _ _)); (first | (k_unfold; (try dsimp only)) | (k_end; wrow_close) | walk1 | (dsimp only; walk1) | (leave1; try dsimp only))))
              rename Fr _ _ _ _ => lF
              rename News _ _ _ _ => lN
              rw [List.append_assoc] at ZK
              subst hJ2
              exact ask_end lF lN (.tail _ hIK) hcI' hI0' Z0.X.C ZK (fun x hx => by
                rcases List.mem_append.mp hx with hx | hx
                · exact hxs x hx
                · rw [List.mem_singleton.mp hx]
                  exact ⟨hasP, _, hah, ds, hdl2, hdm, rfl⟩) (by simp at hcn ⊢; omega) (fun a ha => hk a (.tail _ ha)) (over_turn9 (by decide) (by decide) (by decide))
        case zero2 =>
          intro m1 n1 hJ0 h1 tk1 lF lN
          rw [hJ2] at hJ0
          obtain ⟨ask, n2, xs, u1, u2, u3, Z, hxs, hcn, hk, rfl⟩ := hJ0
          clear hJ2 Z0
          refine LawC.elim Z.X.C ?_; intro o1 o2 o3 o4 o5 os a1 a2 a3 a4 a5 a6 e1 e2 e3 e4 e5 ho
          have hakm := Z.ak
          have hxl : xs.length ≤ 6 := by simp at hcn; omega
          have hasl := Z.A.len
          have hasl2 : ask.length ≤ 8 := by rw [hasl]; simp [told]; omega
          repeat' (first | ((fail_if_success (with_reducible show wpAny _ _ (call (Value.ref _) _) _ _ _)); (fail_if_success (with_reducible show wpAny _ _ (call (Value.type _) _) _ _ _)); (fail_if_success (with_reducible show wpAny _ _ (call (Value.builtin _) _) _ _ _)); (fail_if_success (with_reducible show wpAny _ _ (binaryOp _ (Value.ref _) (Value.ref _)) _ _ _)); (fail_if_success (with_reducible show wpAny _ _ (eval (PySem.Expr.ListComp _ _ _ _) _) _ _ _)); (fail_if_success (with_reducible show wpAny _ _ (compareOp _ (Value.ref _) (Value.ref _)) _ _ _)); (fail_if_success (with_reducible show wpAny _ _ (subscriptTail _ _ (Value.ref _) (Value.ref _)) _ _ _)); (first | (k_unfold; (try dsimp only)) | (k_end; wrow_close) | walk1 | (dsimp only; walk1) | (leave1; try dsimp only))))
          rename Fr _ _ _ _ => lF
          rename News _ _ _ _ => lN
          have hsl := mem_of2 lN (fun q (hq : q ∈ n1) => .tail _ hq)
          have htwo := mem_of4 lN (.head _)
          have Adr := Z.A.drop 2
          rw [told_drop] at Adr
          have hlx := Adr.len
          k_dflt (refine comp_list (AskTg n1) lF (by with_unfolding_all rfl) (by decide) (by rfl) (by decide) ?_)
          repeat' (first | ((fail_if_success (with_reducible show wpAny _ _ (call (Value.ref _) _) _ _ _)); (fail_if_success (with_reducible show wpAny _ _ (call (Value.type _) _) _ _ _)); (fail_if_success (with_reducible show wpAny _ _ (call (Value.builtin _) _) _ _ _)); (fail_if_success (with_reducible show wpAny _ _ (binaryOp _ (Value.ref _) (Value.ref _)) _ _ _)); (fail_if_success (with_reducible show wpAny _ _ (eval (PySem.Expr.ListComp _ _ _ _) _) _ _ _)); (fail_if_success (with_reducible show wpAny _ _ (compareOp _ (Value.ref _) (Value.ref _)) _ _ _)); (fail_if_success (with_reducible show wpAny _ _ (subscriptTail _ _ (Value.ref _) (Value.ref _)) _ _ _)); (first | (k_unfold; (try dsimp only)) | (k_end; wrow_close) | walk1 | (dsimp only; walk1) | (leave1; try dsimp only))))
          rename Fr _ _ _ _ => lF
          rename News _ _ _ _ => lN
          k_dflt (refine' drop2_list lF lN ?ma ?mz ?_; (case ma => exact hsl _ hakm); (case mz => omega); k_whole)
          intro Ds h5 F5 N5
          clear lF lN
          refine csrc_keep (by rfl) F5 N5 (.head _) rfl rfl (by rw [PySem.sizeLine_eq]; simp; omega) ?da fun gh => ?db
          case da =>
            intro i v s' C m' news' Q E hv hS hN hn k
            obtain ⟨x, hx, P⟩ := Adr.get hv
            exact asg_ask (by rfl) (by rfl) (by rfl) (by rfl) hN (fun q hq _ => hS q (.tail _ (hsl q hq))) P hn k
          case db =>
            refine crest_keep (fun i ys => StrsAre ys ((xs.take i).map (resOf S))) .nil ?dfin ?dturn
            case dturn =>
              intro i ys nw hi hS hJ v Ic oIc C oC D m₂ h tk E' hP hC hTg lF lN hoff
              obtain ⟨x, hx, P⟩ := Adr.get hP
              obtain ⟨aa, na, hma, hmn, sa, sn⟩ := hTg x P
              have hn1 : ∀ q ∈ n1, q ∈ (Ic, oIc) :: (C, oC) :: (D, LCg.lst ys) :: nw := fun q hq => .tail _ (.tail _ (.tail _ (hS q (.tail _ (hsl q hq)))))
              have ZE := Z.sub lN hn1
              have sa' := sa.mono hn1
              have sn' := sn.mono hn1
              refine LawC.elim ZE.X.C ?_; intro o1 o2 o3 o4 o5 os a1 a2 a3 a4 a5 a6 e1 e2 e3 e4 e5 ho
              have hAs := hxs x (List.mem_of_getElem? hx)
              obtain ⟨hL, hz, hw, hpre⟩ := hAs.ok hmenu
              have hza : x.1.length ≤ 100 := Nat.le_trans (hAs.alen hmenu) (by decide)
              repeat' (first | ((fail_if_success (with_reducible show wpAny _ _ (call (Value.ref _) _) _ _ _)); (fail_if_success (with_reducible show wpAny _ _ (call (Value.type _) _) _ _ _)); (fail_if_success (with_reducible show wpAny _ _ (call (Value.builtin _) _) _ _ _)); (fail_if_success (with_reducible show wpAny _ _ (binaryOp _ (Value.ref _) (Value.ref _)) _ _ _)); (fail_if_success (with_reducible show wpAny _ _ (eval (PySem.Expr.ListComp _ _ _ _) _) _ _ _)); (fail_if_success (with_reducible show wpAny _ _ (compareOp _ (Value.ref _) (Value.ref _)) _ _ _)); (fail_if_success (with_reducible show wpAny _ _ (subscriptTail _ _ (Value.ref _) (Value.ref _)) _ _ _)); (first | (k_unfold; (try dsimp only)) | (k_end; wrow_close) | walk1 | (dsimp only; walk1) | (leave1; try dsimp only))))
              rename Fr _ _ _ _ => lF
              rename News _ _ _ _ => lN
              k_dflt (refine' Spec.use (due_spec _ _ na aa S x.1 x.2 _ ZE.X.T (gen_ask hmenu hg hAs.asker) sa' sn' hL hz hza (gen_wq hmenu hg hAs.asker) (gen_jq hmenu hg)) ?k1 ?k2 ?k3 ?k4 ?k5 ?k6 ?k7 ?k8 ?k9 ?_; (case k4 => exact lN); (case k1 => exact hB); (case k2 => exact lF); (case k3 => exact hX); (case k5 => exact hT); (case k6 => exact ⟨hX, hT⟩); (case k7 => exact rfl); (case k8 => decide); (case k9 => decide); k_whole)
              intro r9 h9 tk9 n9 F9 N9 P9
              obtain ⟨K9, tkr, rfl⟩ := P9
              exact LCg.CompEnd.intro F9 N9 nw K9 hoff hS (res_snoc hJ hx)
            case dfin =>
              intro ys nw hS hJ Dy h' tk' lF lN o1
              rw [hlx, List.take_length] at hJ
              have hyl := strsAre_len hJ
              rw [List.length_map] at hyl
              repeat' (first | ((fail_if_success (with_reducible show wpAny _ _ (call (Value.ref _) _) _ _ _)); (fail_if_success (with_reducible show wpAny _ _ (call (Value.type _) _) _ _ _)); (fail_if_success (with_reducible show wpAny _ _ (call (Value.builtin _) _) _ _ _)); (fail_if_success (with_reducible show wpAny _ _ (binaryOp _ (Value.ref _) (Value.ref _)) _ _ _)); (fail_if_success (with_reducible show wpAny _ _ (eval (PySem.Expr.ListComp _ _ _ _) _) _ _ _)); (fail_if_success (with_reducible show wpAny _ _ (compareOp _ (Value.ref _) (Value.ref _)) _ _ _)); (fail_if_success (with_reducible show wpAny _ _ (subscriptTail _ _ (Value.ref _) (Value.ref _)) _ _ _)); (first | (k_unfold; (try dsimp only)) | (k_end; wrow_close) | walk1 | (dsimp only; walk1) | (leave1; try dsimp only))))
              rename Fr _ _ _ _ => lF
              rename News _ _ _ _ => lN
              refine add_any (us := [.str _ _, .str _ _]) (vs := ys) lF lN (.tail _ (hS _ (.tail _ htwo))) (.head _) (by rw [hyl]; simp; omega) ?_
              intro dl h6 F6 N6 l6
              clear lF lN
              repeat' (first | ((fail_if_success (with_reducible show wpAny _ _ (call (Value.ref _) _) _ _ _)); (fail_if_success (with_reducible show wpAny _ _ (call (Value.type _) _) _ _ _)); (fail_if_success (with_reducible show wpAny _ _ (call (Value.builtin _) _) _ _ _)); (fail_if_success (with_reducible show wpAny _ _ (binaryOp _ (Value.ref _) (Value.ref _)) _ _ _)); (fail_if_success (with_reducible show wpAny _ _ (eval (PySem.Expr.ListComp _ _ _ _) _) _ _ _)); (fail_if_success (with_reducible show wpAny _ _ (compareOp _ (Value.ref _) (Value.ref _)) _ _ _)); (fail_if_success (with_reducible show wpAny _ _ (subscriptTail _ _ (Value.ref _) (Value.ref _)) _ _ _)); (first | (k_unfold; (try dsimp only)) | (k_end; wrow_close) | walk1 | (dsimp only; walk1) | (leave1; try dsimp only))))
              rename Fr _ _ _ _ => lF
              rename News _ _ _ _ => lN
              have hn1 := mem_of2 lN (fun q (hq : q ∈ n1) => .tail _ (.tail _ (hS q (.tail _ (hsl q hq)))))
              have hdn : ∀ q ∈ n1, q.1 ≠ dl := fun q hq => Nat.ne_of_lt (l6 _ (.tail _ (hS q (.tail _ (hsl q hq)))))
              obtain ⟨dys, hdm, hdy⟩ := due_pack one other lN hg.root_seen hJ
              generalize (_ :: _ :: nw : List (Addr × Obj)) = lP at lN hdm hn1
              revert lP
              refine lock ?_
              intro lP lN hdm hn1
              obtain ⟨od, hod, hodc, hodn⟩ := Z.M.dxm
              have hdld : dl ≠ dx := Ne.symm (hdn _ hod)
              have hakd := off_cls lN (hn1 _ Z.ak) (hn1 _ hod) rfl hodc (by decide)
              have ht1 : ∀ q ∈ n1, q.2.cls = .type "tuple" → q.1 ≠ dx := fun q hq ht => off_cls lN (hn1 q hq) (hn1 _ hod) ht hodc (by decide)
              have hc5 := off_obj lN (hn1 _ a5) (hn1 _ hod) (by dsimp only; rw [e5]; exact fun e => hodn _ e.symm)
              have hFK : Z.FK (dl, listOf dys.toArray 0) lP := ⟨Z.M.solid (fun q hq _ => hn1 q hq), fun q hq _ => hn1 q hq, hdm⟩
              have hakm := hn1 _ Z.ak
              clear hS l6 hdn
              k_dflt (refine comp_list (AskTg n1) lF (by with_unfolding_all rfl) (by decide) (by rfl) (by decide) ?_)
              repeat' (first | ((fail_if_success (with_reducible show wpAny _ _ (call (Value.ref _) _) _ _ _)); (fail_if_success (with_reducible show wpAny _ _ (call (Value.type _) _) _ _ _)); (fail_if_success (with_reducible show wpAny _ _ (call (Value.builtin _) _) _ _ _)); (fail_if_success (with_reducible show wpAny _ _ (binaryOp _ (Value.ref _) (Value.ref _)) _ _ _)); (fail_if_success (with_reducible show wpAny _ _ (eval (PySem.Expr.ListComp _ _ _ _) _) _ _ _)); (fail_if_success (with_reducible show wpAny _ _ (compareOp _ (Value.ref _) (Value.ref _)) _ _ _)); (fail_if_success (with_reducible show wpAny _ _ (subscriptTail _ _ (Value.ref _) (Value.ref _)) _ _ _)); (first | (k_unfold; (try dsimp only)) | (k_end; wrow_close) | walk1 | (dsimp only; walk1) | (leave1; try dsimp only))))
              rename Fr _ _ _ _ => lF
              rename News _ _ _ _ => lN
              refine ⟨_, listOf ask.toArray n2, ask, n2, Z.FK (dl, listOf dys.toArray 0), lP, rfl, rfl, lF, lN, rfl, rfl, (by rw [PySem.sizeLine_eq]; omega), hFK, fun nw hS => hS.2.1 _ Z.ak hakd, ?fa, fun gh => ?fb⟩
              case fa =>
                intro i v s' C m' news' Q E hv hS hN hn k
                obtain ⟨x, hx, P⟩ := Z.A.get hv
                exact asg_ask (by rfl) (by rfl) (by rfl) (by rfl) hN (fun q hq ht => hS.2.1 q hq (ht1 q hq ht)) P hn k
              case fb =>
                refine crest_ind (fun i ys nw => Z.FK (dl, listOf dys.toArray 0) nw ∧ StrsAre ys (((told one other ++ xs).take i).map (resOf S))) ?ffin ?fturn _ 0 [] _ (Nat.zero_add _) ⟨hFK, .nil⟩
                case fturn =>
                  rintro i ys nw hi ⟨hK, hJ2⟩ v Ic oIc C oC D m₂ h tk E' hP hC hTg lF lN hS' hoff hne
                  obtain ⟨x, hx, P⟩ := Z.A.get hP
                  obtain ⟨aa, na, hma, hmn, sa, sn⟩ := hTg x P
                  have hn2 : ∀ q ∈ n1, q.1 ≠ dx → q ∈ (Ic, oIc) :: (C, oC) :: (D, LCg.lst ys) :: nw := fun q hq hd => .tail _ (.tail _ (.tail _ (hK.2.1 q hq hd)))
                  have ha5 := hn2 _ a5 hc5
                  have sa' := sa.mono2 fun q hq ht => hn2 q hq (ht1 q hq ht)
                  have sn' := sn.mono2 fun q hq ht => hn2 q hq (ht1 q hq ht)
                  have hAs : Asked one other G x := by
                    rcases List.mem_append.mp (List.mem_of_getElem? hx) with h | h
                    · exact told_asked x h
                    · exact hxs x h
                  obtain ⟨hL, hz, hw, hpre⟩ := hAs.ok hmenu
                  obtain ⟨hja, hza, hwa⟩ := asker_join hmenu hAs
                  repeat' (first | ((fail_if_success (with_reducible show wpAny _ _ (call (Value.ref _) _) _ _ _)); (fail_if_success (with_reducible show wpAny _ _ (call (Value.type _) _) _ _ _)); (fail_if_success (with_reducible show wpAny _ _ (call (Value.builtin _) _) _ _ _)); (fail_if_success (with_reducible show wpAny _ _ (binaryOp _ (Value.ref _) (Value.ref _)) _ _ _)); (fail_if_success (with_reducible show wpAny _ _ (eval (PySem.Expr.ListComp _ _ _ _) _) _ _ _)); (fail_if_success (with_reducible show wpAny _ _ (compareOp _ (Value.ref _) (Value.ref _)) _ _ _)); (fail_if_success (with_reducible show wpAny _ _ (subscriptTail _ _ (Value.ref _) (Value.ref _)) _ _ _)); (first | (k_unfold; (try dsimp only)) | (k_end; wrow_close) | walk1 | (dsimp only; walk1) | (leave1; try dsimp only))))
                  rename Fr _ _ _ _ => lF
                  rename News _ _ _ _ => lN
                  k_dflt (refine' SpecT.use (found_spec _ mo dx na aa S x.1 x.2 _ nw hK.1 (fun p hp => .tail _ (.tail _ (.tail _ hp))) (gen_ask hmenu hg hAs.asker) sn' hL hz hw hpre sa' hja (Nat.le_trans hza (by decide)) hwa) ?k1 ?k2 ?k3 ?k4 ?k5 ?k6 ?k7 ?k8 ?k9 ?_; (case k4 => exact lN); (case k1 => exact hB); (case k2 => exact lF); (case k3 => exact hX); (case k5 => exact hT); (case k6 => exact ⟨hX, hT⟩); (case k7 => exact rfl); (case k8 => decide); (case k9 => decide); k_whole)
                  intro r9 h9 tk9 n9 F9 N9 P9
                  obtain ⟨M9, K9, tkr, rfl⟩ := P9
                  obtain ⟨od2, hod2, _⟩ := hK.1.dxm
                  obtain ⟨nw', M', K', off', hsub⟩ := found_off3 ⟨_, hod2⟩ M9 K9 hoff
                  have hK' : Z.FK (dl, listOf dys.toArray 0) nw' := ⟨M', fun q hq hd => K' q (hK.2.1 q hq hd) hd, K' _ hK.2.2 hdld⟩
                  exact LCg.CompEnd.intro F9 N9 nw' hsub off' hK' ⟨hK', res_snoc hJ2 hx⟩
                case ffin =>
                  rintro ys2 nw ⟨hK, hJ2⟩ D2 h' tk' lF lN o1
                  rw [hasl, List.take_length] at hJ2
                  repeat' (first | ((fail_if_success (with_reducible show wpAny _ _ (call (Value.ref _) _) _ _ _)); (fail_if_success (with_reducible show wpAny _ _ (call (Value.type _) _) _ _ _)); (fail_if_success (with_reducible show wpAny _ _ (call (Value.builtin _) _) _ _ _)); (fail_if_success (with_reducible show wpAny _ _ (binaryOp _ (Value.ref _) (Value.ref _)) _ _ _)); (fail_if_success (with_reducible show wpAny _ _ (eval (PySem.Expr.ListComp _ _ _ _) _) _ _ _)); (fail_if_success (with_reducible show wpAny _ _ (compareOp _ (Value.ref _) (Value.ref _)) _ _ _)); (fail_if_success (with_reducible show wpAny _ _ (subscriptTail _ _ (Value.ref _) (Value.ref _)) _ _ _)); (first | (k_unfold; (try dsimp only)) | (k_end; wrow_close) | walk1 | (dsimp only; walk1) | (leave1; try dsimp only))))
                  rename Fr _ _ _ _ => lF
                  rename News _ _ _ _ => lN
                  refine eq_strLists lN (.head _) (.tail _ hK.2.2) hJ2 hdy (show callerA.units + 3 < cLine by decide) ?_
                  repeat' (first | ((fail_if_success (with_reducible show wpAny _ _ (call (Value.ref _) _) _ _ _)); (fail_if_success (with_reducible show wpAny _ _ (call (Value.type _) _) _ _ _)); (fail_if_success (with_reducible show wpAny _ _ (call (Value.builtin _) _) _ _ _)); (fail_if_success (with_reducible show wpAny _ _ (binaryOp _ (Value.ref _) (Value.ref _)) _ _ _)); (fail_if_success (with_reducible show wpAny _ _ (eval (PySem.Expr.ListComp _ _ _ _) _) _ _ _)); (fail_if_success (with_reducible show wpAny _ _ (compareOp _ (Value.ref _) (Value.ref _)) _ _ _)); (fail_if_success (with_reducible show wpAny _ _ (subscriptTail _ _ (Value.ref _) (Value.ref _)) _ _ _)); (first | (k_unfold; (try dsimp only)) | (k_end; wrow_close) | walk1 | (dsimp only; walk1) | (leave1; try dsimp only))))
                  dsimp only
                  rw [hQQ]
                  k_end; kc_close
    case zturn =>
      intro it r m1 n1 hJ0 v1 h1 tk1 hv lF
      rw [hJ1] at hJ0
      obtain ⟨vs2, ps1, ps2, S, u, hits, hA2, hps, hg, hT1, hC1, hA1, hpl1, hoff, rfl⟩ := hJ0
      cases vs2 with
      | nil => cases hits
      | cons v vs2 =>
      injection hits with hx1 hx2
      subst hx1
      obtain rfl : v1 = v := hv
      cases hA2 with
      | @cons _ p _ ps2 hP hA2' =>
      obtain ⟨pa, rfl, vp, hpa, hsp⟩ := hP
      refine AllObj.cons (fun oI hcI => AllObj.nil (fun lN => ?_))
      dsimp only [List.cons_append, List.nil_append] at lN
      have hcI' : oI.cls = .type "list_iterator" := hcI
      have X1 : LS _ _ src _ pl _ _ _ _ _ _ zs (pathsP one other G) S := LS.sub (l := n1) ⟨hT1, hC1, hA1, hpl1⟩ lN (fun q hq => .tail _ hq)
      refine LawC.elim X1.C ?_; intro o1 o2 o3 o4 o5 os a1 a2 a3 a4 a5 a6 e1 e2 e3 e4 e5 ho
      have hpaA : (pa, tupObj vp) ∈ (I, oI) :: n1 := .tail _ hpa
      have hIA : (I, oI) ∈ (I, oI) :: n1 := .head _
      have hPA := hA2'.mono fun _ _ h => PT.mono (l' := (I, oI) :: n1) h fun q hq _ => .tail _ hq
      have XA := X1
      clear X1 hT1 hC1 hA1 hpl1 hoff hpa hA2'
      ktr_step
      rename Fr _ _ _ _ => lF
      rename News _ _ _ _ => lN
      k_dflt (refine' take_use ?k0 ho (by decide) (by decide) ?k1 ?k2 ?k3 ?k4 ?k5 ?k6 ?k7 ?k8 ?k9 ?_; (case k4 => exact lN); (case k0 => exact a6); (case k1 => exact hB); (case k2 => exact lF); (case k3 => exact hX); (case k5 => exact hT); (case k6 => exact ⟨hX, hT⟩); (case k7 => exact rfl); (case k8 => decide); (case k9 => decide); k_whole)
      intro d9 tk9' h9 tk9 n9 F9 N9 DR hd0 hd2
      have XB := XA.drawn lN hpls DR
      have KT := XA.tup_drawn lN DR
      have hpaB := KT _ hpaA (.inl rfl)
      have hIB := KT _ hIA (.inr hcI')
      have hPB := hPA.mono fun _ _ h => h.mono fun q hq ht => KT q hq (.inl ht)
      clear lF lN DR KT XA hpaA hIA hPA a1 a2 a3 a4 a5 a6 e1 e2 e3 e4 e5 ho
      refine LawC.elim XB.C ?_; intro o1 o2 o3 o4 o5 os a1 a2 a3 a4 a5 a6 e1 e2 e3 e4 e5 ho
      ktr_step
      have hpin : p ∈ pathsP one other G := by rw [hps]; simp
      obtain ⟨hp0, hpfn, hpz⟩ := hpf p hpin
      have hpn1 : p ∉ ps1 := by
        rw [hps] at hpn
        exact fun h => (List.nodup_append.mp hpn).2.2 p h p (.head _) rfl
      have hps1 : ps1.length ≤ 5 := by have := congrArg List.length hps; simp at this; omega
      have hSz := hg.len
      rename Fr _ _ _ _ => lF
      rename News _ _ _ _ => lN
      refine seen_set lF lN XB.T hpaB hsp (show callerA.units + 3 + 1 < cLine by decide) (hg.new hpn1 hpfn) (by omega) ?_
      intro h8 t8 l8' F8' N8' T8' K8'
      have XC := XB.set lN T8' K8'
      have KT := XB.tup_set lN K8'
      have hpaC := KT _ hpaB (.inl rfl)
      have hIC := KT _ hIB (.inr hcI')
      have hPC := hPB.mono fun _ _ h => h.mono fun q hq ht => KT q hq (.inl ht)
      clear lF lN XB hpaB hIB hPB KT K8' T8' a1 a2 a3 a4 a5 a6 e1 e2 e3 e4 e5 ho
      refine LawC.elim XC.C ?_; intro o1 o2 o3 o4 o5 os a1 a2 a3 a4 a5 a6 e1 e2 e3 e4 e5 ho
      ktr_step
      rename Fr _ _ _ _ => lF
      rename News _ _ _ _ => lN
      k_dflt (refine' take_use ?k0 ho (by decide) (by decide) ?k1 ?k2 ?k3 ?k4 ?k5 ?k6 ?k7 ?k8 ?k9 ?_; (case k4 => exact lN); (case k0 => exact a6); (case k1 => exact hB); (case k2 => exact lF); (case k3 => exact hX); (case k5 => exact hT); (case k6 => exact ⟨hX, hT⟩); (case k7 => exact rfl); (case k8 => decide); (case k9 => decide); k_whole)
      intro d9 tk9' h9 tk9 n9 F9 N9 DR hd0 hd2
      have XD := XC.drawn lN hpls DR
      have KT := XC.tup_drawn lN DR
      have hpaD := KT _ hpaC (.inl rfl)
      have hID := KT _ hIC (.inr hcI')
      have hPD := hPC.mono fun _ _ h => h.mono fun q hq ht => KT q hq (.inl ht)
      clear lF lN DR KT XC hpaC hIC hPC a1 a2 a3 a4 a5 a6 e1 e2 e3 e4 e5 ho
      refine LawC.elim XD.C ?_; intro o1 o2 o3 o4 o5 os a1 a2 a3 a4 a5 a6 e1 e2 e3 e4 e5 ho
      ktr_step
      · skip
        rename Fr _ _ _ _ => lF
        rename News _ _ _ _ => lN
        k_dflt (refine' take_use ?k0 ho (by decide) (by decide) ?k1 ?k2 ?k3 ?k4 ?k5 ?k6 ?k7 ?k8 ?k9 ?_; (case k4 => exact lN); (case k0 => exact a6); (case k1 => exact hB); (case k2 => exact lF); (case k3 => exact hX); (case k5 => exact hT); (case k6 => exact ⟨hX, hT⟩); (case k7 => exact rfl); (case k8 => decide); (case k9 => decide); k_whole)
        intro d9 tk9' h9 tk9 n9 F9 N9 DR hd0 hd2
        have XE := XD.drawn lN hpls DR
        have KT := XD.tup_drawn lN DR
        have hpaE := KT _ hpaD (.inl rfl)
        have hIE := KT _ hID (.inr hcI')
        have hPE := hPD.mono fun _ _ h => h.mono fun q hq ht => KT q hq (.inl ht)
        clear lF lN DR KT XD hpaD hID hPD a1 a2 a3 a4 a5 a6 e1 e2 e3 e4 e5 ho
        refine LawC.elim XE.C ?_; intro o1 o2 o3 o4 o5 os a1 a2 a3 a4 a5 a6 e1 e2 e3 e4 e5 ho
        ktr_step
        rename Fr _ _ _ _ => lF
        rename News _ _ _ _ => lN
        k_dflt (refine' add_strs lF lN ?za (List.Mem.head _) hsp strs1 (Nat.le_trans hpz (by decide)) (by decide) ?_; (case za => exact List.Mem.tail _ hpaE); k_whole)
        intro Dn ws h7 F7 N7 S7
        have XF := XE.sub N7 (fun q hq => .tail _ (.tail _ hq))
        have hIF := mem_of4 N7 (.tail _ (.tail _ hIE))
        have hPF := hPE.mono fun _ _ h => PT.mono (l' := _) h fun q hq _ => mem_of4 N7 (.tail _ (.tail _ hq))
        clear lF lN XE hpaE hIE hPE a1 a2 a3 a4 a5 a6 e1 e2 e3 e4 e5 ho
        refine LawC.elim XF.C ?_; intro o1 o2 o3 o4 o5 os a1 a2 a3 a4 a5 a6 e1 e2 e3 e4 e5 ho
        ktr_step
        rename Fr _ _ _ _ => lF
        rename News _ _ _ _ => lN
        have hps2 : ∀ q ∈ ps1, isFn q = false := fun q hq => (hpf q (by rw [hps]; exact List.mem_append_left _ hq)).2.1
        refine seen_set lF lN XF.T (.head _) S7 (show callerA.units + 3 + 1 < cLine by decide) (hg.newf hpn1 hps2 hpfn hp0) (by simp; omega) ?_
        intro h6 t6 l6' F6' N6' T6' K6'
        have XG := XF.set lN T6' K6'
        have KT := XF.tup_set lN K6'
        have hIG := KT _ hIF (.inr hcI')
        have hPG := hPF.mono fun _ _ h => h.mono fun q hq ht => KT q hq (.inl ht)
        clear lF lN
        ktr_step
        rename Fr _ _ _ _ => lF
        rename News _ _ _ _ => lN
        subst hJ1
        exact paths_end (u := _) lF lN hIG hcI' hI0 X8.C X8.pl hx2 hPG (show pathsP one other G = (ps1 ++ [p]) ++ ps2 by rw [hps]; simp) (.withf p _ _ hg) XG.T XG.C XG.A XG.pl over_path
      · rename Fr _ _ _ _ => lF
        rename News _ _ _ _ => lN
        subst hJ1
        exact paths_end (u := _) lF lN hID hcI' hI0 X8.C X8.pl hx2 hPD (show pathsP one other G = (ps1 ++ [p]) ++ ps2 by rw [hps]; simp) (.plain p _ hg) XD.T XD.C XD.A XD.pl over_path
theorem holds : PySem.Challenge.rw_up0052_01.Holds := hdT walk
end
end Mine
theorem PySem.Challenge.cw_up0052_01_holds : PySem.Challenge.rw_up0052_01.Holds :=
  Mine.holds
