import PyProof.Rows.All
import Wide.All
import OpenK.AllK
import Wide.FinOn
import Lean
import PySem.Challenge.RW_og0093_01
open PySem PySem.W PyProof.Rows
set_option Elab.async false
set_option maxRecDepth 100000
set_option maxHeartbeats 0
set_option linter.all false
set_option compiler.extract_closed false
namespace Mine
namespace hd
/-- the row's statements and the defs within its classes, each read off the row once -/
abbrev top : List Stmt := PySem.Challenge.rw_og0093_01.row.prog.main.body
def inside : Stmt → List Stmt
  | .ClassDef _ _ _ body _ _ _ _ _ _ _ => body
  | _ => []
noncomputable def s_0 : Stmt := by
  refine (fun (x : Stmt) (_ : (top[0]?).getD default = x) => x) ?_ ?h
  case h => (conv => lhs; whnf); try exact rfl
noncomputable def s_2 : Stmt := by
  refine (fun (x : Stmt) (_ : (top[2]?).getD default = x) => x) ?_ ?h
  case h => (conv => lhs; whnf); try exact rfl
noncomputable def s_3 : Stmt := by
  refine (fun (x : Stmt) (_ : (top[3]?).getD default = x) => x) ?_ ?h
  case h => (conv => lhs; whnf); try exact rfl
noncomputable def s_5 : Stmt := by
  refine (fun (x : Stmt) (_ : (top[5]?).getD default = x) => x) ?_ ?h
  case h => (conv => lhs; whnf); try exact rfl
noncomputable def s_6 : Stmt := by
  refine (fun (x : Stmt) (_ : (top[6]?).getD default = x) => x) ?_ ?h
  case h => (conv => lhs; whnf); try exact rfl
noncomputable def s_7 : Stmt := by
  refine (fun (x : Stmt) (_ : (top[7]?).getD default = x) => x) ?_ ?h
  case h => (conv => lhs; whnf); try exact rfl
noncomputable def s_8 : Stmt := by
  refine (fun (x : Stmt) (_ : (top[8]?).getD default = x) => x) ?_ ?h
  case h => (conv => lhs; whnf); try exact rfl
noncomputable def s_9 : Stmt := by
  refine (fun (x : Stmt) (_ : (top[9]?).getD default = x) => x) ?_ ?h
  case h => (conv => lhs; whnf); try exact rfl
noncomputable def s_10 : Stmt := by
  refine (fun (x : Stmt) (_ : (top[10]?).getD default = x) => x) ?_ ?h
  case h => (conv => lhs; whnf); try exact rfl
noncomputable def s_11 : Stmt := by
  refine (fun (x : Stmt) (_ : (top[11]?).getD default = x) => x) ?_ ?h
  case h => (conv => lhs; whnf); try exact rfl
noncomputable def s_12 : Stmt := by
  refine (fun (x : Stmt) (_ : (top[12]?).getD default = x) => x) ?_ ?h
  case h => (conv => lhs; whnf); try exact rfl
noncomputable def s_13 : Stmt := by
  refine (fun (x : Stmt) (_ : (top[13]?).getD default = x) => x) ?_ ?h
  case h => (conv => lhs; whnf); try exact rfl
noncomputable def s_14 : Stmt := by
  refine (fun (x : Stmt) (_ : (top[14]?).getD default = x) => x) ?_ ?h
  case h => (conv => lhs; whnf); try exact rfl
noncomputable def s_15 : Stmt := by
  refine (fun (x : Stmt) (_ : (top[15]?).getD default = x) => x) ?_ ?h
  case h => (conv => lhs; whnf); try exact rfl
noncomputable def s_17 : Stmt := by
  refine (fun (x : Stmt) (_ : (top[17]?).getD default = x) => x) ?_ ?h
  case h => (conv => lhs; whnf); try exact rfl
noncomputable def s_18 : Stmt := by
  refine (fun (x : Stmt) (_ : (top[18]?).getD default = x) => x) ?_ ?h
  case h => (conv => lhs; whnf); try exact rfl
noncomputable def s_19 : Stmt := by
  refine (fun (x : Stmt) (_ : (top[19]?).getD default = x) => x) ?_ ?h
  case h => (conv => lhs; whnf); try exact rfl
noncomputable def s_20 : Stmt := by
  refine (fun (x : Stmt) (_ : (top[20]?).getD default = x) => x) ?_ ?h
  case h => (conv => lhs; whnf); try exact rfl
noncomputable def s_22 : Stmt := by
  refine (fun (x : Stmt) (_ : (top[22]?).getD default = x) => x) ?_ ?h
  case h => (conv => lhs; whnf); try exact rfl
noncomputable def s_23 : Stmt := by
  refine (fun (x : Stmt) (_ : (top[23]?).getD default = x) => x) ?_ ?h
  case h => (conv => lhs; whnf); try exact rfl
noncomputable def s_24 : Stmt := by
  refine (fun (x : Stmt) (_ : (top[24]?).getD default = x) => x) ?_ ?h
  case h => (conv => lhs; whnf); try exact rfl
noncomputable def s_25 : Stmt := by
  refine (fun (x : Stmt) (_ : (top[25]?).getD default = x) => x) ?_ ?h
  case h => (conv => lhs; whnf); try exact rfl
noncomputable def s_26 : Stmt := by
  refine (fun (x : Stmt) (_ : (top[26]?).getD default = x) => x) ?_ ?h
  case h => (conv => lhs; whnf); try exact rfl
noncomputable def s_27 : Stmt := by
  refine (fun (x : Stmt) (_ : (top[27]?).getD default = x) => x) ?_ ?h
  case h => (conv => lhs; whnf); try exact rfl
noncomputable def s_28 : Stmt := by
  refine (fun (x : Stmt) (_ : (top[28]?).getD default = x) => x) ?_ ?h
  case h => (conv => lhs; whnf); try exact rfl
noncomputable def s_29 : Stmt := by
  refine (fun (x : Stmt) (_ : (top[29]?).getD default = x) => x) ?_ ?h
  case h => (conv => lhs; whnf); try exact rfl
noncomputable def s_30 : Stmt := by
  refine (fun (x : Stmt) (_ : (top[30]?).getD default = x) => x) ?_ ?h
  case h => (conv => lhs; whnf); try exact rfl
noncomputable def s_31 : Stmt := by
  refine (fun (x : Stmt) (_ : (top[31]?).getD default = x) => x) ?_ ?h
  case h => (conv => lhs; whnf); try exact rfl
noncomputable def s_32 : Stmt := by
  refine (fun (x : Stmt) (_ : (top[32]?).getD default = x) => x) ?_ ?h
  case h => (conv => lhs; whnf); try exact rfl
noncomputable def s_33 : Stmt := by
  refine (fun (x : Stmt) (_ : (top[33]?).getD default = x) => x) ?_ ?h
  case h => (conv => lhs; whnf); try exact rfl
noncomputable def s_34 : Stmt := by
  refine (fun (x : Stmt) (_ : (top[34]?).getD default = x) => x) ?_ ?h
  case h => (conv => lhs; whnf); try exact rfl
noncomputable def s_35 : Stmt := by
  refine (fun (x : Stmt) (_ : (top[35]?).getD default = x) => x) ?_ ?h
  case h => (conv => lhs; whnf); try exact rfl
noncomputable def s_37 : Stmt := by
  refine (fun (x : Stmt) (_ : (top[37]?).getD default = x) => x) ?_ ?h
  case h => (conv => lhs; whnf); try exact rfl
noncomputable def s_39 : Stmt := by
  refine (fun (x : Stmt) (_ : (top[39]?).getD default = x) => x) ?_ ?h
  case h => (conv => lhs; whnf); try exact rfl
noncomputable def s_40 : Stmt := by
  refine (fun (x : Stmt) (_ : (top[40]?).getD default = x) => x) ?_ ?h
  case h => (conv => lhs; whnf); try exact rfl
noncomputable def s_41 : Stmt := by
  refine (fun (x : Stmt) (_ : (top[41]?).getD default = x) => x) ?_ ?h
  case h => (conv => lhs; whnf); try exact rfl
noncomputable def s_42 : Stmt := by
  refine (fun (x : Stmt) (_ : (top[42]?).getD default = x) => x) ?_ ?h
  case h => (conv => lhs; whnf); try exact rfl
noncomputable def s_43 : Stmt := by
  refine (fun (x : Stmt) (_ : (top[43]?).getD default = x) => x) ?_ ?h
  case h => (conv => lhs; whnf); try exact rfl
noncomputable def s_44 : Stmt := by
  refine (fun (x : Stmt) (_ : (top[44]?).getD default = x) => x) ?_ ?h
  case h => (conv => lhs; whnf); try exact rfl
noncomputable def s_45 : Stmt := by
  refine (fun (x : Stmt) (_ : (top[45]?).getD default = x) => x) ?_ ?h
  case h => (conv => lhs; whnf); try exact rfl
noncomputable def s_46 : Stmt := by
  refine (fun (x : Stmt) (_ : (top[46]?).getD default = x) => x) ?_ ?h
  case h => (conv => lhs; whnf); try exact rfl
noncomputable def s_47 : Stmt := by
  refine (fun (x : Stmt) (_ : (top[47]?).getD default = x) => x) ?_ ?h
  case h => (conv => lhs; whnf); try exact rfl
noncomputable def m_2_0 : Stmt := by
  refine (fun (x : Stmt) (_ : ((inside s_2)[0]?).getD default = x) => x) ?_ ?h
  case h => (conv => lhs; whnf); try exact rfl
noncomputable def m_2_1 : Stmt := by
  refine (fun (x : Stmt) (_ : ((inside s_2)[1]?).getD default = x) => x) ?_ ?h
  case h => (conv => lhs; whnf); try exact rfl
noncomputable def m_6_0 : Stmt := by
  refine (fun (x : Stmt) (_ : ((inside s_6)[0]?).getD default = x) => x) ?_ ?h
  case h => (conv => lhs; whnf); try exact rfl
noncomputable def m_6_1 : Stmt := by
  refine (fun (x : Stmt) (_ : ((inside s_6)[1]?).getD default = x) => x) ?_ ?h
  case h => (conv => lhs; whnf); try exact rfl
noncomputable def m_7_0 : Stmt := by
  refine (fun (x : Stmt) (_ : ((inside s_7)[0]?).getD default = x) => x) ?_ ?h
  case h => (conv => lhs; whnf); try exact rfl
noncomputable def m_7_1 : Stmt := by
  refine (fun (x : Stmt) (_ : ((inside s_7)[1]?).getD default = x) => x) ?_ ?h
  case h => (conv => lhs; whnf); try exact rfl
noncomputable def m_7_2 : Stmt := by
  refine (fun (x : Stmt) (_ : ((inside s_7)[2]?).getD default = x) => x) ?_ ?h
  case h => (conv => lhs; whnf); try exact rfl
noncomputable def m_7_3 : Stmt := by
  refine (fun (x : Stmt) (_ : ((inside s_7)[3]?).getD default = x) => x) ?_ ?h
  case h => (conv => lhs; whnf); try exact rfl
noncomputable def m_7_4 : Stmt := by
  refine (fun (x : Stmt) (_ : ((inside s_7)[4]?).getD default = x) => x) ?_ ?h
  case h => (conv => lhs; whnf); try exact rfl
noncomputable def m_8_0 : Stmt := by
  refine (fun (x : Stmt) (_ : ((inside s_8)[0]?).getD default = x) => x) ?_ ?h
  case h => (conv => lhs; whnf); try exact rfl
noncomputable def m_8_1 : Stmt := by
  refine (fun (x : Stmt) (_ : ((inside s_8)[1]?).getD default = x) => x) ?_ ?h
  case h => (conv => lhs; whnf); try exact rfl
noncomputable def m_37_0 : Stmt := by
  refine (fun (x : Stmt) (_ : ((inside s_37)[0]?).getD default = x) => x) ?_ ?h
  case h => (conv => lhs; whnf); try exact rfl
noncomputable def m_37_1 : Stmt := by
  refine (fun (x : Stmt) (_ : ((inside s_37)[1]?).getD default = x) => x) ?_ ?h
  case h => (conv => lhs; whnf); try exact rfl
noncomputable def m_37_2 : Stmt := by
  refine (fun (x : Stmt) (_ : ((inside s_37)[2]?).getD default = x) => x) ?_ ?h
  case h => (conv => lhs; whnf); try exact rfl
/-- a def's object: what the def's statement says, and what its making adds -/
def fn (s : Stmt) (q : Str) (g : Addr) (dV kV doc pm : Value) (an : Option Addr) (cd ct : Value) : Data := match s with
  | .FunctionDef nm ps body _ _ _ sc _ _ _ => .func { name := nm, qualname := q, params := ps, body := .stmts body, scope := sc, globals := g, closure := [], defaults := dV, kwdefaults := kV, doc := doc, pyModule := pm, annotations := an, code := cd, closureTuple := ct }
  | _ => .plain
def as_39 : List Addr := 2 :: 3 :: 15 :: 17 :: 18 :: 20 :: 21 :: 22 :: 29 :: 30 :: 31 :: 33 :: 34 :: 36 :: 37 :: 38 :: 40 :: 41 :: 43 :: 44 :: 45 :: 46 :: 47 :: 48 :: 51 :: 58 :: 59 :: 60 :: 70 :: 71 :: 72 :: 73 :: 75 :: 76 :: 78 :: 79 :: 80 :: 82 :: 83 :: 85 :: 86 :: 87 :: 88 :: 89 :: 90 :: 91 :: 101 :: 103 :: 104 :: 106 :: 107 :: 108 :: 110 :: 111 :: 113 :: 114 :: 115 :: 117 :: 118 :: 120 :: 121 :: 122 :: 124 :: 125 :: 127 :: 128 :: 129 :: 132 :: 133 :: 134 :: 135 :: 136 :: 137 :: 138 :: 148 :: 150 :: 151 :: 153 :: 154 :: 155 :: 158 :: 159 :: 160 :: 161 :: 162 :: 163 :: 164 :: 167 :: 169 :: 170 :: 172 :: 173 :: 174 :: 176 :: 177 :: 179 :: 180 :: 181 :: 183 :: 184 :: 186 :: 187 :: 188 :: 190 :: 191 :: 193 :: 194 :: 195 :: 197 :: 198 :: 200 :: 201 :: 202 :: 205 :: 206 :: 207 :: 210 :: 211 :: 212 :: 215 :: 216 :: 217 :: 219 :: 220 :: 222 :: 223 :: 224 :: 226 :: 227 :: 229 :: 230 :: 231 :: 234 :: 235 :: 236 :: 237 :: 239 :: 240 :: 242 :: 243 :: 244 :: 246 :: 247 :: 249 :: 250 :: 251 :: 253 :: 254 :: 256 :: 257 :: 258 :: 259 :: 261 :: 262 :: 264 :: 265 :: 266 :: 268 :: 269 :: 271 :: 272 :: 273 :: 275 :: 276 :: 278 :: 279 :: 280 :: 282 :: 283 :: 285 :: 286 :: 287 :: 289 :: 290 :: 292 :: 293 :: 294 :: 296 :: 297 :: 299 :: 300 :: 301 :: 303 :: 304 :: 306 :: 307 :: 308 :: 310 :: 311 :: 313 :: 314 :: 315 :: 317 :: 318 :: 320 :: 321 :: 329 :: 330 :: 332 :: 333 :: 335 :: 336 :: 337 :: 339 :: 340 :: 342 :: 343 :: 344 :: 346 :: 347 :: 349 :: 350 :: 351 :: 352 :: 353 :: 354 :: 355 :: 358 :: 359 :: 361 :: 362 :: 364 :: 365 :: 366 :: 368 :: 369 :: 371 :: 372 :: 373 :: 374 :: 376 :: 377 :: 379 :: 380 :: 381 :: 383 :: 384 :: 386 :: 387 :: 388 :: 389 :: 390 :: 391 :: 393 :: 394 :: 396 :: 397 :: 398 :: 400 :: 401 :: 403 :: 404 :: 405 :: 407 :: 408 :: 410 :: 411 :: 412 :: 415 :: 416 :: []
noncomputable def heap_39 : Params → Frag := fun P =>
  (nat_lit 2, ⟨.none, none, (.dict #[⟨PyData.keyHash P (.ofString "type.__subclasses__.Exception.0"), (.str (.ofString "type.__subclasses__.Exception.0") 232), (.int 47 0)⟩, ⟨PyData.keyHash P (.ofString "type.__subclasses__.Exception.n"), (.str (.ofString "type.__subclasses__.Exception.n") 233), (.int 1 0)⟩] 2), #[]⟩) ::
   (nat_lit 3, ⟨(.type "dict"), none, (.dict (List.toArray (⟨PyData.keyHash P (.ofString "__name__"), (.str (.ofString "__name__") 165), (.str (.ofString "law_og0093_01") 691)⟩ :: ⟨PyData.keyHash P (.ofString "__doc__"), (.str (.ofString "__doc__") 166), .none⟩ :: ⟨PyData.keyHash P (.ofString "__package__"), (.str (.ofString "__package__") 167), .none⟩ :: ⟨PyData.keyHash P (.ofString "__loader__"), (.str (.ofString "__loader__") 168), (.builtin "__main__.__loader__#opaque")⟩ :: ⟨PyData.keyHash P (.ofString "__spec__"), (.str (.ofString "__spec__") 169), .none⟩ :: ⟨PyData.keyHash P (.ofString "__annotations__"), (.str (.ofString "__annotations__") 170), (.ref 6)⟩ :: ⟨PyData.keyHash P (.ofString "__builtins__"), (.str (.ofString "__builtins__") 171), (.ref 4)⟩ :: ⟨PyData.keyHash P (.ofString "__file__"), (.str (.ofString "__file__") 173), (.str (.ofString "/claim/cut.py") 172)⟩ :: ⟨PyData.keyHash P (.ofString "__cached__"), (.str (.ofString "__cached__") 174), .none⟩ :: ⟨PyData.keyHash P (.ofString "_wall"), (.str (.ofString "_wall") 193), (.ref 21)⟩ :: ⟨PyData.keyHash P (.ofString "LedgerError"), (.str (.ofString "LedgerError") 235), (.ref 47)⟩ :: ⟨PyData.keyHash P (.ofString "CheckFault"), (.str (.ofString "CheckFault") 251), (.ref 60)⟩ :: ⟨PyData.keyHash P (.ofString "FILLER"), (.str (.ofString "FILLER") 255), (.str (.ofString "FILLER") 254)⟩ :: ⟨PyData.keyHash P (.ofString "Occurs"), (.str (.ofString "Occurs") 299), (.ref 89)⟩ :: ⟨PyData.keyHash P (.ofString "Item"), (.str (.ofString "Item") 377), (.ref 136)⟩ :: ⟨PyData.keyHash P (.ofString "Data"), (.str (.ofString "Data") 416), (.ref 162)⟩ :: ⟨PyData.keyHash P (.ofString "records"), (.str (.ofString "records") 425), (.ref 173)⟩ :: ⟨PyData.keyHash P (.ofString "items_under"), (.str (.ofString "items_under") 435), (.ref 180)⟩ :: ⟨PyData.keyHash P (.ofString "all_items"), (.str (.ofString "all_items") 444), (.ref 187)⟩ :: ⟨PyData.keyHash P (.ofString "items_around"), (.str (.ofString "items_around") 453), (.ref 194)⟩ :: ⟨PyData.keyHash P (.ofString "root_of"), (.str (.ofString "root_of") 461), (.ref 201)⟩ :: ⟨PyData.keyHash P (.ofString "names_around"), (.str (.ofString "names_around") 467), (.ref 206)⟩ :: ⟨PyData.keyHash P (.ofString "tables_around"), (.str (.ofString "tables_around") 473), (.ref 211)⟩ :: ⟨PyData.keyHash P (.ofString "file_of"), (.str (.ofString "file_of") 481), (.ref 216)⟩ :: ⟨PyData.keyHash P (.ofString "leads_through"), (.str (.ofString "leads_through") 491), (.ref 223)⟩ :: ⟨PyData.keyHash P (.ofString "only_one"), (.str (.ofString "only_one") 499), (.ref 230)⟩ :: ⟨PyData.keyHash P (.ofString "find_item"), (.str (.ofString "find_item") 505), (.ref 235)⟩ :: ⟨PyData.keyHash P (.ofString "ARITHMETIC"), (.str (.ofString "ARITHMETIC") 509), (.str (.ofString "+ - * / **") 508)⟩ :: ⟨PyData.keyHash P (.ofString "NUMBER_PLACES"), (.str (.ofString "NUMBER_PLACES") 512), (.ref 236)⟩ :: ⟨PyData.keyHash P (.ofString "item_of"), (.str (.ofString "item_of") 520), (.ref 243)⟩ :: ⟨PyData.keyHash P (.ofString "is_index_name"), (.str (.ofString "is_index_name") 528), (.ref 250)⟩ :: ⟨PyData.keyHash P (.ofString "part_faults"), (.str (.ofString "part_faults") 538), (.ref 257)⟩ :: ⟨PyData.keyHash P (.ofString "ref_faults"), (.str (.ofString "ref_faults") 551), (.ref 265)⟩ :: ⟨PyData.keyHash P (.ofString "operand_faults"), (.str (.ofString "operand_faults") 559), (.ref 272)⟩ :: ⟨PyData.keyHash P (.ofString "category_of"), (.str (.ofString "category_of") 568), (.ref 279)⟩ :: ⟨PyData.keyHash P (.ofString "is_number_operand"), (.str (.ofString "is_number_operand") 576), (.ref 286)⟩ :: ⟨PyData.keyHash P (.ofString "number_faults"), (.str (.ofString "number_faults") 585), (.ref 293)⟩ :: ⟨PyData.keyHash P (.ofString "name_of"), (.str (.ofString "name_of") 592), (.ref 300)⟩ :: ⟨PyData.keyHash P (.ofString "place_faults"), (.str (.ofString "place_faults") 602), (.ref 307)⟩ :: ⟨PyData.keyHash P (.ofString "counter_faults"), (.str (.ofString "counter_faults") 610), (.ref 314)⟩ :: ⟨PyData.keyHash P (.ofString "arith_faults"), (.str (.ofString "arith_faults") 623), (.ref 321)⟩ :: ⟨PyData.keyHash P (.ofString "Shape"), (.str (.ofString "Shape") 690), (.ref 353)⟩ :: ⟨PyData.keyHash P (.ofString "_law_RIGHT"), (.str (.ofString "_law_RIGHT") 697), (.ref 358)⟩ :: ⟨PyData.keyHash P (.ofString "_law_SORTS"), (.str (.ofString "_law_SORTS") 703), (.ref 365)⟩ :: ⟨PyData.keyHash P (.ofString "_law_draw"), (.str (.ofString "_law_draw") 713), (.ref 372)⟩ :: ⟨PyData.keyHash P (.ofString "_law_leaf"), (.str (.ofString "_law_leaf") 725), (.ref 380)⟩ :: ⟨PyData.keyHash P (.ofString "_law_data"), (.str (.ofString "_law_data") 739), (.ref 387)⟩ :: ⟨PyData.keyHash P (.ofString "_law_ref"), (.str (.ofString "_law_ref") 749), (.ref 397)⟩ :: ⟨PyData.keyHash P (.ofString "_law_leafs"), (.str (.ofString "_law_leafs") 760), (.ref 404)⟩ :: ⟨PyData.keyHash P (.ofString "_law_tree"), (.str (.ofString "_law_tree") 773), (.ref 411)⟩ :: ⟨PyData.keyHash P (.ofString "law"), (.str (.ofString "law") 779), (.ref 416)⟩ :: [])) 51), #[]⟩) ::
   (nat_lit 15, ⟨(.type "tuple"), none, (.seq #[] 0), #[]⟩) ::
   (nat_lit 17, ⟨(.type "tuple"), none, (.seq #[(.str (.ofString "k") 190)] 0), #[]⟩) ::
   (nat_lit 18, ⟨(.type "tuple"), none, (.seq #[] 0), #[]⟩) ::
   (nat_lit 20, ⟨(.type "code"), none, (.fields #[(.str (.ofString "_wall") 187), (.str (.ofString "_wall") 188), (.str (.ofString "/claim/cut.py") 189), (.int 1 0), (.int 1 0), (.int 0 0), (.int 0 0), (.int 3 0), (.ref 15), (.bool true), (.int 181 0), (.ref 16), .none, (.ref 17), (.ref 18), (.ref 19), (.int 191 0), (.int 1 0), (.str (.ofString "/claim/cut.py") 192)]), #[]⟩) ::
   (nat_lit 21, ⟨(.type "function"), none, (fn s_0 (.ofString "_wall") 3 .none .none .none (.str (.ofString "__main__") 164) none (.ref 20) .none), #[]⟩) ::
   (nat_lit 22, ⟨(.type "tuple"), none, (.seq #[(.type "Exception")] 0), #[]⟩) ::
   (nat_lit 29, ⟨(.type "tuple"), none, (.seq #[(.int 0 208), (.int 0 209)] 0), #[]⟩) ::
   (nat_lit 30, ⟨(.type "tuple"), none, (.seq #[(.ref 29)] 0), #[]⟩) ::
   (nat_lit 31, ⟨(.type "tuple"), none, (.seq #[] 0), #[]⟩) ::
   (nat_lit 33, ⟨(.type "tuple"), none, (.seq #[(.str (.ofString "self") 213), (.str (.ofString "what") 214), (.str (.ofString "at") 215)] 0), #[]⟩) ::
   (nat_lit 34, ⟨(.type "tuple"), none, (.seq #[] 0), #[]⟩) ::
   (nat_lit 36, ⟨(.type "code"), none, (.fields #[(.str (.ofString "__init__") 210), (.str (.ofString "LedgerError.__init__") 211), (.str (.ofString "/claim/cut.py") 212), (.int 7 0), (.int 3 0), (.int 0 0), (.int 0 0), (.int 3 0), (.ref 31), (.bool true), (.int 181 0), (.ref 32), .none, (.ref 33), (.ref 34), (.ref 35), (.int 216 0), (.int 7 0), (.str (.ofString "/claim/cut.py") 217)]), #[]⟩) ::
   (nat_lit 37, ⟨(.type "function"), none, (fn m_2_0 (.ofString "LedgerError.__init__") 3 (.ref 30) .none .none (.str (.ofString "ledgerspeak.errors") 194) none (.ref 36) .none), #[]⟩) ::
   (nat_lit 38, ⟨(.type "tuple"), none, (.seq #[] 0), #[]⟩) ::
   (nat_lit 40, ⟨(.type "tuple"), none, (.seq #[(.str (.ofString "self") 222)] 0), #[]⟩) ::
   (nat_lit 41, ⟨(.type "tuple"), none, (.seq #[] 0), #[]⟩) ::
   (nat_lit 43, ⟨(.type "code"), none, (.fields #[(.str (.ofString "told") 219), (.str (.ofString "LedgerError.told") 220), (.str (.ofString "/claim/cut.py") 221), (.int 12 0), (.int 1 0), (.int 0 0), (.int 0 0), (.int 3 0), (.ref 38), (.bool true), (.int 181 0), (.ref 39), .none, (.ref 40), (.ref 41), (.ref 42), (.int 223 0), (.int 12 0), (.str (.ofString "/claim/cut.py") 224)]), #[]⟩) ::
   (nat_lit 44, ⟨(.type "function"), none, (fn m_2_1 (.ofString "LedgerError.told") 3 .none .none .none (.str (.ofString "ledgerspeak.errors") 194) none (.ref 43) .none), #[]⟩) ::
   (nat_lit 45, ⟨(.type "tuple"), none, (.seq #[(.str (.ofString "at") 226), (.str (.ofString "what") 227)] 0), #[]⟩) ::
   (nat_lit 46, ⟨(.type "dict"), none, (.dict #[⟨PyData.keyHash P (.ofString "__module__"), (.str (.ofString "__module__") 203), (.str (.ofString "ledgerspeak.errors") 194)⟩, ⟨PyData.keyHash P (.ofString "__firstlineno__"), (.str (.ofString "__firstlineno__") 207), (.int 5 206)⟩, ⟨PyData.keyHash P (.ofString "__init__"), (.str (.ofString "__init__") 218), (.ref 37)⟩, ⟨PyData.keyHash P (.ofString "told"), (.str (.ofString "told") 225), (.ref 44)⟩, ⟨PyData.keyHash P (.ofString "__static_attributes__"), (.str (.ofString "__static_attributes__") 228), (.ref 45)⟩, ⟨PyData.keyHash P (.ofString "__weakref__"), (.str (.ofString "__weakref__") 230), (.ref 48)⟩, ⟨PyData.keyHash P (.ofString "__doc__"), (.str (.ofString "__doc__") 231), .none⟩] 3), #[]⟩) ::
   (nat_lit 47, ⟨(.type "type"), none, (.cls ⟨(.ofString "LedgerError"), [(.type "Exception")], [(.ref 47), (.type "Exception"), (.type "BaseException"), (.type "object")], 46, (.ofString "LedgerError"), true, [], [(.ref 60)], false, none, false⟩), #[(some (.ref 22)), none, (some (.str (.ofString "LedgerError") 196)), (some (.str (.ofString "LedgerError") 204)), (some (.builtin "Exception.__new__")), (some (.bool true))]⟩) ::
   (nat_lit 48, ⟨(.type "getset_descriptor"), none, (.fields #[(.str (.ofString "__weakref__") 229), (.ref 47), (.builtin "ExceptionGroup.__weakref__"), .none]), #[]⟩) ::
   (nat_lit 51, ⟨(.type "tuple"), none, (.seq #[(.ref 47)] 0), #[]⟩) ::
   (nat_lit 58, ⟨(.type "tuple"), none, (.seq #[] 0), #[]⟩) ::
   (nat_lit 59, ⟨(.type "dict"), none, (.dict #[⟨PyData.keyHash P (.ofString "__module__"), (.str (.ofString "__module__") 243), (.str (.ofString "ledgerspeak.errors") 194)⟩, ⟨PyData.keyHash P (.ofString "__firstlineno__"), (.str (.ofString "__firstlineno__") 247), (.int 14 246)⟩, ⟨PyData.keyHash P (.ofString "__static_attributes__"), (.str (.ofString "__static_attributes__") 248), (.ref 58)⟩, ⟨PyData.keyHash P (.ofString "__doc__"), (.str (.ofString "__doc__") 249), .none⟩] 2), #[]⟩) ::
   (nat_lit 60, ⟨(.type "type"), none, (.cls ⟨(.ofString "CheckFault"), [(.ref 47)], [(.ref 60), (.ref 47), (.type "Exception"), (.type "BaseException"), (.type "object")], 59, (.ofString "CheckFault"), true, [], [], false, none, false⟩), #[(some (.ref 51)), none, (some (.str (.ofString "CheckFault") 236)), (some (.str (.ofString "CheckFault") 244)), (some (.builtin "Exception.__new__")), (some (.bool true))]⟩) ::
   (nat_lit 70, ⟨(.type "tuple"), none, (.seq #[] 0), #[]⟩) ::
   (nat_lit 71, ⟨(.type "tuple"), none, (.seq #[] 0), #[]⟩) ::
   (nat_lit 72, ⟨(.type "tuple"), none, (.seq #[.none, (.ref 70), (.ref 71)] 0), #[]⟩) ::
   (nat_lit 73, ⟨(.type "tuple"), none, (.seq #[] 0), #[]⟩) ::
   (nat_lit 75, ⟨(.type "tuple"), none, (.seq #[(.str (.ofString "self") 271), (.str (.ofString "low") 272), (.str (.ofString "high") 273), (.str (.ofString "depending") 274), (.str (.ofString "keys") 275), (.str (.ofString "indexes") 276)] 0), #[]⟩) ::
   (nat_lit 76, ⟨(.type "tuple"), none, (.seq #[] 0), #[]⟩) ::
   (nat_lit 78, ⟨(.type "code"), none, (.fields #[(.str (.ofString "__init__") 268), (.str (.ofString "Occurs.__init__") 269), (.str (.ofString "/claim/cut.py") 270), (.int 20 0), (.int 6 0), (.int 0 0), (.int 0 0), (.int 3 0), (.ref 73), (.bool true), (.int 181 0), (.ref 74), .none, (.ref 75), (.ref 76), (.ref 77), (.int 277 0), (.int 20 0), (.str (.ofString "/claim/cut.py") 278)]), #[]⟩) ::
   (nat_lit 79, ⟨(.type "function"), none, (fn m_6_0 (.ofString "Occurs.__init__") 3 (.ref 72) .none .none (.str (.ofString "ledgerspeak.items") 252) none (.ref 78) .none), #[]⟩) ::
   (nat_lit 80, ⟨(.type "tuple"), none, (.seq #[] 0), #[]⟩) ::
   (nat_lit 82, ⟨(.type "tuple"), none, (.seq #[(.str (.ofString "self") 283)] 0), #[]⟩) ::
   (nat_lit 83, ⟨(.type "tuple"), none, (.seq #[] 0), #[]⟩) ::
   (nat_lit 85, ⟨(.type "code"), none, (.fields #[(.str (.ofString "told") 280), (.str (.ofString "Occurs.told") 281), (.str (.ofString "/claim/cut.py") 282), (.int 27 0), (.int 1 0), (.int 0 0), (.int 0 0), (.int 3 0), (.ref 80), (.bool true), (.int 181 0), (.ref 81), .none, (.ref 82), (.ref 83), (.ref 84), (.int 284 0), (.int 27 0), (.str (.ofString "/claim/cut.py") 285)]), #[]⟩) ::
   (nat_lit 86, ⟨(.type "function"), none, (fn m_6_1 (.ofString "Occurs.told") 3 .none .none .none (.str (.ofString "ledgerspeak.items") 252) none (.ref 85) .none), #[]⟩) ::
   (nat_lit 87, ⟨(.type "tuple"), none, (.seq #[(.str (.ofString "depending") 287), (.str (.ofString "high") 288), (.str (.ofString "indexes") 289), (.str (.ofString "keys") 290), (.str (.ofString "low") 291)] 0), #[]⟩) ::
   (nat_lit 88, ⟨(.type "dict"), none, (.dict #[⟨PyData.keyHash P (.ofString "__module__"), (.str (.ofString "__module__") 263), (.str (.ofString "ledgerspeak.items") 252)⟩, ⟨PyData.keyHash P (.ofString "__firstlineno__"), (.str (.ofString "__firstlineno__") 267), (.int 18 266)⟩, ⟨PyData.keyHash P (.ofString "__init__"), (.str (.ofString "__init__") 279), (.ref 79)⟩, ⟨PyData.keyHash P (.ofString "told"), (.str (.ofString "told") 286), (.ref 86)⟩, ⟨PyData.keyHash P (.ofString "__static_attributes__"), (.str (.ofString "__static_attributes__") 292), (.ref 87)⟩, ⟨PyData.keyHash P (.ofString "__dict__"), (.str (.ofString "__dict__") 294), (.ref 90)⟩, ⟨PyData.keyHash P (.ofString "__weakref__"), (.str (.ofString "__weakref__") 296), (.ref 91)⟩, ⟨PyData.keyHash P (.ofString "__doc__"), (.str (.ofString "__doc__") 297), .none⟩] 4), #[]⟩) ::
   (nat_lit 89, ⟨(.type "type"), none, (.cls ⟨(.ofString "Occurs"), [(.type "object")], [(.ref 89), (.type "object")], 88, (.ofString "Occurs"), true, [], [], false, none, false⟩), #[none, none, (some (.str (.ofString "Occurs") 256)), (some (.str (.ofString "Occurs") 264)), (some (.builtin "object.__new__")), (some (.bool true))]⟩) ::
   (nat_lit 90, ⟨(.type "getset_descriptor"), none, (.fields #[(.str (.ofString "__dict__") 293), (.ref 89), (.builtin "function.__dict__"), (.builtin "function.__dict__#set")]), #[]⟩) ::
   (nat_lit 91, ⟨(.type "getset_descriptor"), none, (.fields #[(.str (.ofString "__weakref__") 295), (.ref 89), (.builtin "ExceptionGroup.__weakref__"), .none]), #[]⟩) ::
   (nat_lit 101, ⟨(.type "tuple"), none, (.seq #[] 0), #[]⟩) ::
   (nat_lit 103, ⟨(.type "tuple"), none, (.seq #[(.str (.ofString "self") 315), (.str (.ofString "level") 316), (.str (.ofString "name") 317)] 0), #[]⟩) ::
   (nat_lit 104, ⟨(.type "tuple"), none, (.seq #[] 0), #[]⟩) ::
   (nat_lit 106, ⟨(.type "code"), none, (.fields #[(.str (.ofString "__init__") 312), (.str (.ofString "Item.__init__") 313), (.str (.ofString "/claim/cut.py") 314), (.int 31 0), (.int 3 0), (.int 0 0), (.int 0 0), (.int 3 0), (.ref 101), (.bool true), (.int 181 0), (.ref 102), .none, (.ref 103), (.ref 104), (.ref 105), (.int 318 0), (.int 31 0), (.str (.ofString "/claim/cut.py") 319)]), #[]⟩) ::
   (nat_lit 107, ⟨(.type "function"), none, (fn m_7_0 (.ofString "Item.__init__") 3 .none .none .none (.str (.ofString "ledgerspeak.items") 252) none (.ref 106) .none), #[]⟩) ::
   (nat_lit 108, ⟨(.type "tuple"), none, (.seq #[] 0), #[]⟩) ::
   (nat_lit 110, ⟨(.type "tuple"), none, (.seq #[(.str (.ofString "self") 324), (.str (.ofString "kid") 325)] 0), #[]⟩) ::
   (nat_lit 111, ⟨(.type "tuple"), none, (.seq #[] 0), #[]⟩) ::
   (nat_lit 113, ⟨(.type "code"), none, (.fields #[(.str (.ofString "add") 321), (.str (.ofString "Item.add") 322), (.str (.ofString "/claim/cut.py") 323), (.int 52 0), (.int 2 0), (.int 0 0), (.int 0 0), (.int 3 0), (.ref 108), (.bool true), (.int 181 0), (.ref 109), .none, (.ref 110), (.ref 111), (.ref 112), (.int 326 0), (.int 52 0), (.str (.ofString "/claim/cut.py") 327)]), #[]⟩) ::
   (nat_lit 114, ⟨(.type "function"), none, (fn m_7_1 (.ofString "Item.add") 3 .none .none .none (.str (.ofString "ledgerspeak.items") 252) none (.ref 113) .none), #[]⟩) ::
   (nat_lit 115, ⟨(.type "tuple"), none, (.seq #[] 0), #[]⟩) ::
   (nat_lit 117, ⟨(.type "tuple"), none, (.seq #[(.str (.ofString "self") 332)] 0), #[]⟩) ::
   (nat_lit 118, ⟨(.type "tuple"), none, (.seq #[] 0), #[]⟩) ::
   (nat_lit 120, ⟨(.type "code"), none, (.fields #[(.str (.ofString "count") 329), (.str (.ofString "Item.count") 330), (.str (.ofString "/claim/cut.py") 331), (.int 56 0), (.int 1 0), (.int 0 0), (.int 0 0), (.int 3 0), (.ref 115), (.bool true), (.int 181 0), (.ref 116), .none, (.ref 117), (.ref 118), (.ref 119), (.int 333 0), (.int 56 0), (.str (.ofString "/claim/cut.py") 334)]), #[]⟩) ::
   (nat_lit 121, ⟨(.type "function"), none, (fn m_7_2 (.ofString "Item.count") 3 .none .none .none (.str (.ofString "ledgerspeak.items") 252) none (.ref 120) .none), #[]⟩) ::
   (nat_lit 122, ⟨(.type "tuple"), none, (.seq #[] 0), #[]⟩) ::
   (nat_lit 124, ⟨(.type "tuple"), none, (.seq #[(.str (.ofString "self") 339), (.str (.ofString "often") 340), (.str (.ofString "first") 341)] 0), #[]⟩) ::
   (nat_lit 125, ⟨(.type "tuple"), none, (.seq #[] 0), #[]⟩) ::
   (nat_lit 127, ⟨(.type "code"), none, (.fields #[(.str (.ofString "clauses") 336), (.str (.ofString "Item.clauses") 337), (.str (.ofString "/claim/cut.py") 338), (.int 59 0), (.int 1 0), (.int 0 0), (.int 0 0), (.int 3 0), (.ref 122), (.bool true), (.int 181 0), (.ref 123), .none, (.ref 124), (.ref 125), (.ref 126), (.int 342 0), (.int 59 0), (.str (.ofString "/claim/cut.py") 343)]), #[]⟩) ::
   (nat_lit 128, ⟨(.type "function"), none, (fn m_7_3 (.ofString "Item.clauses") 3 .none .none .none (.str (.ofString "ledgerspeak.items") 252) none (.ref 127) .none), #[]⟩) ::
   (nat_lit 129, ⟨(.type "tuple"), none, (.seq #[] 0), #[]⟩) ::
   (nat_lit 132, ⟨(.type "code"), none, (.fields #[(.str (.ofString "told") 345), (.str (.ofString "Item.told") 346), (.str (.ofString "/claim/cut.py") 347), (.int 64 0), (.int 1 0), (.int 0 0), (.int 0 0), (.int 3 0), (.ref 129), (.bool true), (.int 181 0), (.ref 130), .none, .none, .none, (.ref 131), (.int 348 0), (.int 64 0), (.str (.ofString "/claim/cut.py") 349)]), #[]⟩) ::
   (nat_lit 133, ⟨(.type "function"), none, (fn m_7_4 (.ofString "Item.told") 3 .none .none .none (.str (.ofString "ledgerspeak.items") 252) none (.ref 132) .none), #[]⟩) ::
   (nat_lit 134, ⟨(.type "tuple"), none, (.seq #[(.str (.ofString "base") 351), (.str (.ofString "conditions") 352), (.str (.ofString "is_blank_zero") 353), (.str (.ofString "is_justified") 354), (.str (.ofString "is_separate") 355), (.str (.ofString "kids") 356), (.str (.ofString "level") 357), (.str (.ofString "name") 358), (.str (.ofString "occurs") 359), (.str (.ofString "offset") 360), (.str (.ofString "parent") 361), (.str (.ofString "picture_text") 362), (.str (.ofString "redefines") 363), (.str (.ofString "renames") 364), (.str (.ofString "shape") 365), (.str (.ofString "sign") 366), (.str (.ofString "size") 367), (.str (.ofString "usage") 368), (.str (.ofString "value") 369)] 0), #[]⟩) ::
   (nat_lit 135, ⟨(.type "dict"), none, (.dict #[⟨PyData.keyHash P (.ofString "__module__"), (.str (.ofString "__module__") 307), (.str (.ofString "ledgerspeak.items") 252)⟩, ⟨PyData.keyHash P (.ofString "__firstlineno__"), (.str (.ofString "__firstlineno__") 311), (.int 29 310)⟩, ⟨PyData.keyHash P (.ofString "__init__"), (.str (.ofString "__init__") 320), (.ref 107)⟩, ⟨PyData.keyHash P (.ofString "add"), (.str (.ofString "add") 328), (.ref 114)⟩, ⟨PyData.keyHash P (.ofString "count"), (.str (.ofString "count") 335), (.ref 121)⟩, ⟨PyData.keyHash P (.ofString "clauses"), (.str (.ofString "clauses") 344), (.ref 128)⟩, ⟨PyData.keyHash P (.ofString "told"), (.str (.ofString "told") 350), (.ref 133)⟩, ⟨PyData.keyHash P (.ofString "__static_attributes__"), (.str (.ofString "__static_attributes__") 370), (.ref 134)⟩, ⟨PyData.keyHash P (.ofString "__dict__"), (.str (.ofString "__dict__") 372), (.ref 137)⟩, ⟨PyData.keyHash P (.ofString "__weakref__"), (.str (.ofString "__weakref__") 374), (.ref 138)⟩, ⟨PyData.keyHash P (.ofString "__doc__"), (.str (.ofString "__doc__") 375), .none⟩] 4), #[]⟩) ::
   (nat_lit 136, ⟨(.type "type"), none, (.cls ⟨(.ofString "Item"), [(.type "object")], [(.ref 136), (.type "object")], 135, (.ofString "Item"), true, [], [], false, none, false⟩), #[none, none, (some (.str (.ofString "Item") 300)), (some (.str (.ofString "Item") 308)), (some (.builtin "object.__new__")), (some (.bool true))]⟩) ::
   (nat_lit 137, ⟨(.type "getset_descriptor"), none, (.fields #[(.str (.ofString "__dict__") 371), (.ref 136), (.builtin "function.__dict__"), (.builtin "function.__dict__#set")]), #[]⟩) ::
   (nat_lit 138, ⟨(.type "getset_descriptor"), none, (.fields #[(.str (.ofString "__weakref__") 373), (.ref 136), (.builtin "ExceptionGroup.__weakref__"), .none]), #[]⟩) ::
   (nat_lit 148, ⟨(.type "tuple"), none, (.seq #[] 0), #[]⟩) ::
   (nat_lit 150, ⟨(.type "tuple"), none, (.seq #[(.str (.ofString "self") 393)] 0), #[]⟩) ::
   (nat_lit 151, ⟨(.type "tuple"), none, (.seq #[] 0), #[]⟩) ::
   (nat_lit 153, ⟨(.type "code"), none, (.fields #[(.str (.ofString "__init__") 390), (.str (.ofString "Data.__init__") 391), (.str (.ofString "/claim/cut.py") 392), (.int 69 0), (.int 1 0), (.int 0 0), (.int 0 0), (.int 3 0), (.ref 148), (.bool true), (.int 181 0), (.ref 149), .none, (.ref 150), (.ref 151), (.ref 152), (.int 394 0), (.int 69 0), (.str (.ofString "/claim/cut.py") 395)]), #[]⟩) ::
   (nat_lit 154, ⟨(.type "function"), none, (fn m_8_0 (.ofString "Data.__init__") 3 .none .none .none (.str (.ofString "ledgerspeak.items") 252) none (.ref 153) .none), #[]⟩) ::
   (nat_lit 155, ⟨(.type "tuple"), none, (.seq #[] 0), #[]⟩) ::
   (nat_lit 158, ⟨(.type "code"), none, (.fields #[(.str (.ofString "told") 397), (.str (.ofString "Data.told") 398), (.str (.ofString "/claim/cut.py") 399), (.int 77 0), (.int 1 0), (.int 0 0), (.int 0 0), (.int 3 0), (.ref 155), (.bool true), (.int 181 0), (.ref 156), .none, .none, .none, (.ref 157), (.int 400 0), (.int 77 0), (.str (.ofString "/claim/cut.py") 401)]), #[]⟩) ::
   (nat_lit 159, ⟨(.type "function"), none, (fn m_8_1 (.ofString "Data.told") 3 .none .none .none (.str (.ofString "ledgerspeak.items") 252) none (.ref 158) .none), #[]⟩) ::
   (nat_lit 160, ⟨(.type "tuple"), none, (.seq #[(.str (.ofString "files") 403), (.str (.ofString "indexes") 404), (.str (.ofString "linkage") 405), (.str (.ofString "size") 406), (.str (.ofString "sorts") 407), (.str (.ofString "working") 408)] 0), #[]⟩) ::
   (nat_lit 161, ⟨(.type "dict"), none, (.dict #[⟨PyData.keyHash P (.ofString "__module__"), (.str (.ofString "__module__") 385), (.str (.ofString "ledgerspeak.items") 252)⟩, ⟨PyData.keyHash P (.ofString "__firstlineno__"), (.str (.ofString "__firstlineno__") 389), (.int 67 388)⟩, ⟨PyData.keyHash P (.ofString "__init__"), (.str (.ofString "__init__") 396), (.ref 154)⟩, ⟨PyData.keyHash P (.ofString "told"), (.str (.ofString "told") 402), (.ref 159)⟩, ⟨PyData.keyHash P (.ofString "__static_attributes__"), (.str (.ofString "__static_attributes__") 409), (.ref 160)⟩, ⟨PyData.keyHash P (.ofString "__dict__"), (.str (.ofString "__dict__") 411), (.ref 163)⟩, ⟨PyData.keyHash P (.ofString "__weakref__"), (.str (.ofString "__weakref__") 413), (.ref 164)⟩, ⟨PyData.keyHash P (.ofString "__doc__"), (.str (.ofString "__doc__") 414), .none⟩] 4), #[]⟩) ::
   (nat_lit 162, ⟨(.type "type"), none, (.cls ⟨(.ofString "Data"), [(.type "object")], [(.ref 162), (.type "object")], 161, (.ofString "Data"), true, [], [], false, none, false⟩), #[none, none, (some (.str (.ofString "Data") 378)), (some (.str (.ofString "Data") 386)), (some (.builtin "object.__new__")), (some (.bool true))]⟩) ::
   (nat_lit 163, ⟨(.type "getset_descriptor"), none, (.fields #[(.str (.ofString "__dict__") 410), (.ref 162), (.builtin "function.__dict__"), (.builtin "function.__dict__#set")]), #[]⟩) ::
   (nat_lit 164, ⟨(.type "getset_descriptor"), none, (.fields #[(.str (.ofString "__weakref__") 412), (.ref 162), (.builtin "ExceptionGroup.__weakref__"), .none]), #[]⟩) ::
   (nat_lit 167, ⟨(.type "tuple"), none, (.seq #[] 0), #[]⟩) ::
   (nat_lit 169, ⟨(.type "tuple"), none, (.seq #[(.str (.ofString "data") 420), (.str (.ofString "found") 421), (.str (.ofString "name") 422)] 0), #[]⟩) ::
   (nat_lit 170, ⟨(.type "tuple"), none, (.seq #[] 0), #[]⟩) ::
   (nat_lit 172, ⟨(.type "code"), none, (.fields #[(.str (.ofString "records") 417), (.str (.ofString "records") 418), (.str (.ofString "/claim/cut.py") 419), (.int 80 0), (.int 1 0), (.int 0 0), (.int 0 0), (.int 3 0), (.ref 167), (.bool true), (.int 181 0), (.ref 168), .none, (.ref 169), (.ref 170), (.ref 171), (.int 423 0), (.int 80 0), (.str (.ofString "/claim/cut.py") 424)]), #[]⟩) ::
   (nat_lit 173, ⟨(.type "function"), none, (fn s_9 (.ofString "records") 3 .none .none .none (.str (.ofString "ledgerspeak.items") 252) none (.ref 172) .none), #[]⟩) ::
   (nat_lit 174, ⟨(.type "tuple"), none, (.seq #[] 0), #[]⟩) ::
   (nat_lit 176, ⟨(.type "tuple"), none, (.seq #[(.str (.ofString "item") 429), (.str (.ofString "found") 430), (.str (.ofString "line") 431), (.str (.ofString "one") 432)] 0), #[]⟩) ::
   (nat_lit 177, ⟨(.type "tuple"), none, (.seq #[] 0), #[]⟩) ::
   (nat_lit 179, ⟨(.type "code"), none, (.fields #[(.str (.ofString "items_under") 426), (.str (.ofString "items_under") 427), (.str (.ofString "/claim/cut.py") 428), (.int 85 0), (.int 1 0), (.int 0 0), (.int 0 0), (.int 3 0), (.ref 174), (.bool true), (.int 181 0), (.ref 175), .none, (.ref 176), (.ref 177), (.ref 178), (.int 433 0), (.int 85 0), (.str (.ofString "/claim/cut.py") 434)]), #[]⟩) ::
   (nat_lit 180, ⟨(.type "function"), none, (fn s_10 (.ofString "items_under") 3 .none .none .none (.str (.ofString "ledgerspeak.items") 252) none (.ref 179) .none), #[]⟩) ::
   (nat_lit 181, ⟨(.type "tuple"), none, (.seq #[] 0), #[]⟩) ::
   (nat_lit 183, ⟨(.type "tuple"), none, (.seq #[(.str (.ofString "data") 439), (.str (.ofString "found") 440), (.str (.ofString "root") 441)] 0), #[]⟩) ::
   (nat_lit 184, ⟨(.type "tuple"), none, (.seq #[] 0), #[]⟩) ::
   (nat_lit 186, ⟨(.type "code"), none, (.fields #[(.str (.ofString "all_items") 436), (.str (.ofString "all_items") 437), (.str (.ofString "/claim/cut.py") 438), (.int 93 0), (.int 1 0), (.int 0 0), (.int 0 0), (.int 3 0), (.ref 181), (.bool true), (.int 181 0), (.ref 182), .none, (.ref 183), (.ref 184), (.ref 185), (.int 442 0), (.int 93 0), (.str (.ofString "/claim/cut.py") 443)]), #[]⟩) ::
   (nat_lit 187, ⟨(.type "function"), none, (fn s_11 (.ofString "all_items") 3 .none .none .none (.str (.ofString "ledgerspeak.items") 252) none (.ref 186) .none), #[]⟩) ::
   (nat_lit 188, ⟨(.type "tuple"), none, (.seq #[] 0), #[]⟩) ::
   (nat_lit 190, ⟨(.type "tuple"), none, (.seq #[(.str (.ofString "item") 448), (.str (.ofString "found") 449), (.str (.ofString "above") 450)] 0), #[]⟩) ::
   (nat_lit 191, ⟨(.type "tuple"), none, (.seq #[] 0), #[]⟩) ::
   (nat_lit 193, ⟨(.type "code"), none, (.fields #[(.str (.ofString "items_around") 445), (.str (.ofString "items_around") 446), (.str (.ofString "/claim/cut.py") 447), (.int 98 0), (.int 1 0), (.int 0 0), (.int 0 0), (.int 3 0), (.ref 188), (.bool true), (.int 181 0), (.ref 189), .none, (.ref 190), (.ref 191), (.ref 192), (.int 451 0), (.int 98 0), (.str (.ofString "/claim/cut.py") 452)]), #[]⟩) ::
   (nat_lit 194, ⟨(.type "function"), none, (fn s_12 (.ofString "items_around") 3 .none .none .none (.str (.ofString "ledgerspeak.items") 252) none (.ref 193) .none), #[]⟩) ::
   (nat_lit 195, ⟨(.type "tuple"), none, (.seq #[] 0), #[]⟩) ::
   (nat_lit 197, ⟨(.type "tuple"), none, (.seq #[(.str (.ofString "item") 457), (.str (.ofString "around") 458)] 0), #[]⟩) ::
   (nat_lit 198, ⟨(.type "tuple"), none, (.seq #[] 0), #[]⟩) ::
   (nat_lit 200, ⟨(.type "code"), none, (.fields #[(.str (.ofString "root_of") 454), (.str (.ofString "root_of") 455), (.str (.ofString "/claim/cut.py") 456), (.int 105 0), (.int 1 0), (.int 0 0), (.int 0 0), (.int 3 0), (.ref 195), (.bool true), (.int 181 0), (.ref 196), .none, (.ref 197), (.ref 198), (.ref 199), (.int 459 0), (.int 105 0), (.str (.ofString "/claim/cut.py") 460)]), #[]⟩) ::
   (nat_lit 201, ⟨(.type "function"), none, (fn s_13 (.ofString "root_of") 3 .none .none .none (.str (.ofString "ledgerspeak.items") 252) none (.ref 200) .none), #[]⟩) ::
   (nat_lit 202, ⟨(.type "tuple"), none, (.seq #[] 0), #[]⟩) ::
   (nat_lit 205, ⟨(.type "code"), none, (.fields #[(.str (.ofString "names_around") 462), (.str (.ofString "names_around") 463), (.str (.ofString "/claim/cut.py") 464), (.int 108 0), (.int 1 0), (.int 0 0), (.int 0 0), (.int 3 0), (.ref 202), (.bool true), (.int 181 0), (.ref 203), .none, .none, .none, (.ref 204), (.int 465 0), (.int 108 0), (.str (.ofString "/claim/cut.py") 466)]), #[]⟩) ::
   (nat_lit 206, ⟨(.type "function"), none, (fn s_14 (.ofString "names_around") 3 .none .none .none (.str (.ofString "ledgerspeak.items") 252) none (.ref 205) .none), #[]⟩) ::
   (nat_lit 207, ⟨(.type "tuple"), none, (.seq #[] 0), #[]⟩) ::
   (nat_lit 210, ⟨(.type "code"), none, (.fields #[(.str (.ofString "tables_around") 468), (.str (.ofString "tables_around") 469), (.str (.ofString "/claim/cut.py") 470), (.int 110 0), (.int 1 0), (.int 0 0), (.int 0 0), (.int 3 0), (.ref 207), (.bool true), (.int 181 0), (.ref 208), .none, .none, .none, (.ref 209), (.int 471 0), (.int 110 0), (.str (.ofString "/claim/cut.py") 472)]), #[]⟩) ::
   (nat_lit 211, ⟨(.type "function"), none, (fn s_15 (.ofString "tables_around") 3 .none .none .none (.str (.ofString "ledgerspeak.items") 252) none (.ref 210) .none), #[]⟩) ::
   (nat_lit 212, ⟨(.type "tuple"), none, (.seq #[] 0), #[]⟩) ::
   (nat_lit 215, ⟨(.type "code"), none, (.fields #[(.str (.ofString "file_of") 476), (.str (.ofString "file_of") 477), (.str (.ofString "/claim/cut.py") 478), (.int 114 0), (.int 2 0), (.int 0 0), (.int 0 0), (.int 3 0), (.ref 212), (.bool true), (.int 181 0), (.ref 213), .none, .none, .none, (.ref 214), (.int 479 0), (.int 114 0), (.str (.ofString "/claim/cut.py") 480)]), #[]⟩) ::
   (nat_lit 216, ⟨(.type "function"), none, (fn s_17 (.ofString "file_of") 3 .none .none .none (.str (.ofString "ledgerspeak.references") 474) none (.ref 215) .none), #[]⟩) ::
   (nat_lit 217, ⟨(.type "tuple"), none, (.seq #[] 0), #[]⟩) ::
   (nat_lit 219, ⟨(.type "tuple"), none, (.seq #[(.str (.ofString "around") 485), (.str (.ofString "qualifiers") 486), (.str (.ofString "at") 487), (.str (.ofString "name") 488)] 0), #[]⟩) ::
   (nat_lit 220, ⟨(.type "tuple"), none, (.seq #[] 0), #[]⟩) ::
   (nat_lit 222, ⟨(.type "code"), none, (.fields #[(.str (.ofString "leads_through") 482), (.str (.ofString "leads_through") 483), (.str (.ofString "/claim/cut.py") 484), (.int 120 0), (.int 2 0), (.int 0 0), (.int 0 0), (.int 3 0), (.ref 217), (.bool true), (.int 181 0), (.ref 218), .none, (.ref 219), (.ref 220), (.ref 221), (.int 489 0), (.int 120 0), (.str (.ofString "/claim/cut.py") 490)]), #[]⟩) ::
   (nat_lit 223, ⟨(.type "function"), none, (fn s_18 (.ofString "leads_through") 3 .none .none .none (.str (.ofString "ledgerspeak.references") 474) none (.ref 222) .none), #[]⟩) ::
   (nat_lit 224, ⟨(.type "tuple"), none, (.seq #[] 0), #[]⟩) ::
   (nat_lit 226, ⟨(.type "tuple"), none, (.seq #[(.str (.ofString "found") 495), (.str (.ofString "name") 496)] 0), #[]⟩) ::
   (nat_lit 227, ⟨(.type "tuple"), none, (.seq #[] 0), #[]⟩) ::
   (nat_lit 229, ⟨(.type "code"), none, (.fields #[(.str (.ofString "only_one") 492), (.str (.ofString "only_one") 493), (.str (.ofString "/claim/cut.py") 494), (.int 126 0), (.int 2 0), (.int 0 0), (.int 0 0), (.int 3 0), (.ref 224), (.bool true), (.int 181 0), (.ref 225), .none, (.ref 226), (.ref 227), (.ref 228), (.int 497 0), (.int 126 0), (.str (.ofString "/claim/cut.py") 498)]), #[]⟩) ::
   (nat_lit 230, ⟨(.type "function"), none, (fn s_19 (.ofString "only_one") 3 .none .none .none (.str (.ofString "ledgerspeak.references") 474) none (.ref 229) .none), #[]⟩) ::
   (nat_lit 231, ⟨(.type "tuple"), none, (.seq #[] 0), #[]⟩) ::
   (nat_lit 234, ⟨(.type "code"), none, (.fields #[(.str (.ofString "find_item") 500), (.str (.ofString "find_item") 501), (.str (.ofString "/claim/cut.py") 502), (.int 132 0), (.int 3 0), (.int 0 0), (.int 0 0), (.int 3 0), (.ref 231), (.bool true), (.int 181 0), (.ref 232), .none, .none, .none, (.ref 233), (.int 503 0), (.int 132 0), (.str (.ofString "/claim/cut.py") 504)]), #[]⟩) ::
   (nat_lit 235, ⟨(.type "function"), none, (fn s_20 (.ofString "find_item") 3 .none .none .none (.str (.ofString "ledgerspeak.references") 474) none (.ref 234) .none), #[]⟩) ::
   (nat_lit 236, ⟨(.type "tuple"), none, (.seq #[(.str (.ofString "numeric") 510), (.str (.ofString "edited") 511)] 0), #[]⟩) ::
   (nat_lit 237, ⟨(.type "tuple"), none, (.seq #[] 0), #[]⟩) ::
   (nat_lit 239, ⟨(.type "tuple"), none, (.seq #[(.str (.ofString "data") 516), (.str (.ofString "ref") 517)] 0), #[]⟩) ::
   (nat_lit 240, ⟨(.type "tuple"), none, (.seq #[] 0), #[]⟩) ::
   (nat_lit 242, ⟨(.type "code"), none, (.fields #[(.str (.ofString "item_of") 513), (.str (.ofString "item_of") 514), (.str (.ofString "/claim/cut.py") 515), (.int 138 0), (.int 2 0), (.int 0 0), (.int 0 0), (.int 3 0), (.ref 237), (.bool true), (.int 181 0), (.ref 238), .none, (.ref 239), (.ref 240), (.ref 241), (.int 518 0), (.int 138 0), (.str (.ofString "/claim/cut.py") 519)]), #[]⟩) ::
   (nat_lit 243, ⟨(.type "function"), none, (fn s_24 (.ofString "item_of") 3 .none .none .none (.str (.ofString "ledgerspeak.checker") 506) none (.ref 242) .none), #[]⟩) ::
   (nat_lit 244, ⟨(.type "tuple"), none, (.seq #[] 0), #[]⟩) ::
   (nat_lit 246, ⟨(.type "tuple"), none, (.seq #[(.str (.ofString "data") 524), (.str (.ofString "operand") 525)] 0), #[]⟩) ::
   (nat_lit 247, ⟨(.type "tuple"), none, (.seq #[] 0), #[]⟩) ::
   (nat_lit 249, ⟨(.type "code"), none, (.fields #[(.str (.ofString "is_index_name") 521), (.str (.ofString "is_index_name") 522), (.str (.ofString "/claim/cut.py") 523), (.int 143 0), (.int 2 0), (.int 0 0), (.int 0 0), (.int 3 0), (.ref 244), (.bool true), (.int 181 0), (.ref 245), .none, (.ref 246), (.ref 247), (.ref 248), (.int 526 0), (.int 143 0), (.str (.ofString "/claim/cut.py") 527)]), #[]⟩) ::
   (nat_lit 250, ⟨(.type "function"), none, (fn s_25 (.ofString "is_index_name") 3 .none .none .none (.str (.ofString "ledgerspeak.checker") 506) none (.ref 249) .none), #[]⟩) ::
   (nat_lit 251, ⟨(.type "tuple"), none, (.seq #[] 0), #[]⟩) ::
   (nat_lit 253, ⟨(.type "tuple"), none, (.seq #[(.str (.ofString "data") 532), (.str (.ofString "ref") 533), (.str (.ofString "found") 534), (.str (.ofString "expr") 535)] 0), #[]⟩) ::
   (nat_lit 254, ⟨(.type "tuple"), none, (.seq #[] 0), #[]⟩) ::
   (nat_lit 256, ⟨(.type "code"), none, (.fields #[(.str (.ofString "part_faults") 529), (.str (.ofString "part_faults") 530), (.str (.ofString "/claim/cut.py") 531), (.int 145 0), (.int 2 0), (.int 0 0), (.int 0 0), (.int 3 0), (.ref 251), (.bool true), (.int 181 0), (.ref 252), .none, (.ref 253), (.ref 254), (.ref 255), (.int 536 0), (.int 145 0), (.str (.ofString "/claim/cut.py") 537)]), #[]⟩) ::
   (nat_lit 257, ⟨(.type "function"), none, (fn s_26 (.ofString "part_faults") 3 .none .none .none (.str (.ofString "ledgerspeak.checker") 506) none (.ref 256) .none), #[]⟩) ::
   (nat_lit 258, ⟨(.type "tuple"), none, (.seq #[(.int 0 539)] 0), #[]⟩) ::
   (nat_lit 259, ⟨(.type "tuple"), none, (.seq #[] 0), #[]⟩) ::
   (nat_lit 261, ⟨(.type "tuple"), none, (.seq #[(.str (.ofString "data") 543), (.str (.ofString "ref") 544), (.str (.ofString "less") 545), (.str (.ofString "item") 546), (.str (.ofString "fault") 547), (.str (.ofString "found") 548)] 0), #[]⟩) ::
   (nat_lit 262, ⟨(.type "tuple"), none, (.seq #[] 0), #[]⟩) ::
   (nat_lit 264, ⟨(.type "code"), none, (.fields #[(.str (.ofString "ref_faults") 540), (.str (.ofString "ref_faults") 541), (.str (.ofString "/claim/cut.py") 542), (.int 153 0), (.int 3 0), (.int 0 0), (.int 0 0), (.int 3 0), (.ref 259), (.bool true), (.int 181 0), (.ref 260), .none, (.ref 261), (.ref 262), (.ref 263), (.int 549 0), (.int 153 0), (.str (.ofString "/claim/cut.py") 550)]), #[]⟩) ::
   (nat_lit 265, ⟨(.type "function"), none, (fn s_27 (.ofString "ref_faults") 3 (.ref 258) .none .none (.str (.ofString "ledgerspeak.checker") 506) none (.ref 264) .none), #[]⟩) ::
   (nat_lit 266, ⟨(.type "tuple"), none, (.seq #[] 0), #[]⟩) ::
   (nat_lit 268, ⟨(.type "tuple"), none, (.seq #[(.str (.ofString "data") 555), (.str (.ofString "operand") 556)] 0), #[]⟩) ::
   (nat_lit 269, ⟨(.type "tuple"), none, (.seq #[] 0), #[]⟩) ::
   (nat_lit 271, ⟨(.type "code"), none, (.fields #[(.str (.ofString "operand_faults") 552), (.str (.ofString "operand_faults") 553), (.str (.ofString "/claim/cut.py") 554), (.int 164 0), (.int 2 0), (.int 0 0), (.int 0 0), (.int 3 0), (.ref 266), (.bool true), (.int 181 0), (.ref 267), .none, (.ref 268), (.ref 269), (.ref 270), (.int 557 0), (.int 164 0), (.str (.ofString "/claim/cut.py") 558)]), #[]⟩) ::
   (nat_lit 272, ⟨(.type "function"), none, (fn s_28 (.ofString "operand_faults") 3 .none .none .none (.str (.ofString "ledgerspeak.checker") 506) none (.ref 271) .none), #[]⟩) ::
   (nat_lit 273, ⟨(.type "tuple"), none, (.seq #[] 0), #[]⟩) ::
   (nat_lit 275, ⟨(.type "tuple"), none, (.seq #[(.str (.ofString "data") 563), (.str (.ofString "operand") 564), (.str (.ofString "item") 565)] 0), #[]⟩) ::
   (nat_lit 276, ⟨(.type "tuple"), none, (.seq #[] 0), #[]⟩) ::
   (nat_lit 278, ⟨(.type "code"), none, (.fields #[(.str (.ofString "category_of") 560), (.str (.ofString "category_of") 561), (.str (.ofString "/claim/cut.py") 562), (.int 166 0), (.int 2 0), (.int 0 0), (.int 0 0), (.int 3 0), (.ref 273), (.bool true), (.int 181 0), (.ref 274), .none, (.ref 275), (.ref 276), (.ref 277), (.int 566 0), (.int 166 0), (.str (.ofString "/claim/cut.py") 567)]), #[]⟩) ::
   (nat_lit 279, ⟨(.type "function"), none, (fn s_29 (.ofString "category_of") 3 .none .none .none (.str (.ofString "ledgerspeak.checker") 506) none (.ref 278) .none), #[]⟩) ::
   (nat_lit 280, ⟨(.type "tuple"), none, (.seq #[] 0), #[]⟩) ::
   (nat_lit 282, ⟨(.type "tuple"), none, (.seq #[(.str (.ofString "data") 572), (.str (.ofString "operand") 573)] 0), #[]⟩) ::
   (nat_lit 283, ⟨(.type "tuple"), none, (.seq #[] 0), #[]⟩) ::
   (nat_lit 285, ⟨(.type "code"), none, (.fields #[(.str (.ofString "is_number_operand") 569), (.str (.ofString "is_number_operand") 570), (.str (.ofString "/claim/cut.py") 571), (.int 177 0), (.int 2 0), (.int 0 0), (.int 0 0), (.int 3 0), (.ref 280), (.bool true), (.int 181 0), (.ref 281), .none, (.ref 282), (.ref 283), (.ref 284), (.int 574 0), (.int 177 0), (.str (.ofString "/claim/cut.py") 575)]), #[]⟩) ::
   (nat_lit 286, ⟨(.type "function"), none, (fn s_30 (.ofString "is_number_operand") 3 .none .none .none (.str (.ofString "ledgerspeak.checker") 506) none (.ref 285) .none), #[]⟩) ::
   (nat_lit 287, ⟨(.type "tuple"), none, (.seq #[] 0), #[]⟩) ::
   (nat_lit 289, ⟨(.type "tuple"), none, (.seq #[(.str (.ofString "data") 580), (.str (.ofString "expr") 581), (.str (.ofString "found") 582)] 0), #[]⟩) ::
   (nat_lit 290, ⟨(.type "tuple"), none, (.seq #[] 0), #[]⟩) ::
   (nat_lit 292, ⟨(.type "code"), none, (.fields #[(.str (.ofString "number_faults") 577), (.str (.ofString "number_faults") 578), (.str (.ofString "/claim/cut.py") 579), (.int 179 0), (.int 2 0), (.int 0 0), (.int 0 0), (.int 3 0), (.ref 287), (.bool true), (.int 181 0), (.ref 288), .none, (.ref 289), (.ref 290), (.ref 291), (.int 583 0), (.int 179 0), (.str (.ofString "/claim/cut.py") 584)]), #[]⟩) ::
   (nat_lit 293, ⟨(.type "function"), none, (fn s_31 (.ofString "number_faults") 3 .none .none .none (.str (.ofString "ledgerspeak.checker") 506) none (.ref 292) .none), #[]⟩) ::
   (nat_lit 294, ⟨(.type "tuple"), none, (.seq #[] 0), #[]⟩) ::
   (nat_lit 296, ⟨(.type "tuple"), none, (.seq #[(.str (.ofString "operand") 589)] 0), #[]⟩) ::
   (nat_lit 297, ⟨(.type "tuple"), none, (.seq #[] 0), #[]⟩) ::
   (nat_lit 299, ⟨(.type "code"), none, (.fields #[(.str (.ofString "name_of") 586), (.str (.ofString "name_of") 587), (.str (.ofString "/claim/cut.py") 588), (.int 188 0), (.int 1 0), (.int 0 0), (.int 0 0), (.int 3 0), (.ref 294), (.bool true), (.int 181 0), (.ref 295), .none, (.ref 296), (.ref 297), (.ref 298), (.int 590 0), (.int 188 0), (.str (.ofString "/claim/cut.py") 591)]), #[]⟩) ::
   (nat_lit 300, ⟨(.type "function"), none, (fn s_32 (.ofString "name_of") 3 .none .none .none (.str (.ofString "ledgerspeak.checker") 506) none (.ref 299) .none), #[]⟩) ::
   (nat_lit 301, ⟨(.type "tuple"), none, (.seq #[] 0), #[]⟩) ::
   (nat_lit 303, ⟨(.type "tuple"), none, (.seq #[(.str (.ofString "data") 596), (.str (.ofString "ref") 597), (.str (.ofString "categories") 598), (.str (.ofString "found") 599)] 0), #[]⟩) ::
   (nat_lit 304, ⟨(.type "tuple"), none, (.seq #[] 0), #[]⟩) ::
   (nat_lit 306, ⟨(.type "code"), none, (.fields #[(.str (.ofString "place_faults") 593), (.str (.ofString "place_faults") 594), (.str (.ofString "/claim/cut.py") 595), (.int 192 0), (.int 3 0), (.int 0 0), (.int 0 0), (.int 3 0), (.ref 301), (.bool true), (.int 181 0), (.ref 302), .none, (.ref 303), (.ref 304), (.ref 305), (.int 600 0), (.int 192 0), (.str (.ofString "/claim/cut.py") 601)]), #[]⟩) ::
   (nat_lit 307, ⟨(.type "function"), none, (fn s_33 (.ofString "place_faults") 3 .none .none .none (.str (.ofString "ledgerspeak.checker") 506) none (.ref 306) .none), #[]⟩) ::
   (nat_lit 308, ⟨(.type "tuple"), none, (.seq #[] 0), #[]⟩) ::
   (nat_lit 310, ⟨(.type "tuple"), none, (.seq #[(.str (.ofString "data") 606), (.str (.ofString "ref") 607)] 0), #[]⟩) ::
   (nat_lit 311, ⟨(.type "tuple"), none, (.seq #[] 0), #[]⟩) ::
   (nat_lit 313, ⟨(.type "code"), none, (.fields #[(.str (.ofString "counter_faults") 603), (.str (.ofString "counter_faults") 604), (.str (.ofString "/claim/cut.py") 605), (.int 197 0), (.int 2 0), (.int 0 0), (.int 0 0), (.int 3 0), (.ref 308), (.bool true), (.int 181 0), (.ref 309), .none, (.ref 310), (.ref 311), (.ref 312), (.int 608 0), (.int 197 0), (.str (.ofString "/claim/cut.py") 609)]), #[]⟩) ::
   (nat_lit 314, ⟨(.type "function"), none, (fn s_34 (.ofString "counter_faults") 3 .none .none .none (.str (.ofString "ledgerspeak.checker") 506) none (.ref 313) .none), #[]⟩) ::
   (nat_lit 315, ⟨(.type "tuple"), none, (.seq #[] 0), #[]⟩) ::
   (nat_lit 317, ⟨(.type "tuple"), none, (.seq #[(.str (.ofString "data") 614), (.str (.ofString "expr") 615), (.str (.ofString "rows") 616), (.str (.ofString "found") 617), (.str (.ofString "ref") 618), (.str (.ofString "is_rounded") 619), (.str (.ofString "way") 620)] 0), #[]⟩) ::
   (nat_lit 318, ⟨(.type "tuple"), none, (.seq #[] 0), #[]⟩) ::
   (nat_lit 320, ⟨(.type "code"), none, (.fields #[(.str (.ofString "arith_faults") 611), (.str (.ofString "arith_faults") 612), (.str (.ofString "/claim/cut.py") 613), (.int 199 0), (.int 3 0), (.int 0 0), (.int 0 0), (.int 3 0), (.ref 315), (.bool true), (.int 181 0), (.ref 316), .none, (.ref 317), (.ref 318), (.ref 319), (.int 621 0), (.int 199 0), (.str (.ofString "/claim/cut.py") 622)]), #[]⟩) ::
   (nat_lit 321, ⟨(.type "function"), none, (fn s_35 (.ofString "arith_faults") 3 .none .none .none (.str (.ofString "ledgerspeak.checker") 506) none (.ref 320) .none), #[]⟩) ::
   (nat_lit 329, ⟨(.type "tuple"), none, (.seq #[.none, (.str (.ofString "display") 638), (.str (.ofString "trailing") 639), (.bool false), (.bool false), (.bool false)] 0), #[]⟩) ::
   (nat_lit 330, ⟨(.type "tuple"), none, (.seq #[] 0), #[]⟩) ::
   (nat_lit 332, ⟨(.type "tuple"), none, (.seq #[(.str (.ofString "self") 643), (.str (.ofString "category") 644), (.str (.ofString "size") 645), (.str (.ofString "picture") 646), (.str (.ofString "usage") 647), (.str (.ofString "sign") 648), (.str (.ofString "is_separate") 649), (.str (.ofString "is_justified") 650), (.str (.ofString "is_blank_zero") 651)] 0), #[]⟩) ::
   (nat_lit 333, ⟨(.type "tuple"), none, (.seq #[] 0), #[]⟩) ::
   (nat_lit 335, ⟨(.type "code"), none, (.fields #[(.str (.ofString "__init__") 640), (.str (.ofString "Shape.__init__") 641), (.str (.ofString "/claim/cut.py") 642), (.int 207 0), (.int 9 0), (.int 0 0), (.int 0 0), (.int 3 0), (.ref 330), (.bool true), (.int 181 0), (.ref 331), .none, (.ref 332), (.ref 333), (.ref 334), (.int 652 0), (.int 207 0), (.str (.ofString "/claim/cut.py") 653)]), #[]⟩) ::
   (nat_lit 336, ⟨(.type "function"), none, (fn m_37_0 (.ofString "Shape.__init__") 3 (.ref 329) .none .none (.str (.ofString "ledgerspeak.shapes") 624) none (.ref 335) .none), #[]⟩) ::
   (nat_lit 337, ⟨(.type "tuple"), none, (.seq #[] 0), #[]⟩) ::
   (nat_lit 339, ⟨(.type "tuple"), none, (.seq #[(.str (.ofString "self") 658), (.str (.ofString "clauses") 659), (.str (.ofString "number") 660), (.str (.ofString "picture") 661)] 0), #[]⟩) ::
   (nat_lit 340, ⟨(.type "tuple"), none, (.seq #[] 0), #[]⟩) ::
   (nat_lit 342, ⟨(.type "code"), none, (.fields #[(.str (.ofString "told") 655), (.str (.ofString "Shape.told") 656), (.str (.ofString "/claim/cut.py") 657), (.int 224 0), (.int 1 0), (.int 0 0), (.int 0 0), (.int 3 0), (.ref 337), (.bool true), (.int 181 0), (.ref 338), .none, (.ref 339), (.ref 340), (.ref 341), (.int 662 0), (.int 224 0), (.str (.ofString "/claim/cut.py") 663)]), #[]⟩) ::
   (nat_lit 343, ⟨(.type "function"), none, (fn m_37_1 (.ofString "Shape.told") 3 .none .none .none (.str (.ofString "ledgerspeak.shapes") 624) none (.ref 342) .none), #[]⟩) ::
   (nat_lit 344, ⟨(.type "tuple"), none, (.seq #[] 0), #[]⟩) ::
   (nat_lit 346, ⟨(.type "tuple"), none, (.seq #[(.str (.ofString "self") 668)] 0), #[]⟩) ::
   (nat_lit 347, ⟨(.type "tuple"), none, (.seq #[] 0), #[]⟩) ::
   (nat_lit 349, ⟨(.type "code"), none, (.fields #[(.str (.ofString "sign_place") 665), (.str (.ofString "Shape.sign_place") 666), (.str (.ofString "/claim/cut.py") 667), (.int 230 0), (.int 1 0), (.int 0 0), (.int 0 0), (.int 3 0), (.ref 344), (.bool true), (.int 181 0), (.ref 345), .none, (.ref 346), (.ref 347), (.ref 348), (.int 669 0), (.int 230 0), (.str (.ofString "/claim/cut.py") 670)]), #[]⟩) ::
   (nat_lit 350, ⟨(.type "function"), none, (fn m_37_2 (.ofString "Shape.sign_place") 3 .none .none .none (.str (.ofString "ledgerspeak.shapes") 624) none (.ref 349) .none), #[]⟩) ::
   (nat_lit 351, ⟨(.type "tuple"), none, (.seq #[(.str (.ofString "category") 672), (.str (.ofString "digits") 673), (.str (.ofString "is_blank_zero") 674), (.str (.ofString "is_justified") 675), (.str (.ofString "is_separate") 676), (.str (.ofString "is_signed") 677), (.str (.ofString "picture") 678), (.str (.ofString "scale") 679), (.str (.ofString "sign") 680), (.str (.ofString "size") 681), (.str (.ofString "usage") 682)] 0), #[]⟩) ::
   (nat_lit 352, ⟨(.type "dict"), none, (.dict #[⟨PyData.keyHash P (.ofString "__module__"), (.str (.ofString "__module__") 633), (.str (.ofString "ledgerspeak.shapes") 624)⟩, ⟨PyData.keyHash P (.ofString "__firstlineno__"), (.str (.ofString "__firstlineno__") 637), (.int 205 636)⟩, ⟨PyData.keyHash P (.ofString "__init__"), (.str (.ofString "__init__") 654), (.ref 336)⟩, ⟨PyData.keyHash P (.ofString "told"), (.str (.ofString "told") 664), (.ref 343)⟩, ⟨PyData.keyHash P (.ofString "sign_place"), (.str (.ofString "sign_place") 671), (.ref 350)⟩, ⟨PyData.keyHash P (.ofString "__static_attributes__"), (.str (.ofString "__static_attributes__") 683), (.ref 351)⟩, ⟨PyData.keyHash P (.ofString "__dict__"), (.str (.ofString "__dict__") 685), (.ref 354)⟩, ⟨PyData.keyHash P (.ofString "__weakref__"), (.str (.ofString "__weakref__") 687), (.ref 355)⟩, ⟨PyData.keyHash P (.ofString "__doc__"), (.str (.ofString "__doc__") 688), .none⟩] 4), #[]⟩) ::
   (nat_lit 353, ⟨(.type "type"), none, (.cls ⟨(.ofString "Shape"), [(.type "object")], [(.ref 353), (.type "object")], 352, (.ofString "Shape"), true, [], [], false, none, false⟩), #[none, none, (some (.str (.ofString "Shape") 626)), (some (.str (.ofString "Shape") 634)), (some (.builtin "object.__new__")), (some (.bool true))]⟩) ::
   (nat_lit 354, ⟨(.type "getset_descriptor"), none, (.fields #[(.str (.ofString "__dict__") 684), (.ref 353), (.builtin "function.__dict__"), (.builtin "function.__dict__#set")]), #[]⟩) ::
   (nat_lit 355, ⟨(.type "getset_descriptor"), none, (.fields #[(.str (.ofString "__weakref__") 686), (.ref 353), (.builtin "ExceptionGroup.__weakref__"), .none]), #[]⟩) ::
   (nat_lit 358, ⟨(.type "tuple"), none, (.seq #[(.str (.ofString "NU") 693), (.str (.ofString "IX") 694), (.str (.ofString "T-I") 695), (.str (.ofString "U-I") 696)] 0), #[]⟩) ::
   (nat_lit 359, ⟨(.type "tuple"), none, (.seq #[] 0), #[]⟩) ::
   (nat_lit 361, ⟨(.type "tuple"), none, (.seq #[] 0), #[]⟩) ::
   (nat_lit 362, ⟨(.type "tuple"), none, (.seq #[] 0), #[]⟩) ::
   (nat_lit 364, ⟨(.type "code"), none, (.fields #[(.str (.ofString "_law_SORTS") 698), (.str (.ofString "_law_SORTS") 699), (.str (.ofString "/claim/cut.py") 700), (.int 234 0), (.int 0 0), (.int 0 0), (.int 0 0), (.int 3 0), (.ref 359), (.bool true), (.int 181 0), (.ref 360), .none, (.ref 361), (.ref 362), (.ref 363), (.int 701 0), (.int 234 0), (.str (.ofString "/claim/cut.py") 702)]), #[]⟩) ::
   (nat_lit 365, ⟨(.type "function"), none, (fn s_40 (.ofString "_law_SORTS") 3 .none .none .none (.str (.ofString "law_og0093_01") 691) none (.ref 364) .none), #[]⟩) ::
   (nat_lit 366, ⟨(.type "tuple"), none, (.seq #[] 0), #[]⟩) ::
   (nat_lit 368, ⟨(.type "tuple"), none, (.seq #[(.str (.ofString "source") 707), (.str (.ofString "limit") 708), (.str (.ofString "cells") 709), (.str (.ofString "at") 710)] 0), #[]⟩) ::
   (nat_lit 369, ⟨(.type "tuple"), none, (.seq #[] 0), #[]⟩) ::
   (nat_lit 371, ⟨(.type "code"), none, (.fields #[(.str (.ofString "_law_draw") 704), (.str (.ofString "_law_draw") 705), (.str (.ofString "/claim/cut.py") 706), (.int 236 0), (.int 2 0), (.int 0 0), (.int 0 0), (.int 3 0), (.ref 366), (.bool true), (.int 181 0), (.ref 367), .none, (.ref 368), (.ref 369), (.ref 370), (.int 711 0), (.int 236 0), (.str (.ofString "/claim/cut.py") 712)]), #[]⟩) ::
   (nat_lit 372, ⟨(.type "function"), none, (fn s_41 (.ofString "_law_draw") 3 .none .none .none (.str (.ofString "law_og0093_01") 691) none (.ref 371) .none), #[]⟩) ::
   (nat_lit 373, ⟨(.type "tuple"), none, (.seq #[(.int 1 714)] 0), #[]⟩) ::
   (nat_lit 374, ⟨(.type "tuple"), none, (.seq #[] 0), #[]⟩) ::
   (nat_lit 376, ⟨(.type "tuple"), none, (.seq #[(.str (.ofString "above") 718), (.str (.ofString "name") 719), (.str (.ofString "category") 720), (.str (.ofString "often") 721), (.str (.ofString "item") 722)] 0), #[]⟩) ::
   (nat_lit 377, ⟨(.type "tuple"), none, (.seq #[] 0), #[]⟩) ::
   (nat_lit 379, ⟨(.type "code"), none, (.fields #[(.str (.ofString "_law_leaf") 715), (.str (.ofString "_law_leaf") 716), (.str (.ofString "/claim/cut.py") 717), (.int 241 0), (.int 4 0), (.int 0 0), (.int 0 0), (.int 3 0), (.ref 374), (.bool true), (.int 181 0), (.ref 375), .none, (.ref 376), (.ref 377), (.ref 378), (.int 723 0), (.int 241 0), (.str (.ofString "/claim/cut.py") 724)]), #[]⟩) ::
   (nat_lit 380, ⟨(.type "function"), none, (fn s_42 (.ofString "_law_leaf") 3 (.ref 373) .none .none (.str (.ofString "law_og0093_01") 691) none (.ref 379) .none), #[]⟩) ::
   (nat_lit 381, ⟨(.type "tuple"), none, (.seq #[] 0), #[]⟩) ::
   (nat_lit 383, ⟨(.type "tuple"), none, (.seq #[(.str (.ofString "data") 729), (.str (.ofString "root") 730), (.str (.ofString "name") 731), (.str (.ofString "category") 732), (.str (.ofString "table") 733), (.str (.ofString "inner") 734), (.str (.ofString "turn") 735), (.str (.ofString "other") 736)] 0), #[]⟩) ::
   (nat_lit 384, ⟨(.type "tuple"), none, (.seq #[] 0), #[]⟩) ::
   (nat_lit 386, ⟨(.type "code"), none, (.fields #[(.str (.ofString "_law_data") 726), (.str (.ofString "_law_data") 727), (.str (.ofString "/claim/cut.py") 728), (.int 248 0), (.int 0 0), (.int 0 0), (.int 0 0), (.int 3 0), (.ref 381), (.bool true), (.int 181 0), (.ref 382), .none, (.ref 383), (.ref 384), (.ref 385), (.int 737 0), (.int 248 0), (.str (.ofString "/claim/cut.py") 738)]), #[]⟩) ::
   (nat_lit 387, ⟨(.type "function"), none, (fn s_43 (.ofString "_law_data") 3 .none .none .none (.str (.ofString "law_og0093_01") 691) none (.ref 386) .none), #[]⟩) ::
   (nat_lit 388, ⟨(.type "tuple"), none, (.seq #[] 0), #[]⟩) ::
   (nat_lit 389, ⟨(.type "tuple"), none, (.seq #[] 0), #[]⟩) ::
   (nat_lit 390, ⟨(.type "tuple"), none, (.seq #[(.ref 388), .none, (.ref 389)] 0), #[]⟩) ::
   (nat_lit 391, ⟨(.type "tuple"), none, (.seq #[] 0), #[]⟩) ::
   (nat_lit 393, ⟨(.type "tuple"), none, (.seq #[(.str (.ofString "name") 743), (.str (.ofString "subscripts") 744), (.str (.ofString "part") 745), (.str (.ofString "qualifiers") 746)] 0), #[]⟩) ::
   (nat_lit 394, ⟨(.type "tuple"), none, (.seq #[] 0), #[]⟩) ::
   (nat_lit 396, ⟨(.type "code"), none, (.fields #[(.str (.ofString "_law_ref") 740), (.str (.ofString "_law_ref") 741), (.str (.ofString "/claim/cut.py") 742), (.int 266 0), (.int 4 0), (.int 0 0), (.int 0 0), (.int 3 0), (.ref 391), (.bool true), (.int 181 0), (.ref 392), .none, (.ref 393), (.ref 394), (.ref 395), (.int 747 0), (.int 266 0), (.str (.ofString "/claim/cut.py") 748)]), #[]⟩) ::
   (nat_lit 397, ⟨(.type "function"), none, (fn s_44 (.ofString "_law_ref") 3 (.ref 390) .none .none (.str (.ofString "law_og0093_01") 691) none (.ref 396) .none), #[]⟩) ::
   (nat_lit 398, ⟨(.type "tuple"), none, (.seq #[] 0), #[]⟩) ::
   (nat_lit 400, ⟨(.type "tuple"), none, (.seq #[(.str (.ofString "source") 753), (.str (.ofString "way") 754), (.str (.ofString "name") 755), (.str (.ofString "inner") 756), (.str (.ofString "faults") 757)] 0), #[]⟩) ::
   (nat_lit 401, ⟨(.type "tuple"), none, (.seq #[] 0), #[]⟩) ::
   (nat_lit 403, ⟨(.type "code"), none, (.fields #[(.str (.ofString "_law_leafs") 750), (.str (.ofString "_law_leafs") 751), (.str (.ofString "/claim/cut.py") 752), (.int 268 0), (.int 1 0), (.int 0 0), (.int 0 0), (.int 3 0), (.ref 398), (.bool true), (.int 181 0), (.ref 399), .none, (.ref 400), (.ref 401), (.ref 402), (.int 758 0), (.int 268 0), (.str (.ofString "/claim/cut.py") 759)]), #[]⟩) ::
   (nat_lit 404, ⟨(.type "function"), none, (fn s_45 (.ofString "_law_leafs") 3 .none .none .none (.str (.ofString "law_og0093_01") 691) none (.ref 403) .none), #[]⟩) ::
   (nat_lit 405, ⟨(.type "tuple"), none, (.seq #[] 0), #[]⟩) ::
   (nat_lit 407, ⟨(.type "tuple"), none, (.seq #[(.str (.ofString "source") 764), (.str (.ofString "depth") 765), (.str (.ofString "way") 766), (.str (.ofString "one") 767), (.str (.ofString "faults") 768), (.str (.ofString "other") 769), (.str (.ofString "more") 770)] 0), #[]⟩) ::
   (nat_lit 408, ⟨(.type "tuple"), none, (.seq #[] 0), #[]⟩) ::
   (nat_lit 410, ⟨(.type "code"), none, (.fields #[(.str (.ofString "_law_tree") 761), (.str (.ofString "_law_tree") 762), (.str (.ofString "/claim/cut.py") 763), (.int 286 0), (.int 2 0), (.int 0 0), (.int 0 0), (.int 3 0), (.ref 405), (.bool true), (.int 181 0), (.ref 406), .none, (.ref 407), (.ref 408), (.ref 409), (.int 771 0), (.int 286 0), (.str (.ofString "/claim/cut.py") 772)]), #[]⟩) ::
   (nat_lit 411, ⟨(.type "function"), none, (fn s_46 (.ofString "_law_tree") 3 .none .none .none (.str (.ofString "law_og0093_01") 691) none (.ref 410) .none), #[]⟩) ::
   (nat_lit 412, ⟨(.type "tuple"), none, (.seq #[] 0), #[]⟩) ::
   (nat_lit 415, ⟨(.type "code"), none, (.fields #[(.str (.ofString "law") 774), (.str (.ofString "law") 775), (.str (.ofString "/claim/cut.py") 776), (.int 295 0), (.int 1 0), (.int 0 0), (.int 0 0), (.int 3 0), (.ref 412), (.bool true), (.int 181 0), (.ref 413), .none, .none, .none, (.ref 414), (.int 777 0), (.int 295 0), (.str (.ofString "/claim/cut.py") 778)]), #[]⟩) ::
   (nat_lit 416, ⟨(.type "function"), none, (fn s_47 (.ofString "law") 3 .none .none .none (.str (.ofString "law_og0093_01") 691) none (.ref 415) .none), #[]⟩) :: []
noncomputable def view_39 : Program := { PySem.Challenge.rw_og0093_01.row.prog with main := { PySem.Challenge.rw_og0093_01.row.prog.main with body := [s_0, s_2, s_3, s_5, s_6, s_7, s_8, s_9, s_10, s_11, s_12, s_13, s_14, s_15, s_17, s_18, s_19, s_20, s_22, s_23, s_24, s_25, s_26, s_28, s_29, s_30, s_31, s_32, s_33, s_34, s_35, s_37, s_39, s_40, s_41, s_43, s_45, s_46, s_47] } }
def loose_39 : List Str := [Str.ofString "LedgerError", Str.ofString "Occurs", Str.ofString "ref_faults", Str.ofString "_law_leaf", Str.ofString "_law_ref"]
noncomputable def hook_39 : Hook := kHook heap_39 as_39 (fun _ => by kernel_rfl)
noncomputable def o0 : Params → Obj := fun P => ⟨(.type "code"), none, (.fields #[(.str (.ofString "<module>") 182), (.str (.ofString "<module>") 183), (.str (.ofString "/claim/cut.py") 184), (.int 1 0), (.int 0 0), (.int 0 0), (.int 0 0), (.int 0 0), (.ref 11), (.bool false), (.int 181 0), (.ref 12), .none, .none, .none, .none, (.int 185 0), (.int 1 0), (.str (.ofString "/claim/cut.py") 186)]), #[]⟩
noncomputable def o1 : Params → Obj := fun P => ⟨(.type "frame"), none, .plain, #[(some (.ref 13)), (some (.ref 3)), (some (.ref 3)), none, (some (.str (.ofString "__main__") 164)), none, (some (.ref 0))]⟩
noncomputable def o2 : Params → Obj := fun P => ⟨.none, none, (.dict #[⟨PyData.keyHash P (.ofString "type.__subclasses__.Exception.0"), (.str (.ofString "type.__subclasses__.Exception.0") 232), (.int 47 0)⟩, ⟨PyData.keyHash P (.ofString "type.__subclasses__.Exception.n"), (.str (.ofString "type.__subclasses__.Exception.n") 233), (.int 1 0)⟩] 2), #[]⟩
noncomputable def o3 : Params → Obj := fun P => ⟨(.type "dict"), none, (.dict #[⟨PyData.keyHash P (.ofString "__name__"), (.str (.ofString "__name__") 165), (.str (.ofString "ledgerspeak.errors") 194)⟩, ⟨PyData.keyHash P (.ofString "__doc__"), (.str (.ofString "__doc__") 166), .none⟩, ⟨PyData.keyHash P (.ofString "__package__"), (.str (.ofString "__package__") 167), .none⟩, ⟨PyData.keyHash P (.ofString "__loader__"), (.str (.ofString "__loader__") 168), (.builtin "__main__.__loader__#opaque")⟩, ⟨PyData.keyHash P (.ofString "__spec__"), (.str (.ofString "__spec__") 169), .none⟩, ⟨PyData.keyHash P (.ofString "__annotations__"), (.str (.ofString "__annotations__") 170), (.ref 6)⟩, ⟨PyData.keyHash P (.ofString "__builtins__"), (.str (.ofString "__builtins__") 171), (.ref 4)⟩, ⟨PyData.keyHash P (.ofString "__file__"), (.str (.ofString "__file__") 173), (.str (.ofString "/claim/cut.py") 172)⟩, ⟨PyData.keyHash P (.ofString "__cached__"), (.str (.ofString "__cached__") 174), .none⟩, ⟨PyData.keyHash P (.ofString "_wall"), (.str (.ofString "_wall") 193), (.ref 21)⟩, ⟨PyData.keyHash P (.ofString "LedgerError"), (.str (.ofString "LedgerError") 235), (.ref 47)⟩, ⟨PyData.keyHash P (.ofString "CheckFault"), (.str (.ofString "CheckFault") 251), (.ref 60)⟩] 12), #[]⟩
noncomputable def o4 : Params → Obj := fun P => ⟨.none, none, (.fields #[(.int 1 0), (.int 0 0), (.ref 20), (.int 5 0), (.int 0 0), (.ref 27), (.int 14 0), (.int 0 0), (.ref 56)]), #[]⟩
noncomputable def o5 : Params → Obj := fun P => ⟨(.type "tuple"), none, (.seq #[(.str (.ofString "k") 190)] 0), #[]⟩
noncomputable def o6 : Params → Obj := fun P => ⟨.none, none, (fn s_0 (.ofString "_wall") 0 .none .none .none .none none .none .none), #[]⟩
noncomputable def o7 : Params → Obj := fun P => ⟨(.type "code"), none, (.fields #[(.str (.ofString "_wall") 187), (.str (.ofString "_wall") 188), (.str (.ofString "/claim/cut.py") 189), (.int 1 0), (.int 1 0), (.int 0 0), (.int 0 0), (.int 3 0), (.ref 15), (.bool true), (.int 181 0), (.ref 16), .none, (.ref 17), (.ref 18), (.ref 19), (.int 191 0), (.int 1 0), (.str (.ofString "/claim/cut.py") 192)]), #[]⟩
noncomputable def o8 : Params → Obj := fun P => ⟨(.type "function"), none, (fn s_0 (.ofString "_wall") 3 .none .none .none (.str (.ofString "__main__") 164) none (.ref 20) .none), #[]⟩
noncomputable def o9 : Params → Obj := fun P => ⟨(.type "tuple"), none, (.seq #[(.type "Exception")] 0), #[]⟩
noncomputable def o10 : Params → Obj := fun P => ⟨(.type "builtin_function_or_method"), none, (.fields #[(.builtin "type.__prepare__"), (.type "type")]), #[]⟩
noncomputable def o11 : Params → Obj := fun P => ⟨(.type "dict"), none, (.dict #[⟨PyData.keyHash P (.ofString "__module__"), (.str (.ofString "__module__") 203), (.str (.ofString "ledgerspeak.errors") 194)⟩, ⟨PyData.keyHash P (.ofString "__qualname__"), (.str (.ofString "__qualname__") 205), (.str (.ofString "LedgerError") 204)⟩, ⟨PyData.keyHash P (.ofString "__firstlineno__"), (.str (.ofString "__firstlineno__") 207), (.int 5 206)⟩, ⟨PyData.keyHash P (.ofString "__init__"), (.str (.ofString "__init__") 218), (.ref 37)⟩, ⟨PyData.keyHash P (.ofString "told"), (.str (.ofString "told") 225), (.ref 44)⟩, ⟨PyData.keyHash P (.ofString "__static_attributes__"), (.str (.ofString "__static_attributes__") 228), (.ref 45)⟩] 6), #[]⟩
noncomputable def o12 : Params → Obj := fun P => ⟨.none, none, (.fields #[(.int 7 0), (.int 4 0), (.ref 36), (.int 12 0), (.int 4 0), (.ref 43)]), #[]⟩
noncomputable def o13 : Params → Obj := fun P => ⟨(.type "code"), none, (.fields #[(.str (.ofString "LedgerError") 198), (.str (.ofString "LedgerError") 199), (.str (.ofString "/claim/cut.py") 200), (.int 5 0), (.int 0 0), (.int 0 0), (.int 0 0), (.int 0 0), (.ref 25), (.bool false), (.int 181 0), (.ref 26), .none, .none, .none, .none, (.int 201 0), (.int 5 0), (.str (.ofString "/claim/cut.py") 202)]), #[]⟩
noncomputable def o14 : Params → Obj := fun P => ⟨(.type "frame"), none, .plain, #[(some (.ref 27)), (some (.ref 3)), (some (.ref 24)), none, (some (.str (.ofString "ledgerspeak.errors") 194)), none, (some (.ref 0))]⟩
noncomputable def o15 : Params → Obj := fun P => ⟨(.type "tuple"), none, (.seq #[(.int 0 208), (.int 0 209)] 0), #[]⟩
noncomputable def o16 : Params → Obj := fun P => ⟨(.type "tuple"), none, (.seq #[(.ref 29)] 0), #[]⟩
noncomputable def o17 : Params → Obj := fun P => ⟨(.type "tuple"), none, (.seq #[(.str (.ofString "self") 213), (.str (.ofString "what") 214), (.str (.ofString "at") 215)] 0), #[]⟩
noncomputable def o18 : Params → Obj := fun P => ⟨.none, none, (fn m_2_0 (.ofString "LedgerError.__init__") 0 .none .none .none .none none .none .none), #[]⟩
noncomputable def o19 : Params → Obj := fun P => ⟨(.type "code"), none, (.fields #[(.str (.ofString "__init__") 210), (.str (.ofString "LedgerError.__init__") 211), (.str (.ofString "/claim/cut.py") 212), (.int 7 0), (.int 3 0), (.int 0 0), (.int 0 0), (.int 3 0), (.ref 31), (.bool true), (.int 181 0), (.ref 32), .none, (.ref 33), (.ref 34), (.ref 35), (.int 216 0), (.int 7 0), (.str (.ofString "/claim/cut.py") 217)]), #[]⟩
noncomputable def o20 : Params → Obj := fun P => ⟨(.type "function"), none, (fn m_2_0 (.ofString "LedgerError.__init__") 3 (.ref 30) .none .none (.str (.ofString "ledgerspeak.errors") 194) none (.ref 36) .none), #[]⟩
noncomputable def o21 : Params → Obj := fun P => ⟨(.type "tuple"), none, (.seq #[(.str (.ofString "self") 222)] 0), #[]⟩
noncomputable def o22 : Params → Obj := fun P => ⟨.none, none, (fn m_2_1 (.ofString "LedgerError.told") 0 .none .none .none .none none .none .none), #[]⟩
noncomputable def o23 : Params → Obj := fun P => ⟨(.type "code"), none, (.fields #[(.str (.ofString "told") 219), (.str (.ofString "LedgerError.told") 220), (.str (.ofString "/claim/cut.py") 221), (.int 12 0), (.int 1 0), (.int 0 0), (.int 0 0), (.int 3 0), (.ref 38), (.bool true), (.int 181 0), (.ref 39), .none, (.ref 40), (.ref 41), (.ref 42), (.int 223 0), (.int 12 0), (.str (.ofString "/claim/cut.py") 224)]), #[]⟩
noncomputable def o24 : Params → Obj := fun P => ⟨(.type "function"), none, (fn m_2_1 (.ofString "LedgerError.told") 3 .none .none .none (.str (.ofString "ledgerspeak.errors") 194) none (.ref 43) .none), #[]⟩
noncomputable def o25 : Params → Obj := fun P => ⟨(.type "tuple"), none, (.seq #[(.str (.ofString "at") 226), (.str (.ofString "what") 227)] 0), #[]⟩
noncomputable def o26 : Params → Obj := fun P => ⟨(.type "dict"), none, (.dict #[⟨PyData.keyHash P (.ofString "__module__"), (.str (.ofString "__module__") 203), (.str (.ofString "ledgerspeak.errors") 194)⟩, ⟨PyData.keyHash P (.ofString "__firstlineno__"), (.str (.ofString "__firstlineno__") 207), (.int 5 206)⟩, ⟨PyData.keyHash P (.ofString "__init__"), (.str (.ofString "__init__") 218), (.ref 37)⟩, ⟨PyData.keyHash P (.ofString "told"), (.str (.ofString "told") 225), (.ref 44)⟩, ⟨PyData.keyHash P (.ofString "__static_attributes__"), (.str (.ofString "__static_attributes__") 228), (.ref 45)⟩, ⟨PyData.keyHash P (.ofString "__weakref__"), (.str (.ofString "__weakref__") 230), (.ref 48)⟩, ⟨PyData.keyHash P (.ofString "__doc__"), (.str (.ofString "__doc__") 231), .none⟩] 3), #[]⟩
noncomputable def o27 : Params → Obj := fun P => ⟨(.type "type"), none, (.cls ⟨(.ofString "LedgerError"), [(.type "Exception")], [(.ref 47), (.type "Exception"), (.type "BaseException"), (.type "object")], 46, (.ofString "LedgerError"), true, [], [(.ref 60)], false, none, false⟩), #[(some (.ref 22)), none, (some (.str (.ofString "LedgerError") 196)), (some (.str (.ofString "LedgerError") 204)), (some (.builtin "Exception.__new__")), (some (.bool true))]⟩
noncomputable def o28 : Params → Obj := fun P => ⟨(.type "getset_descriptor"), none, (.fields #[(.str (.ofString "__weakref__") 229), (.ref 47), (.builtin "ExceptionGroup.__weakref__"), .none]), #[]⟩
noncomputable def o29 : Params → Obj := fun P => ⟨(.type "super"), none, (.fields #[(.ref 47), (.ref 47), (.ref 47)]), #[]⟩
noncomputable def o30 : Params → Obj := fun P => ⟨(.type "builtin_function_or_method"), none, (.fields #[(.builtin "object.__init_subclass__"), (.ref 47)]), #[]⟩
noncomputable def o31 : Params → Obj := fun P => ⟨(.type "tuple"), none, (.seq #[(.ref 47)] 0), #[]⟩
noncomputable def o32 : Params → Obj := fun P => ⟨(.type "dict"), none, (.dict #[⟨PyData.keyHash P (.ofString "__module__"), (.str (.ofString "__module__") 243), (.str (.ofString "ledgerspeak.errors") 194)⟩, ⟨PyData.keyHash P (.ofString "__qualname__"), (.str (.ofString "__qualname__") 245), (.str (.ofString "CheckFault") 244)⟩, ⟨PyData.keyHash P (.ofString "__firstlineno__"), (.str (.ofString "__firstlineno__") 247), (.int 14 246)⟩, ⟨PyData.keyHash P (.ofString "__static_attributes__"), (.str (.ofString "__static_attributes__") 248), (.ref 58)⟩] 4), #[]⟩
noncomputable def o33 : Params → Obj := fun P => ⟨(.type "code"), none, (.fields #[(.str (.ofString "CheckFault") 238), (.str (.ofString "CheckFault") 239), (.str (.ofString "/claim/cut.py") 240), (.int 14 0), (.int 0 0), (.int 0 0), (.int 0 0), (.int 0 0), (.ref 54), (.bool false), (.int 181 0), (.ref 55), .none, .none, .none, .none, (.int 241 0), (.int 14 0), (.str (.ofString "/claim/cut.py") 242)]), #[]⟩
noncomputable def o34 : Params → Obj := fun P => ⟨(.type "frame"), none, .plain, #[(some (.ref 56)), (some (.ref 3)), (some (.ref 53)), none, (some (.str (.ofString "ledgerspeak.errors") 194)), none, (some (.ref 0))]⟩
noncomputable def o35 : Params → Obj := fun P => ⟨(.type "dict"), none, (.dict #[⟨PyData.keyHash P (.ofString "__module__"), (.str (.ofString "__module__") 243), (.str (.ofString "ledgerspeak.errors") 194)⟩, ⟨PyData.keyHash P (.ofString "__firstlineno__"), (.str (.ofString "__firstlineno__") 247), (.int 14 246)⟩, ⟨PyData.keyHash P (.ofString "__static_attributes__"), (.str (.ofString "__static_attributes__") 248), (.ref 58)⟩, ⟨PyData.keyHash P (.ofString "__doc__"), (.str (.ofString "__doc__") 249), .none⟩] 2), #[]⟩
noncomputable def o36 : Params → Obj := fun P => ⟨(.type "type"), none, (.cls ⟨(.ofString "CheckFault"), [(.ref 47)], [(.ref 60), (.ref 47), (.type "Exception"), (.type "BaseException"), (.type "object")], 59, (.ofString "CheckFault"), true, [], [], false, none, false⟩), #[(some (.ref 51)), none, (some (.str (.ofString "CheckFault") 236)), (some (.str (.ofString "CheckFault") 244)), (some (.builtin "Exception.__new__")), (some (.bool true))]⟩
noncomputable def o37 : Params → Obj := fun P => ⟨(.type "super"), none, (.fields #[(.ref 60), (.ref 60), (.ref 60)]), #[]⟩
noncomputable def o38 : Params → Obj := fun P => ⟨(.type "builtin_function_or_method"), none, (.fields #[(.builtin "object.__init_subclass__"), (.ref 60)]), #[]⟩
noncomputable def o39 : Params → Obj := fun P => ⟨(.type "dict"), none, (.dict #[⟨PyData.keyHash P (.ofString "__name__"), (.str (.ofString "__name__") 165), (.str (.ofString "ledgerspeak.items") 252)⟩, ⟨PyData.keyHash P (.ofString "__doc__"), (.str (.ofString "__doc__") 166), .none⟩, ⟨PyData.keyHash P (.ofString "__package__"), (.str (.ofString "__package__") 167), .none⟩, ⟨PyData.keyHash P (.ofString "__loader__"), (.str (.ofString "__loader__") 168), (.builtin "__main__.__loader__#opaque")⟩, ⟨PyData.keyHash P (.ofString "__spec__"), (.str (.ofString "__spec__") 169), .none⟩, ⟨PyData.keyHash P (.ofString "__annotations__"), (.str (.ofString "__annotations__") 170), (.ref 6)⟩, ⟨PyData.keyHash P (.ofString "__builtins__"), (.str (.ofString "__builtins__") 171), (.ref 4)⟩, ⟨PyData.keyHash P (.ofString "__file__"), (.str (.ofString "__file__") 173), (.str (.ofString "/claim/cut.py") 172)⟩, ⟨PyData.keyHash P (.ofString "__cached__"), (.str (.ofString "__cached__") 174), .none⟩, ⟨PyData.keyHash P (.ofString "_wall"), (.str (.ofString "_wall") 193), (.ref 21)⟩, ⟨PyData.keyHash P (.ofString "LedgerError"), (.str (.ofString "LedgerError") 235), (.ref 47)⟩, ⟨PyData.keyHash P (.ofString "CheckFault"), (.str (.ofString "CheckFault") 251), (.ref 60)⟩, ⟨PyData.keyHash P (.ofString "FILLER"), (.str (.ofString "FILLER") 255), (.str (.ofString "FILLER") 254)⟩, ⟨PyData.keyHash P (.ofString "Occurs"), (.str (.ofString "Occurs") 299), (.ref 89)⟩, ⟨PyData.keyHash P (.ofString "Item"), (.str (.ofString "Item") 377), (.ref 136)⟩] 15), #[]⟩
noncomputable def o40 : Params → Obj := fun P => ⟨.none, none, (.fields #[(.int 1 0), (.int 0 0), (.ref 20), (.int 5 0), (.int 0 0), (.ref 27), (.int 14 0), (.int 0 0), (.ref 56), (.int 18 0), (.int 0 0), (.ref 68), (.int 29 0), (.int 0 0), (.ref 99)]), #[]⟩
noncomputable def o41 : Params → Obj := fun P => ⟨(.type "dict"), none, (.dict #[⟨PyData.keyHash P (.ofString "__module__"), (.str (.ofString "__module__") 263), (.str (.ofString "ledgerspeak.items") 252)⟩, ⟨PyData.keyHash P (.ofString "__qualname__"), (.str (.ofString "__qualname__") 265), (.str (.ofString "Occurs") 264)⟩, ⟨PyData.keyHash P (.ofString "__firstlineno__"), (.str (.ofString "__firstlineno__") 267), (.int 18 266)⟩, ⟨PyData.keyHash P (.ofString "__init__"), (.str (.ofString "__init__") 279), (.ref 79)⟩, ⟨PyData.keyHash P (.ofString "told"), (.str (.ofString "told") 286), (.ref 86)⟩, ⟨PyData.keyHash P (.ofString "__static_attributes__"), (.str (.ofString "__static_attributes__") 292), (.ref 87)⟩] 6), #[]⟩
noncomputable def o42 : Params → Obj := fun P => ⟨.none, none, (.fields #[(.int 20 0), (.int 4 0), (.ref 78), (.int 27 0), (.int 4 0), (.ref 85)]), #[]⟩
noncomputable def o43 : Params → Obj := fun P => ⟨(.type "code"), none, (.fields #[(.str (.ofString "Occurs") 258), (.str (.ofString "Occurs") 259), (.str (.ofString "/claim/cut.py") 260), (.int 18 0), (.int 0 0), (.int 0 0), (.int 0 0), (.int 0 0), (.ref 66), (.bool false), (.int 181 0), (.ref 67), .none, .none, .none, .none, (.int 261 0), (.int 18 0), (.str (.ofString "/claim/cut.py") 262)]), #[]⟩
noncomputable def o44 : Params → Obj := fun P => ⟨(.type "frame"), none, .plain, #[(some (.ref 68)), (some (.ref 3)), (some (.ref 65)), none, (some (.str (.ofString "ledgerspeak.items") 252)), none, (some (.ref 0))]⟩
noncomputable def o45 : Params → Obj := fun P => ⟨(.type "tuple"), none, (.seq #[.none, (.ref 70), (.ref 71)] 0), #[]⟩
noncomputable def o46 : Params → Obj := fun P => ⟨(.type "tuple"), none, (.seq #[(.str (.ofString "self") 271), (.str (.ofString "low") 272), (.str (.ofString "high") 273), (.str (.ofString "depending") 274), (.str (.ofString "keys") 275), (.str (.ofString "indexes") 276)] 0), #[]⟩
noncomputable def o47 : Params → Obj := fun P => ⟨.none, none, (fn m_6_0 (.ofString "Occurs.__init__") 0 .none .none .none .none none .none .none), #[]⟩
noncomputable def o48 : Params → Obj := fun P => ⟨(.type "code"), none, (.fields #[(.str (.ofString "__init__") 268), (.str (.ofString "Occurs.__init__") 269), (.str (.ofString "/claim/cut.py") 270), (.int 20 0), (.int 6 0), (.int 0 0), (.int 0 0), (.int 3 0), (.ref 73), (.bool true), (.int 181 0), (.ref 74), .none, (.ref 75), (.ref 76), (.ref 77), (.int 277 0), (.int 20 0), (.str (.ofString "/claim/cut.py") 278)]), #[]⟩
noncomputable def o49 : Params → Obj := fun P => ⟨(.type "function"), none, (fn m_6_0 (.ofString "Occurs.__init__") 3 (.ref 72) .none .none (.str (.ofString "ledgerspeak.items") 252) none (.ref 78) .none), #[]⟩
noncomputable def o50 : Params → Obj := fun P => ⟨(.type "tuple"), none, (.seq #[(.str (.ofString "self") 283)] 0), #[]⟩
noncomputable def o51 : Params → Obj := fun P => ⟨.none, none, (fn m_6_1 (.ofString "Occurs.told") 0 .none .none .none .none none .none .none), #[]⟩
noncomputable def o52 : Params → Obj := fun P => ⟨(.type "code"), none, (.fields #[(.str (.ofString "told") 280), (.str (.ofString "Occurs.told") 281), (.str (.ofString "/claim/cut.py") 282), (.int 27 0), (.int 1 0), (.int 0 0), (.int 0 0), (.int 3 0), (.ref 80), (.bool true), (.int 181 0), (.ref 81), .none, (.ref 82), (.ref 83), (.ref 84), (.int 284 0), (.int 27 0), (.str (.ofString "/claim/cut.py") 285)]), #[]⟩
noncomputable def o53 : Params → Obj := fun P => ⟨(.type "function"), none, (fn m_6_1 (.ofString "Occurs.told") 3 .none .none .none (.str (.ofString "ledgerspeak.items") 252) none (.ref 85) .none), #[]⟩
noncomputable def o54 : Params → Obj := fun P => ⟨(.type "tuple"), none, (.seq #[(.str (.ofString "depending") 287), (.str (.ofString "high") 288), (.str (.ofString "indexes") 289), (.str (.ofString "keys") 290), (.str (.ofString "low") 291)] 0), #[]⟩
noncomputable def o55 : Params → Obj := fun P => ⟨(.type "dict"), none, (.dict #[⟨PyData.keyHash P (.ofString "__module__"), (.str (.ofString "__module__") 263), (.str (.ofString "ledgerspeak.items") 252)⟩, ⟨PyData.keyHash P (.ofString "__firstlineno__"), (.str (.ofString "__firstlineno__") 267), (.int 18 266)⟩, ⟨PyData.keyHash P (.ofString "__init__"), (.str (.ofString "__init__") 279), (.ref 79)⟩, ⟨PyData.keyHash P (.ofString "told"), (.str (.ofString "told") 286), (.ref 86)⟩, ⟨PyData.keyHash P (.ofString "__static_attributes__"), (.str (.ofString "__static_attributes__") 292), (.ref 87)⟩, ⟨PyData.keyHash P (.ofString "__dict__"), (.str (.ofString "__dict__") 294), (.ref 90)⟩, ⟨PyData.keyHash P (.ofString "__weakref__"), (.str (.ofString "__weakref__") 296), (.ref 91)⟩, ⟨PyData.keyHash P (.ofString "__doc__"), (.str (.ofString "__doc__") 297), .none⟩] 4), #[]⟩
noncomputable def o56 : Params → Obj := fun P => ⟨(.type "type"), none, (.cls ⟨(.ofString "Occurs"), [(.type "object")], [(.ref 89), (.type "object")], 88, (.ofString "Occurs"), true, [], [], false, none, false⟩), #[none, none, (some (.str (.ofString "Occurs") 256)), (some (.str (.ofString "Occurs") 264)), (some (.builtin "object.__new__")), (some (.bool true))]⟩
noncomputable def o57 : Params → Obj := fun P => ⟨(.type "getset_descriptor"), none, (.fields #[(.str (.ofString "__dict__") 293), (.ref 89), (.builtin "function.__dict__"), (.builtin "function.__dict__#set")]), #[]⟩
noncomputable def o58 : Params → Obj := fun P => ⟨(.type "getset_descriptor"), none, (.fields #[(.str (.ofString "__weakref__") 295), (.ref 89), (.builtin "ExceptionGroup.__weakref__"), .none]), #[]⟩
noncomputable def o59 : Params → Obj := fun P => ⟨(.type "super"), none, (.fields #[(.ref 89), (.ref 89), (.ref 89)]), #[]⟩
noncomputable def o60 : Params → Obj := fun P => ⟨(.type "builtin_function_or_method"), none, (.fields #[(.builtin "object.__init_subclass__"), (.ref 89)]), #[]⟩
noncomputable def o61 : Params → Obj := fun P => ⟨(.type "dict"), none, (.dict #[⟨PyData.keyHash P (.ofString "__module__"), (.str (.ofString "__module__") 307), (.str (.ofString "ledgerspeak.items") 252)⟩, ⟨PyData.keyHash P (.ofString "__qualname__"), (.str (.ofString "__qualname__") 309), (.str (.ofString "Item") 308)⟩, ⟨PyData.keyHash P (.ofString "__firstlineno__"), (.str (.ofString "__firstlineno__") 311), (.int 29 310)⟩, ⟨PyData.keyHash P (.ofString "__init__"), (.str (.ofString "__init__") 320), (.ref 107)⟩, ⟨PyData.keyHash P (.ofString "add"), (.str (.ofString "add") 328), (.ref 114)⟩, ⟨PyData.keyHash P (.ofString "count"), (.str (.ofString "count") 335), (.ref 121)⟩, ⟨PyData.keyHash P (.ofString "clauses"), (.str (.ofString "clauses") 344), (.ref 128)⟩, ⟨PyData.keyHash P (.ofString "told"), (.str (.ofString "told") 350), (.ref 133)⟩, ⟨PyData.keyHash P (.ofString "__static_attributes__"), (.str (.ofString "__static_attributes__") 370), (.ref 134)⟩] 9), #[]⟩
noncomputable def o62 : Params → Obj := fun P => ⟨.none, none, (.fields #[(.int 31 0), (.int 4 0), (.ref 106), (.int 52 0), (.int 4 0), (.ref 113), (.int 56 0), (.int 4 0), (.ref 120), (.int 59 0), (.int 4 0), (.ref 127), (.int 64 0), (.int 4 0), (.ref 132)]), #[]⟩
noncomputable def o63 : Params → Obj := fun P => ⟨(.type "code"), none, (.fields #[(.str (.ofString "Item") 302), (.str (.ofString "Item") 303), (.str (.ofString "/claim/cut.py") 304), (.int 29 0), (.int 0 0), (.int 0 0), (.int 0 0), (.int 0 0), (.ref 97), (.bool false), (.int 181 0), (.ref 98), .none, .none, .none, .none, (.int 305 0), (.int 29 0), (.str (.ofString "/claim/cut.py") 306)]), #[]⟩
noncomputable def o64 : Params → Obj := fun P => ⟨(.type "frame"), none, .plain, #[(some (.ref 99)), (some (.ref 3)), (some (.ref 96)), none, (some (.str (.ofString "ledgerspeak.items") 252)), none, (some (.ref 0))]⟩
noncomputable def o65 : Params → Obj := fun P => ⟨(.type "tuple"), none, (.seq #[(.str (.ofString "self") 315), (.str (.ofString "level") 316), (.str (.ofString "name") 317)] 0), #[]⟩
noncomputable def o66 : Params → Obj := fun P => ⟨.none, none, (fn m_7_0 (.ofString "Item.__init__") 0 .none .none .none .none none .none .none), #[]⟩
noncomputable def o67 : Params → Obj := fun P => ⟨(.type "code"), none, (.fields #[(.str (.ofString "__init__") 312), (.str (.ofString "Item.__init__") 313), (.str (.ofString "/claim/cut.py") 314), (.int 31 0), (.int 3 0), (.int 0 0), (.int 0 0), (.int 3 0), (.ref 101), (.bool true), (.int 181 0), (.ref 102), .none, (.ref 103), (.ref 104), (.ref 105), (.int 318 0), (.int 31 0), (.str (.ofString "/claim/cut.py") 319)]), #[]⟩
noncomputable def o68 : Params → Obj := fun P => ⟨(.type "function"), none, (fn m_7_0 (.ofString "Item.__init__") 3 .none .none .none (.str (.ofString "ledgerspeak.items") 252) none (.ref 106) .none), #[]⟩
noncomputable def o69 : Params → Obj := fun P => ⟨(.type "tuple"), none, (.seq #[(.str (.ofString "self") 324), (.str (.ofString "kid") 325)] 0), #[]⟩
noncomputable def o70 : Params → Obj := fun P => ⟨.none, none, (fn m_7_1 (.ofString "Item.add") 0 .none .none .none .none none .none .none), #[]⟩
noncomputable def o71 : Params → Obj := fun P => ⟨(.type "code"), none, (.fields #[(.str (.ofString "add") 321), (.str (.ofString "Item.add") 322), (.str (.ofString "/claim/cut.py") 323), (.int 52 0), (.int 2 0), (.int 0 0), (.int 0 0), (.int 3 0), (.ref 108), (.bool true), (.int 181 0), (.ref 109), .none, (.ref 110), (.ref 111), (.ref 112), (.int 326 0), (.int 52 0), (.str (.ofString "/claim/cut.py") 327)]), #[]⟩
noncomputable def o72 : Params → Obj := fun P => ⟨(.type "function"), none, (fn m_7_1 (.ofString "Item.add") 3 .none .none .none (.str (.ofString "ledgerspeak.items") 252) none (.ref 113) .none), #[]⟩
noncomputable def o73 : Params → Obj := fun P => ⟨(.type "tuple"), none, (.seq #[(.str (.ofString "self") 332)] 0), #[]⟩
noncomputable def o74 : Params → Obj := fun P => ⟨.none, none, (fn m_7_2 (.ofString "Item.count") 0 .none .none .none .none none .none .none), #[]⟩
noncomputable def o75 : Params → Obj := fun P => ⟨(.type "code"), none, (.fields #[(.str (.ofString "count") 329), (.str (.ofString "Item.count") 330), (.str (.ofString "/claim/cut.py") 331), (.int 56 0), (.int 1 0), (.int 0 0), (.int 0 0), (.int 3 0), (.ref 115), (.bool true), (.int 181 0), (.ref 116), .none, (.ref 117), (.ref 118), (.ref 119), (.int 333 0), (.int 56 0), (.str (.ofString "/claim/cut.py") 334)]), #[]⟩
noncomputable def o76 : Params → Obj := fun P => ⟨(.type "function"), none, (fn m_7_2 (.ofString "Item.count") 3 .none .none .none (.str (.ofString "ledgerspeak.items") 252) none (.ref 120) .none), #[]⟩
noncomputable def o77 : Params → Obj := fun P => ⟨(.type "tuple"), none, (.seq #[(.str (.ofString "self") 339), (.str (.ofString "often") 340), (.str (.ofString "first") 341)] 0), #[]⟩
noncomputable def o78 : Params → Obj := fun P => ⟨.none, none, (fn m_7_3 (.ofString "Item.clauses") 0 .none .none .none .none none .none .none), #[]⟩
noncomputable def o79 : Params → Obj := fun P => ⟨(.type "code"), none, (.fields #[(.str (.ofString "clauses") 336), (.str (.ofString "Item.clauses") 337), (.str (.ofString "/claim/cut.py") 338), (.int 59 0), (.int 1 0), (.int 0 0), (.int 0 0), (.int 3 0), (.ref 122), (.bool true), (.int 181 0), (.ref 123), .none, (.ref 124), (.ref 125), (.ref 126), (.int 342 0), (.int 59 0), (.str (.ofString "/claim/cut.py") 343)]), #[]⟩
noncomputable def o80 : Params → Obj := fun P => ⟨(.type "function"), none, (fn m_7_3 (.ofString "Item.clauses") 3 .none .none .none (.str (.ofString "ledgerspeak.items") 252) none (.ref 127) .none), #[]⟩
noncomputable def o81 : Params → Obj := fun P => ⟨.none, none, (fn m_7_4 (.ofString "Item.told") 0 .none .none .none .none none .none .none), #[]⟩
noncomputable def o82 : Params → Obj := fun P => ⟨(.type "code"), none, (.fields #[(.str (.ofString "told") 345), (.str (.ofString "Item.told") 346), (.str (.ofString "/claim/cut.py") 347), (.int 64 0), (.int 1 0), (.int 0 0), (.int 0 0), (.int 3 0), (.ref 129), (.bool true), (.int 181 0), (.ref 130), .none, .none, .none, (.ref 131), (.int 348 0), (.int 64 0), (.str (.ofString "/claim/cut.py") 349)]), #[]⟩
noncomputable def o83 : Params → Obj := fun P => ⟨(.type "function"), none, (fn m_7_4 (.ofString "Item.told") 3 .none .none .none (.str (.ofString "ledgerspeak.items") 252) none (.ref 132) .none), #[]⟩
noncomputable def o84 : Params → Obj := fun P => ⟨(.type "tuple"), none, (.seq #[(.str (.ofString "base") 351), (.str (.ofString "conditions") 352), (.str (.ofString "is_blank_zero") 353), (.str (.ofString "is_justified") 354), (.str (.ofString "is_separate") 355), (.str (.ofString "kids") 356), (.str (.ofString "level") 357), (.str (.ofString "name") 358), (.str (.ofString "occurs") 359), (.str (.ofString "offset") 360), (.str (.ofString "parent") 361), (.str (.ofString "picture_text") 362), (.str (.ofString "redefines") 363), (.str (.ofString "renames") 364), (.str (.ofString "shape") 365), (.str (.ofString "sign") 366), (.str (.ofString "size") 367), (.str (.ofString "usage") 368), (.str (.ofString "value") 369)] 0), #[]⟩
noncomputable def o85 : Params → Obj := fun P => ⟨(.type "dict"), none, (.dict #[⟨PyData.keyHash P (.ofString "__module__"), (.str (.ofString "__module__") 307), (.str (.ofString "ledgerspeak.items") 252)⟩, ⟨PyData.keyHash P (.ofString "__firstlineno__"), (.str (.ofString "__firstlineno__") 311), (.int 29 310)⟩, ⟨PyData.keyHash P (.ofString "__init__"), (.str (.ofString "__init__") 320), (.ref 107)⟩, ⟨PyData.keyHash P (.ofString "add"), (.str (.ofString "add") 328), (.ref 114)⟩, ⟨PyData.keyHash P (.ofString "count"), (.str (.ofString "count") 335), (.ref 121)⟩, ⟨PyData.keyHash P (.ofString "clauses"), (.str (.ofString "clauses") 344), (.ref 128)⟩, ⟨PyData.keyHash P (.ofString "told"), (.str (.ofString "told") 350), (.ref 133)⟩, ⟨PyData.keyHash P (.ofString "__static_attributes__"), (.str (.ofString "__static_attributes__") 370), (.ref 134)⟩, ⟨PyData.keyHash P (.ofString "__dict__"), (.str (.ofString "__dict__") 372), (.ref 137)⟩, ⟨PyData.keyHash P (.ofString "__weakref__"), (.str (.ofString "__weakref__") 374), (.ref 138)⟩, ⟨PyData.keyHash P (.ofString "__doc__"), (.str (.ofString "__doc__") 375), .none⟩] 4), #[]⟩
noncomputable def o86 : Params → Obj := fun P => ⟨(.type "type"), none, (.cls ⟨(.ofString "Item"), [(.type "object")], [(.ref 136), (.type "object")], 135, (.ofString "Item"), true, [], [], false, none, false⟩), #[none, none, (some (.str (.ofString "Item") 300)), (some (.str (.ofString "Item") 308)), (some (.builtin "object.__new__")), (some (.bool true))]⟩
noncomputable def o87 : Params → Obj := fun P => ⟨(.type "getset_descriptor"), none, (.fields #[(.str (.ofString "__dict__") 371), (.ref 136), (.builtin "function.__dict__"), (.builtin "function.__dict__#set")]), #[]⟩
noncomputable def o88 : Params → Obj := fun P => ⟨(.type "getset_descriptor"), none, (.fields #[(.str (.ofString "__weakref__") 373), (.ref 136), (.builtin "ExceptionGroup.__weakref__"), .none]), #[]⟩
noncomputable def o89 : Params → Obj := fun P => ⟨(.type "super"), none, (.fields #[(.ref 136), (.ref 136), (.ref 136)]), #[]⟩
noncomputable def o90 : Params → Obj := fun P => ⟨(.type "builtin_function_or_method"), none, (.fields #[(.builtin "object.__init_subclass__"), (.ref 136)]), #[]⟩
noncomputable def o91 : Params → Obj := fun P => ⟨(.type "dict"), none, (.dict #[⟨PyData.keyHash P (.ofString "__name__"), (.str (.ofString "__name__") 165), (.str (.ofString "ledgerspeak.references") 474)⟩, ⟨PyData.keyHash P (.ofString "__doc__"), (.str (.ofString "__doc__") 166), .none⟩, ⟨PyData.keyHash P (.ofString "__package__"), (.str (.ofString "__package__") 167), .none⟩, ⟨PyData.keyHash P (.ofString "__loader__"), (.str (.ofString "__loader__") 168), (.builtin "__main__.__loader__#opaque")⟩, ⟨PyData.keyHash P (.ofString "__spec__"), (.str (.ofString "__spec__") 169), .none⟩, ⟨PyData.keyHash P (.ofString "__annotations__"), (.str (.ofString "__annotations__") 170), (.ref 6)⟩, ⟨PyData.keyHash P (.ofString "__builtins__"), (.str (.ofString "__builtins__") 171), (.ref 4)⟩, ⟨PyData.keyHash P (.ofString "__file__"), (.str (.ofString "__file__") 173), (.str (.ofString "/claim/cut.py") 172)⟩, ⟨PyData.keyHash P (.ofString "__cached__"), (.str (.ofString "__cached__") 174), .none⟩, ⟨PyData.keyHash P (.ofString "_wall"), (.str (.ofString "_wall") 193), (.ref 21)⟩, ⟨PyData.keyHash P (.ofString "LedgerError"), (.str (.ofString "LedgerError") 235), (.ref 47)⟩, ⟨PyData.keyHash P (.ofString "CheckFault"), (.str (.ofString "CheckFault") 251), (.ref 60)⟩, ⟨PyData.keyHash P (.ofString "FILLER"), (.str (.ofString "FILLER") 255), (.str (.ofString "FILLER") 254)⟩, ⟨PyData.keyHash P (.ofString "Occurs"), (.str (.ofString "Occurs") 299), (.ref 89)⟩, ⟨PyData.keyHash P (.ofString "Item"), (.str (.ofString "Item") 377), (.ref 136)⟩, ⟨PyData.keyHash P (.ofString "Data"), (.str (.ofString "Data") 416), (.ref 162)⟩, ⟨PyData.keyHash P (.ofString "records"), (.str (.ofString "records") 425), (.ref 173)⟩, ⟨PyData.keyHash P (.ofString "items_under"), (.str (.ofString "items_under") 435), (.ref 180)⟩, ⟨PyData.keyHash P (.ofString "all_items"), (.str (.ofString "all_items") 444), (.ref 187)⟩, ⟨PyData.keyHash P (.ofString "items_around"), (.str (.ofString "items_around") 453), (.ref 194)⟩, ⟨PyData.keyHash P (.ofString "root_of"), (.str (.ofString "root_of") 461), (.ref 201)⟩, ⟨PyData.keyHash P (.ofString "names_around"), (.str (.ofString "names_around") 467), (.ref 206)⟩, ⟨PyData.keyHash P (.ofString "tables_around"), (.str (.ofString "tables_around") 473), (.ref 211)⟩, ⟨PyData.keyHash P (.ofString "file_of"), (.str (.ofString "file_of") 481), (.ref 216)⟩, ⟨PyData.keyHash P (.ofString "leads_through"), (.str (.ofString "leads_through") 491), (.ref 223)⟩, ⟨PyData.keyHash P (.ofString "only_one"), (.str (.ofString "only_one") 499), (.ref 230)⟩, ⟨PyData.keyHash P (.ofString "find_item"), (.str (.ofString "find_item") 505), (.ref 235)⟩] 27), #[]⟩
noncomputable def o92 : Params → Obj := fun P => ⟨.none, none, (.fields (List.toArray ((.int 1 0) :: (.int 0 0) :: (.ref 20) :: (.int 5 0) :: (.int 0 0) :: (.ref 27) :: (.int 14 0) :: (.int 0 0) :: (.ref 56) :: (.int 18 0) :: (.int 0 0) :: (.ref 68) :: (.int 29 0) :: (.int 0 0) :: (.ref 99) :: (.int 67 0) :: (.int 0 0) :: (.ref 146) :: (.int 80 0) :: (.int 0 0) :: (.ref 172) :: (.int 85 0) :: (.int 0 0) :: (.ref 179) :: (.int 93 0) :: (.int 0 0) :: (.ref 186) :: (.int 98 0) :: (.int 0 0) :: (.ref 193) :: (.int 105 0) :: (.int 0 0) :: (.ref 200) :: (.int 108 0) :: (.int 0 0) :: (.ref 205) :: (.int 110 0) :: (.int 0 0) :: (.ref 210) :: (.int 114 0) :: (.int 0 0) :: (.ref 215) :: (.int 120 0) :: (.int 0 0) :: (.ref 222) :: (.int 126 0) :: (.int 0 0) :: (.ref 229) :: (.int 132 0) :: (.int 0 0) :: (.ref 234) :: []))), #[]⟩
noncomputable def o93 : Params → Obj := fun P => ⟨(.type "dict"), none, (.dict #[⟨PyData.keyHash P (.ofString "__module__"), (.str (.ofString "__module__") 385), (.str (.ofString "ledgerspeak.items") 252)⟩, ⟨PyData.keyHash P (.ofString "__qualname__"), (.str (.ofString "__qualname__") 387), (.str (.ofString "Data") 386)⟩, ⟨PyData.keyHash P (.ofString "__firstlineno__"), (.str (.ofString "__firstlineno__") 389), (.int 67 388)⟩, ⟨PyData.keyHash P (.ofString "__init__"), (.str (.ofString "__init__") 396), (.ref 154)⟩, ⟨PyData.keyHash P (.ofString "told"), (.str (.ofString "told") 402), (.ref 159)⟩, ⟨PyData.keyHash P (.ofString "__static_attributes__"), (.str (.ofString "__static_attributes__") 409), (.ref 160)⟩] 6), #[]⟩
noncomputable def o94 : Params → Obj := fun P => ⟨.none, none, (.fields #[(.int 69 0), (.int 4 0), (.ref 153), (.int 77 0), (.int 4 0), (.ref 158)]), #[]⟩
noncomputable def o95 : Params → Obj := fun P => ⟨(.type "code"), none, (.fields #[(.str (.ofString "Data") 380), (.str (.ofString "Data") 381), (.str (.ofString "/claim/cut.py") 382), (.int 67 0), (.int 0 0), (.int 0 0), (.int 0 0), (.int 0 0), (.ref 144), (.bool false), (.int 181 0), (.ref 145), .none, .none, .none, .none, (.int 383 0), (.int 67 0), (.str (.ofString "/claim/cut.py") 384)]), #[]⟩
noncomputable def o96 : Params → Obj := fun P => ⟨(.type "frame"), none, .plain, #[(some (.ref 146)), (some (.ref 3)), (some (.ref 143)), none, (some (.str (.ofString "ledgerspeak.items") 252)), none, (some (.ref 0))]⟩
noncomputable def o97 : Params → Obj := fun P => ⟨(.type "tuple"), none, (.seq #[(.str (.ofString "self") 393)] 0), #[]⟩
noncomputable def o98 : Params → Obj := fun P => ⟨.none, none, (fn m_8_0 (.ofString "Data.__init__") 0 .none .none .none .none none .none .none), #[]⟩
noncomputable def o99 : Params → Obj := fun P => ⟨(.type "code"), none, (.fields #[(.str (.ofString "__init__") 390), (.str (.ofString "Data.__init__") 391), (.str (.ofString "/claim/cut.py") 392), (.int 69 0), (.int 1 0), (.int 0 0), (.int 0 0), (.int 3 0), (.ref 148), (.bool true), (.int 181 0), (.ref 149), .none, (.ref 150), (.ref 151), (.ref 152), (.int 394 0), (.int 69 0), (.str (.ofString "/claim/cut.py") 395)]), #[]⟩
noncomputable def o100 : Params → Obj := fun P => ⟨(.type "function"), none, (fn m_8_0 (.ofString "Data.__init__") 3 .none .none .none (.str (.ofString "ledgerspeak.items") 252) none (.ref 153) .none), #[]⟩
noncomputable def o101 : Params → Obj := fun P => ⟨.none, none, (fn m_8_1 (.ofString "Data.told") 0 .none .none .none .none none .none .none), #[]⟩
noncomputable def o102 : Params → Obj := fun P => ⟨(.type "code"), none, (.fields #[(.str (.ofString "told") 397), (.str (.ofString "Data.told") 398), (.str (.ofString "/claim/cut.py") 399), (.int 77 0), (.int 1 0), (.int 0 0), (.int 0 0), (.int 3 0), (.ref 155), (.bool true), (.int 181 0), (.ref 156), .none, .none, .none, (.ref 157), (.int 400 0), (.int 77 0), (.str (.ofString "/claim/cut.py") 401)]), #[]⟩
noncomputable def o103 : Params → Obj := fun P => ⟨(.type "function"), none, (fn m_8_1 (.ofString "Data.told") 3 .none .none .none (.str (.ofString "ledgerspeak.items") 252) none (.ref 158) .none), #[]⟩
noncomputable def o104 : Params → Obj := fun P => ⟨(.type "tuple"), none, (.seq #[(.str (.ofString "files") 403), (.str (.ofString "indexes") 404), (.str (.ofString "linkage") 405), (.str (.ofString "size") 406), (.str (.ofString "sorts") 407), (.str (.ofString "working") 408)] 0), #[]⟩
noncomputable def o105 : Params → Obj := fun P => ⟨(.type "dict"), none, (.dict #[⟨PyData.keyHash P (.ofString "__module__"), (.str (.ofString "__module__") 385), (.str (.ofString "ledgerspeak.items") 252)⟩, ⟨PyData.keyHash P (.ofString "__firstlineno__"), (.str (.ofString "__firstlineno__") 389), (.int 67 388)⟩, ⟨PyData.keyHash P (.ofString "__init__"), (.str (.ofString "__init__") 396), (.ref 154)⟩, ⟨PyData.keyHash P (.ofString "told"), (.str (.ofString "told") 402), (.ref 159)⟩, ⟨PyData.keyHash P (.ofString "__static_attributes__"), (.str (.ofString "__static_attributes__") 409), (.ref 160)⟩, ⟨PyData.keyHash P (.ofString "__dict__"), (.str (.ofString "__dict__") 411), (.ref 163)⟩, ⟨PyData.keyHash P (.ofString "__weakref__"), (.str (.ofString "__weakref__") 413), (.ref 164)⟩, ⟨PyData.keyHash P (.ofString "__doc__"), (.str (.ofString "__doc__") 414), .none⟩] 4), #[]⟩
noncomputable def o106 : Params → Obj := fun P => ⟨(.type "type"), none, (.cls ⟨(.ofString "Data"), [(.type "object")], [(.ref 162), (.type "object")], 161, (.ofString "Data"), true, [], [], false, none, false⟩), #[none, none, (some (.str (.ofString "Data") 378)), (some (.str (.ofString "Data") 386)), (some (.builtin "object.__new__")), (some (.bool true))]⟩
noncomputable def o107 : Params → Obj := fun P => ⟨(.type "getset_descriptor"), none, (.fields #[(.str (.ofString "__dict__") 410), (.ref 162), (.builtin "function.__dict__"), (.builtin "function.__dict__#set")]), #[]⟩
noncomputable def o108 : Params → Obj := fun P => ⟨(.type "getset_descriptor"), none, (.fields #[(.str (.ofString "__weakref__") 412), (.ref 162), (.builtin "ExceptionGroup.__weakref__"), .none]), #[]⟩
noncomputable def o109 : Params → Obj := fun P => ⟨(.type "super"), none, (.fields #[(.ref 162), (.ref 162), (.ref 162)]), #[]⟩
noncomputable def o110 : Params → Obj := fun P => ⟨(.type "builtin_function_or_method"), none, (.fields #[(.builtin "object.__init_subclass__"), (.ref 162)]), #[]⟩
noncomputable def o111 : Params → Obj := fun P => ⟨(.type "tuple"), none, (.seq #[(.str (.ofString "data") 420), (.str (.ofString "found") 421), (.str (.ofString "name") 422)] 0), #[]⟩
noncomputable def o112 : Params → Obj := fun P => ⟨.none, none, (fn s_9 (.ofString "records") 0 .none .none .none .none none .none .none), #[]⟩
noncomputable def o113 : Params → Obj := fun P => ⟨(.type "code"), none, (.fields #[(.str (.ofString "records") 417), (.str (.ofString "records") 418), (.str (.ofString "/claim/cut.py") 419), (.int 80 0), (.int 1 0), (.int 0 0), (.int 0 0), (.int 3 0), (.ref 167), (.bool true), (.int 181 0), (.ref 168), .none, (.ref 169), (.ref 170), (.ref 171), (.int 423 0), (.int 80 0), (.str (.ofString "/claim/cut.py") 424)]), #[]⟩
noncomputable def o114 : Params → Obj := fun P => ⟨(.type "function"), none, (fn s_9 (.ofString "records") 3 .none .none .none (.str (.ofString "ledgerspeak.items") 252) none (.ref 172) .none), #[]⟩
noncomputable def o115 : Params → Obj := fun P => ⟨(.type "tuple"), none, (.seq #[(.str (.ofString "item") 429), (.str (.ofString "found") 430), (.str (.ofString "line") 431), (.str (.ofString "one") 432)] 0), #[]⟩
noncomputable def o116 : Params → Obj := fun P => ⟨.none, none, (fn s_10 (.ofString "items_under") 0 .none .none .none .none none .none .none), #[]⟩
noncomputable def o117 : Params → Obj := fun P => ⟨(.type "code"), none, (.fields #[(.str (.ofString "items_under") 426), (.str (.ofString "items_under") 427), (.str (.ofString "/claim/cut.py") 428), (.int 85 0), (.int 1 0), (.int 0 0), (.int 0 0), (.int 3 0), (.ref 174), (.bool true), (.int 181 0), (.ref 175), .none, (.ref 176), (.ref 177), (.ref 178), (.int 433 0), (.int 85 0), (.str (.ofString "/claim/cut.py") 434)]), #[]⟩
noncomputable def o118 : Params → Obj := fun P => ⟨(.type "function"), none, (fn s_10 (.ofString "items_under") 3 .none .none .none (.str (.ofString "ledgerspeak.items") 252) none (.ref 179) .none), #[]⟩
noncomputable def o119 : Params → Obj := fun P => ⟨(.type "tuple"), none, (.seq #[(.str (.ofString "data") 439), (.str (.ofString "found") 440), (.str (.ofString "root") 441)] 0), #[]⟩
noncomputable def o120 : Params → Obj := fun P => ⟨.none, none, (fn s_11 (.ofString "all_items") 0 .none .none .none .none none .none .none), #[]⟩
noncomputable def o121 : Params → Obj := fun P => ⟨(.type "code"), none, (.fields #[(.str (.ofString "all_items") 436), (.str (.ofString "all_items") 437), (.str (.ofString "/claim/cut.py") 438), (.int 93 0), (.int 1 0), (.int 0 0), (.int 0 0), (.int 3 0), (.ref 181), (.bool true), (.int 181 0), (.ref 182), .none, (.ref 183), (.ref 184), (.ref 185), (.int 442 0), (.int 93 0), (.str (.ofString "/claim/cut.py") 443)]), #[]⟩
noncomputable def o122 : Params → Obj := fun P => ⟨(.type "function"), none, (fn s_11 (.ofString "all_items") 3 .none .none .none (.str (.ofString "ledgerspeak.items") 252) none (.ref 186) .none), #[]⟩
noncomputable def o123 : Params → Obj := fun P => ⟨(.type "tuple"), none, (.seq #[(.str (.ofString "item") 448), (.str (.ofString "found") 449), (.str (.ofString "above") 450)] 0), #[]⟩
noncomputable def o124 : Params → Obj := fun P => ⟨.none, none, (fn s_12 (.ofString "items_around") 0 .none .none .none .none none .none .none), #[]⟩
noncomputable def o125 : Params → Obj := fun P => ⟨(.type "code"), none, (.fields #[(.str (.ofString "items_around") 445), (.str (.ofString "items_around") 446), (.str (.ofString "/claim/cut.py") 447), (.int 98 0), (.int 1 0), (.int 0 0), (.int 0 0), (.int 3 0), (.ref 188), (.bool true), (.int 181 0), (.ref 189), .none, (.ref 190), (.ref 191), (.ref 192), (.int 451 0), (.int 98 0), (.str (.ofString "/claim/cut.py") 452)]), #[]⟩
noncomputable def o126 : Params → Obj := fun P => ⟨(.type "function"), none, (fn s_12 (.ofString "items_around") 3 .none .none .none (.str (.ofString "ledgerspeak.items") 252) none (.ref 193) .none), #[]⟩
noncomputable def o127 : Params → Obj := fun P => ⟨(.type "tuple"), none, (.seq #[(.str (.ofString "item") 457), (.str (.ofString "around") 458)] 0), #[]⟩
noncomputable def o128 : Params → Obj := fun P => ⟨.none, none, (fn s_13 (.ofString "root_of") 0 .none .none .none .none none .none .none), #[]⟩
noncomputable def o129 : Params → Obj := fun P => ⟨(.type "code"), none, (.fields #[(.str (.ofString "root_of") 454), (.str (.ofString "root_of") 455), (.str (.ofString "/claim/cut.py") 456), (.int 105 0), (.int 1 0), (.int 0 0), (.int 0 0), (.int 3 0), (.ref 195), (.bool true), (.int 181 0), (.ref 196), .none, (.ref 197), (.ref 198), (.ref 199), (.int 459 0), (.int 105 0), (.str (.ofString "/claim/cut.py") 460)]), #[]⟩
noncomputable def o130 : Params → Obj := fun P => ⟨(.type "function"), none, (fn s_13 (.ofString "root_of") 3 .none .none .none (.str (.ofString "ledgerspeak.items") 252) none (.ref 200) .none), #[]⟩
noncomputable def o131 : Params → Obj := fun P => ⟨.none, none, (fn s_14 (.ofString "names_around") 0 .none .none .none .none none .none .none), #[]⟩
noncomputable def o132 : Params → Obj := fun P => ⟨(.type "code"), none, (.fields #[(.str (.ofString "names_around") 462), (.str (.ofString "names_around") 463), (.str (.ofString "/claim/cut.py") 464), (.int 108 0), (.int 1 0), (.int 0 0), (.int 0 0), (.int 3 0), (.ref 202), (.bool true), (.int 181 0), (.ref 203), .none, .none, .none, (.ref 204), (.int 465 0), (.int 108 0), (.str (.ofString "/claim/cut.py") 466)]), #[]⟩
noncomputable def o133 : Params → Obj := fun P => ⟨(.type "function"), none, (fn s_14 (.ofString "names_around") 3 .none .none .none (.str (.ofString "ledgerspeak.items") 252) none (.ref 205) .none), #[]⟩
noncomputable def o134 : Params → Obj := fun P => ⟨.none, none, (fn s_15 (.ofString "tables_around") 0 .none .none .none .none none .none .none), #[]⟩
noncomputable def o135 : Params → Obj := fun P => ⟨(.type "code"), none, (.fields #[(.str (.ofString "tables_around") 468), (.str (.ofString "tables_around") 469), (.str (.ofString "/claim/cut.py") 470), (.int 110 0), (.int 1 0), (.int 0 0), (.int 0 0), (.int 3 0), (.ref 207), (.bool true), (.int 181 0), (.ref 208), .none, .none, .none, (.ref 209), (.int 471 0), (.int 110 0), (.str (.ofString "/claim/cut.py") 472)]), #[]⟩
noncomputable def o136 : Params → Obj := fun P => ⟨(.type "function"), none, (fn s_15 (.ofString "tables_around") 3 .none .none .none (.str (.ofString "ledgerspeak.items") 252) none (.ref 210) .none), #[]⟩
noncomputable def o137 : Params → Obj := fun P => ⟨.none, none, (fn s_17 (.ofString "file_of") 0 .none .none .none .none none .none .none), #[]⟩
noncomputable def o138 : Params → Obj := fun P => ⟨(.type "code"), none, (.fields #[(.str (.ofString "file_of") 476), (.str (.ofString "file_of") 477), (.str (.ofString "/claim/cut.py") 478), (.int 114 0), (.int 2 0), (.int 0 0), (.int 0 0), (.int 3 0), (.ref 212), (.bool true), (.int 181 0), (.ref 213), .none, .none, .none, (.ref 214), (.int 479 0), (.int 114 0), (.str (.ofString "/claim/cut.py") 480)]), #[]⟩
noncomputable def o139 : Params → Obj := fun P => ⟨(.type "function"), none, (fn s_17 (.ofString "file_of") 3 .none .none .none (.str (.ofString "ledgerspeak.references") 474) none (.ref 215) .none), #[]⟩
noncomputable def o140 : Params → Obj := fun P => ⟨(.type "tuple"), none, (.seq #[(.str (.ofString "around") 485), (.str (.ofString "qualifiers") 486), (.str (.ofString "at") 487), (.str (.ofString "name") 488)] 0), #[]⟩
noncomputable def o141 : Params → Obj := fun P => ⟨.none, none, (fn s_18 (.ofString "leads_through") 0 .none .none .none .none none .none .none), #[]⟩
noncomputable def o142 : Params → Obj := fun P => ⟨(.type "code"), none, (.fields #[(.str (.ofString "leads_through") 482), (.str (.ofString "leads_through") 483), (.str (.ofString "/claim/cut.py") 484), (.int 120 0), (.int 2 0), (.int 0 0), (.int 0 0), (.int 3 0), (.ref 217), (.bool true), (.int 181 0), (.ref 218), .none, (.ref 219), (.ref 220), (.ref 221), (.int 489 0), (.int 120 0), (.str (.ofString "/claim/cut.py") 490)]), #[]⟩
noncomputable def o143 : Params → Obj := fun P => ⟨(.type "function"), none, (fn s_18 (.ofString "leads_through") 3 .none .none .none (.str (.ofString "ledgerspeak.references") 474) none (.ref 222) .none), #[]⟩
noncomputable def o144 : Params → Obj := fun P => ⟨(.type "tuple"), none, (.seq #[(.str (.ofString "found") 495), (.str (.ofString "name") 496)] 0), #[]⟩
noncomputable def o145 : Params → Obj := fun P => ⟨.none, none, (fn s_19 (.ofString "only_one") 0 .none .none .none .none none .none .none), #[]⟩
noncomputable def o146 : Params → Obj := fun P => ⟨(.type "code"), none, (.fields #[(.str (.ofString "only_one") 492), (.str (.ofString "only_one") 493), (.str (.ofString "/claim/cut.py") 494), (.int 126 0), (.int 2 0), (.int 0 0), (.int 0 0), (.int 3 0), (.ref 224), (.bool true), (.int 181 0), (.ref 225), .none, (.ref 226), (.ref 227), (.ref 228), (.int 497 0), (.int 126 0), (.str (.ofString "/claim/cut.py") 498)]), #[]⟩
noncomputable def o147 : Params → Obj := fun P => ⟨(.type "function"), none, (fn s_19 (.ofString "only_one") 3 .none .none .none (.str (.ofString "ledgerspeak.references") 474) none (.ref 229) .none), #[]⟩
noncomputable def o148 : Params → Obj := fun P => ⟨.none, none, (fn s_20 (.ofString "find_item") 0 .none .none .none .none none .none .none), #[]⟩
noncomputable def o149 : Params → Obj := fun P => ⟨(.type "code"), none, (.fields #[(.str (.ofString "find_item") 500), (.str (.ofString "find_item") 501), (.str (.ofString "/claim/cut.py") 502), (.int 132 0), (.int 3 0), (.int 0 0), (.int 0 0), (.int 3 0), (.ref 231), (.bool true), (.int 181 0), (.ref 232), .none, .none, .none, (.ref 233), (.int 503 0), (.int 132 0), (.str (.ofString "/claim/cut.py") 504)]), #[]⟩
noncomputable def o150 : Params → Obj := fun P => ⟨(.type "function"), none, (fn s_20 (.ofString "find_item") 3 .none .none .none (.str (.ofString "ledgerspeak.references") 474) none (.ref 234) .none), #[]⟩
noncomputable def o151 : Params → Obj := fun P => ⟨(.type "dict"), none, (.dict (List.toArray (⟨PyData.keyHash P (.ofString "__name__"), (.str (.ofString "__name__") 165), (.str (.ofString "ledgerspeak.shapes") 624)⟩ :: ⟨PyData.keyHash P (.ofString "__doc__"), (.str (.ofString "__doc__") 166), .none⟩ :: ⟨PyData.keyHash P (.ofString "__package__"), (.str (.ofString "__package__") 167), .none⟩ :: ⟨PyData.keyHash P (.ofString "__loader__"), (.str (.ofString "__loader__") 168), (.builtin "__main__.__loader__#opaque")⟩ :: ⟨PyData.keyHash P (.ofString "__spec__"), (.str (.ofString "__spec__") 169), .none⟩ :: ⟨PyData.keyHash P (.ofString "__annotations__"), (.str (.ofString "__annotations__") 170), (.ref 6)⟩ :: ⟨PyData.keyHash P (.ofString "__builtins__"), (.str (.ofString "__builtins__") 171), (.ref 4)⟩ :: ⟨PyData.keyHash P (.ofString "__file__"), (.str (.ofString "__file__") 173), (.str (.ofString "/claim/cut.py") 172)⟩ :: ⟨PyData.keyHash P (.ofString "__cached__"), (.str (.ofString "__cached__") 174), .none⟩ :: ⟨PyData.keyHash P (.ofString "_wall"), (.str (.ofString "_wall") 193), (.ref 21)⟩ :: ⟨PyData.keyHash P (.ofString "LedgerError"), (.str (.ofString "LedgerError") 235), (.ref 47)⟩ :: ⟨PyData.keyHash P (.ofString "CheckFault"), (.str (.ofString "CheckFault") 251), (.ref 60)⟩ :: ⟨PyData.keyHash P (.ofString "FILLER"), (.str (.ofString "FILLER") 255), (.str (.ofString "FILLER") 254)⟩ :: ⟨PyData.keyHash P (.ofString "Occurs"), (.str (.ofString "Occurs") 299), (.ref 89)⟩ :: ⟨PyData.keyHash P (.ofString "Item"), (.str (.ofString "Item") 377), (.ref 136)⟩ :: ⟨PyData.keyHash P (.ofString "Data"), (.str (.ofString "Data") 416), (.ref 162)⟩ :: ⟨PyData.keyHash P (.ofString "records"), (.str (.ofString "records") 425), (.ref 173)⟩ :: ⟨PyData.keyHash P (.ofString "items_under"), (.str (.ofString "items_under") 435), (.ref 180)⟩ :: ⟨PyData.keyHash P (.ofString "all_items"), (.str (.ofString "all_items") 444), (.ref 187)⟩ :: ⟨PyData.keyHash P (.ofString "items_around"), (.str (.ofString "items_around") 453), (.ref 194)⟩ :: ⟨PyData.keyHash P (.ofString "root_of"), (.str (.ofString "root_of") 461), (.ref 201)⟩ :: ⟨PyData.keyHash P (.ofString "names_around"), (.str (.ofString "names_around") 467), (.ref 206)⟩ :: ⟨PyData.keyHash P (.ofString "tables_around"), (.str (.ofString "tables_around") 473), (.ref 211)⟩ :: ⟨PyData.keyHash P (.ofString "file_of"), (.str (.ofString "file_of") 481), (.ref 216)⟩ :: ⟨PyData.keyHash P (.ofString "leads_through"), (.str (.ofString "leads_through") 491), (.ref 223)⟩ :: ⟨PyData.keyHash P (.ofString "only_one"), (.str (.ofString "only_one") 499), (.ref 230)⟩ :: ⟨PyData.keyHash P (.ofString "find_item"), (.str (.ofString "find_item") 505), (.ref 235)⟩ :: ⟨PyData.keyHash P (.ofString "ARITHMETIC"), (.str (.ofString "ARITHMETIC") 509), (.str (.ofString "+ - * / **") 508)⟩ :: ⟨PyData.keyHash P (.ofString "NUMBER_PLACES"), (.str (.ofString "NUMBER_PLACES") 512), (.ref 236)⟩ :: ⟨PyData.keyHash P (.ofString "item_of"), (.str (.ofString "item_of") 520), (.ref 243)⟩ :: ⟨PyData.keyHash P (.ofString "is_index_name"), (.str (.ofString "is_index_name") 528), (.ref 250)⟩ :: ⟨PyData.keyHash P (.ofString "part_faults"), (.str (.ofString "part_faults") 538), (.ref 257)⟩ :: ⟨PyData.keyHash P (.ofString "ref_faults"), (.str (.ofString "ref_faults") 551), (.ref 265)⟩ :: ⟨PyData.keyHash P (.ofString "operand_faults"), (.str (.ofString "operand_faults") 559), (.ref 272)⟩ :: ⟨PyData.keyHash P (.ofString "category_of"), (.str (.ofString "category_of") 568), (.ref 279)⟩ :: ⟨PyData.keyHash P (.ofString "is_number_operand"), (.str (.ofString "is_number_operand") 576), (.ref 286)⟩ :: ⟨PyData.keyHash P (.ofString "number_faults"), (.str (.ofString "number_faults") 585), (.ref 293)⟩ :: ⟨PyData.keyHash P (.ofString "name_of"), (.str (.ofString "name_of") 592), (.ref 300)⟩ :: ⟨PyData.keyHash P (.ofString "place_faults"), (.str (.ofString "place_faults") 602), (.ref 307)⟩ :: ⟨PyData.keyHash P (.ofString "counter_faults"), (.str (.ofString "counter_faults") 610), (.ref 314)⟩ :: ⟨PyData.keyHash P (.ofString "arith_faults"), (.str (.ofString "arith_faults") 623), (.ref 321)⟩ :: [])) 41), #[]⟩
noncomputable def o152 : Params → Obj := fun P => ⟨.none, none, (.fields (List.toArray ((.int 1 0) :: (.int 0 0) :: (.ref 20) :: (.int 5 0) :: (.int 0 0) :: (.ref 27) :: (.int 14 0) :: (.int 0 0) :: (.ref 56) :: (.int 18 0) :: (.int 0 0) :: (.ref 68) :: (.int 29 0) :: (.int 0 0) :: (.ref 99) :: (.int 67 0) :: (.int 0 0) :: (.ref 146) :: (.int 80 0) :: (.int 0 0) :: (.ref 172) :: (.int 85 0) :: (.int 0 0) :: (.ref 179) :: (.int 93 0) :: (.int 0 0) :: (.ref 186) :: (.int 98 0) :: (.int 0 0) :: (.ref 193) :: (.int 105 0) :: (.int 0 0) :: (.ref 200) :: (.int 108 0) :: (.int 0 0) :: (.ref 205) :: (.int 110 0) :: (.int 0 0) :: (.ref 210) :: (.int 114 0) :: (.int 0 0) :: (.ref 215) :: (.int 120 0) :: (.int 0 0) :: (.ref 222) :: (.int 126 0) :: (.int 0 0) :: (.ref 229) :: (.int 132 0) :: (.int 0 0) :: (.ref 234) :: (.int 138 0) :: (.int 0 0) :: (.ref 242) :: (.int 143 0) :: (.int 0 0) :: (.ref 249) :: (.int 145 0) :: (.int 0 0) :: (.ref 256) :: (.int 153 0) :: (.int 0 0) :: (.ref 264) :: (.int 164 0) :: (.int 0 0) :: (.ref 271) :: (.int 166 0) :: (.int 0 0) :: (.ref 278) :: (.int 177 0) :: (.int 0 0) :: (.ref 285) :: (.int 179 0) :: (.int 0 0) :: (.ref 292) :: (.int 188 0) :: (.int 0 0) :: (.ref 299) :: (.int 192 0) :: (.int 0 0) :: (.ref 306) :: (.int 197 0) :: (.int 0 0) :: (.ref 313) :: (.int 199 0) :: (.int 0 0) :: (.ref 320) :: []))), #[]⟩
noncomputable def o153 : Params → Obj := fun P => ⟨(.type "tuple"), none, (.seq #[(.str (.ofString "numeric") 510), (.str (.ofString "edited") 511)] 0), #[]⟩
noncomputable def o154 : Params → Obj := fun P => ⟨(.type "tuple"), none, (.seq #[(.str (.ofString "data") 516), (.str (.ofString "ref") 517)] 0), #[]⟩
noncomputable def o155 : Params → Obj := fun P => ⟨.none, none, (fn s_24 (.ofString "item_of") 0 .none .none .none .none none .none .none), #[]⟩
noncomputable def o156 : Params → Obj := fun P => ⟨(.type "code"), none, (.fields #[(.str (.ofString "item_of") 513), (.str (.ofString "item_of") 514), (.str (.ofString "/claim/cut.py") 515), (.int 138 0), (.int 2 0), (.int 0 0), (.int 0 0), (.int 3 0), (.ref 237), (.bool true), (.int 181 0), (.ref 238), .none, (.ref 239), (.ref 240), (.ref 241), (.int 518 0), (.int 138 0), (.str (.ofString "/claim/cut.py") 519)]), #[]⟩
noncomputable def o157 : Params → Obj := fun P => ⟨(.type "function"), none, (fn s_24 (.ofString "item_of") 3 .none .none .none (.str (.ofString "ledgerspeak.checker") 506) none (.ref 242) .none), #[]⟩
noncomputable def o158 : Params → Obj := fun P => ⟨(.type "tuple"), none, (.seq #[(.str (.ofString "data") 524), (.str (.ofString "operand") 525)] 0), #[]⟩
noncomputable def o159 : Params → Obj := fun P => ⟨.none, none, (fn s_25 (.ofString "is_index_name") 0 .none .none .none .none none .none .none), #[]⟩
noncomputable def o160 : Params → Obj := fun P => ⟨(.type "code"), none, (.fields #[(.str (.ofString "is_index_name") 521), (.str (.ofString "is_index_name") 522), (.str (.ofString "/claim/cut.py") 523), (.int 143 0), (.int 2 0), (.int 0 0), (.int 0 0), (.int 3 0), (.ref 244), (.bool true), (.int 181 0), (.ref 245), .none, (.ref 246), (.ref 247), (.ref 248), (.int 526 0), (.int 143 0), (.str (.ofString "/claim/cut.py") 527)]), #[]⟩
noncomputable def o161 : Params → Obj := fun P => ⟨(.type "function"), none, (fn s_25 (.ofString "is_index_name") 3 .none .none .none (.str (.ofString "ledgerspeak.checker") 506) none (.ref 249) .none), #[]⟩
noncomputable def o162 : Params → Obj := fun P => ⟨(.type "tuple"), none, (.seq #[(.str (.ofString "data") 532), (.str (.ofString "ref") 533), (.str (.ofString "found") 534), (.str (.ofString "expr") 535)] 0), #[]⟩
noncomputable def o163 : Params → Obj := fun P => ⟨.none, none, (fn s_26 (.ofString "part_faults") 0 .none .none .none .none none .none .none), #[]⟩
noncomputable def o164 : Params → Obj := fun P => ⟨(.type "code"), none, (.fields #[(.str (.ofString "part_faults") 529), (.str (.ofString "part_faults") 530), (.str (.ofString "/claim/cut.py") 531), (.int 145 0), (.int 2 0), (.int 0 0), (.int 0 0), (.int 3 0), (.ref 251), (.bool true), (.int 181 0), (.ref 252), .none, (.ref 253), (.ref 254), (.ref 255), (.int 536 0), (.int 145 0), (.str (.ofString "/claim/cut.py") 537)]), #[]⟩
noncomputable def o165 : Params → Obj := fun P => ⟨(.type "function"), none, (fn s_26 (.ofString "part_faults") 3 .none .none .none (.str (.ofString "ledgerspeak.checker") 506) none (.ref 256) .none), #[]⟩
noncomputable def o166 : Params → Obj := fun P => ⟨(.type "tuple"), none, (.seq #[(.int 0 539)] 0), #[]⟩
noncomputable def o167 : Params → Obj := fun P => ⟨(.type "tuple"), none, (.seq #[(.str (.ofString "data") 543), (.str (.ofString "ref") 544), (.str (.ofString "less") 545), (.str (.ofString "item") 546), (.str (.ofString "fault") 547), (.str (.ofString "found") 548)] 0), #[]⟩
noncomputable def o168 : Params → Obj := fun P => ⟨.none, none, (fn s_27 (.ofString "ref_faults") 0 .none .none .none .none none .none .none), #[]⟩
noncomputable def o169 : Params → Obj := fun P => ⟨(.type "code"), none, (.fields #[(.str (.ofString "ref_faults") 540), (.str (.ofString "ref_faults") 541), (.str (.ofString "/claim/cut.py") 542), (.int 153 0), (.int 3 0), (.int 0 0), (.int 0 0), (.int 3 0), (.ref 259), (.bool true), (.int 181 0), (.ref 260), .none, (.ref 261), (.ref 262), (.ref 263), (.int 549 0), (.int 153 0), (.str (.ofString "/claim/cut.py") 550)]), #[]⟩
noncomputable def o170 : Params → Obj := fun P => ⟨(.type "function"), none, (fn s_27 (.ofString "ref_faults") 3 (.ref 258) .none .none (.str (.ofString "ledgerspeak.checker") 506) none (.ref 264) .none), #[]⟩
noncomputable def o171 : Params → Obj := fun P => ⟨(.type "tuple"), none, (.seq #[(.str (.ofString "data") 555), (.str (.ofString "operand") 556)] 0), #[]⟩
noncomputable def o172 : Params → Obj := fun P => ⟨.none, none, (fn s_28 (.ofString "operand_faults") 0 .none .none .none .none none .none .none), #[]⟩
noncomputable def o173 : Params → Obj := fun P => ⟨(.type "code"), none, (.fields #[(.str (.ofString "operand_faults") 552), (.str (.ofString "operand_faults") 553), (.str (.ofString "/claim/cut.py") 554), (.int 164 0), (.int 2 0), (.int 0 0), (.int 0 0), (.int 3 0), (.ref 266), (.bool true), (.int 181 0), (.ref 267), .none, (.ref 268), (.ref 269), (.ref 270), (.int 557 0), (.int 164 0), (.str (.ofString "/claim/cut.py") 558)]), #[]⟩
noncomputable def o174 : Params → Obj := fun P => ⟨(.type "function"), none, (fn s_28 (.ofString "operand_faults") 3 .none .none .none (.str (.ofString "ledgerspeak.checker") 506) none (.ref 271) .none), #[]⟩
noncomputable def o175 : Params → Obj := fun P => ⟨(.type "tuple"), none, (.seq #[(.str (.ofString "data") 563), (.str (.ofString "operand") 564), (.str (.ofString "item") 565)] 0), #[]⟩
noncomputable def o176 : Params → Obj := fun P => ⟨.none, none, (fn s_29 (.ofString "category_of") 0 .none .none .none .none none .none .none), #[]⟩
noncomputable def o177 : Params → Obj := fun P => ⟨(.type "code"), none, (.fields #[(.str (.ofString "category_of") 560), (.str (.ofString "category_of") 561), (.str (.ofString "/claim/cut.py") 562), (.int 166 0), (.int 2 0), (.int 0 0), (.int 0 0), (.int 3 0), (.ref 273), (.bool true), (.int 181 0), (.ref 274), .none, (.ref 275), (.ref 276), (.ref 277), (.int 566 0), (.int 166 0), (.str (.ofString "/claim/cut.py") 567)]), #[]⟩
noncomputable def o178 : Params → Obj := fun P => ⟨(.type "function"), none, (fn s_29 (.ofString "category_of") 3 .none .none .none (.str (.ofString "ledgerspeak.checker") 506) none (.ref 278) .none), #[]⟩
noncomputable def o179 : Params → Obj := fun P => ⟨(.type "tuple"), none, (.seq #[(.str (.ofString "data") 572), (.str (.ofString "operand") 573)] 0), #[]⟩
noncomputable def o180 : Params → Obj := fun P => ⟨.none, none, (fn s_30 (.ofString "is_number_operand") 0 .none .none .none .none none .none .none), #[]⟩
noncomputable def o181 : Params → Obj := fun P => ⟨(.type "code"), none, (.fields #[(.str (.ofString "is_number_operand") 569), (.str (.ofString "is_number_operand") 570), (.str (.ofString "/claim/cut.py") 571), (.int 177 0), (.int 2 0), (.int 0 0), (.int 0 0), (.int 3 0), (.ref 280), (.bool true), (.int 181 0), (.ref 281), .none, (.ref 282), (.ref 283), (.ref 284), (.int 574 0), (.int 177 0), (.str (.ofString "/claim/cut.py") 575)]), #[]⟩
noncomputable def o182 : Params → Obj := fun P => ⟨(.type "function"), none, (fn s_30 (.ofString "is_number_operand") 3 .none .none .none (.str (.ofString "ledgerspeak.checker") 506) none (.ref 285) .none), #[]⟩
noncomputable def o183 : Params → Obj := fun P => ⟨(.type "tuple"), none, (.seq #[(.str (.ofString "data") 580), (.str (.ofString "expr") 581), (.str (.ofString "found") 582)] 0), #[]⟩
noncomputable def o184 : Params → Obj := fun P => ⟨.none, none, (fn s_31 (.ofString "number_faults") 0 .none .none .none .none none .none .none), #[]⟩
noncomputable def o185 : Params → Obj := fun P => ⟨(.type "code"), none, (.fields #[(.str (.ofString "number_faults") 577), (.str (.ofString "number_faults") 578), (.str (.ofString "/claim/cut.py") 579), (.int 179 0), (.int 2 0), (.int 0 0), (.int 0 0), (.int 3 0), (.ref 287), (.bool true), (.int 181 0), (.ref 288), .none, (.ref 289), (.ref 290), (.ref 291), (.int 583 0), (.int 179 0), (.str (.ofString "/claim/cut.py") 584)]), #[]⟩
noncomputable def o186 : Params → Obj := fun P => ⟨(.type "function"), none, (fn s_31 (.ofString "number_faults") 3 .none .none .none (.str (.ofString "ledgerspeak.checker") 506) none (.ref 292) .none), #[]⟩
noncomputable def o187 : Params → Obj := fun P => ⟨(.type "tuple"), none, (.seq #[(.str (.ofString "operand") 589)] 0), #[]⟩
noncomputable def o188 : Params → Obj := fun P => ⟨.none, none, (fn s_32 (.ofString "name_of") 0 .none .none .none .none none .none .none), #[]⟩
noncomputable def o189 : Params → Obj := fun P => ⟨(.type "code"), none, (.fields #[(.str (.ofString "name_of") 586), (.str (.ofString "name_of") 587), (.str (.ofString "/claim/cut.py") 588), (.int 188 0), (.int 1 0), (.int 0 0), (.int 0 0), (.int 3 0), (.ref 294), (.bool true), (.int 181 0), (.ref 295), .none, (.ref 296), (.ref 297), (.ref 298), (.int 590 0), (.int 188 0), (.str (.ofString "/claim/cut.py") 591)]), #[]⟩
noncomputable def o190 : Params → Obj := fun P => ⟨(.type "function"), none, (fn s_32 (.ofString "name_of") 3 .none .none .none (.str (.ofString "ledgerspeak.checker") 506) none (.ref 299) .none), #[]⟩
noncomputable def o191 : Params → Obj := fun P => ⟨(.type "tuple"), none, (.seq #[(.str (.ofString "data") 596), (.str (.ofString "ref") 597), (.str (.ofString "categories") 598), (.str (.ofString "found") 599)] 0), #[]⟩
noncomputable def o192 : Params → Obj := fun P => ⟨.none, none, (fn s_33 (.ofString "place_faults") 0 .none .none .none .none none .none .none), #[]⟩
noncomputable def o193 : Params → Obj := fun P => ⟨(.type "code"), none, (.fields #[(.str (.ofString "place_faults") 593), (.str (.ofString "place_faults") 594), (.str (.ofString "/claim/cut.py") 595), (.int 192 0), (.int 3 0), (.int 0 0), (.int 0 0), (.int 3 0), (.ref 301), (.bool true), (.int 181 0), (.ref 302), .none, (.ref 303), (.ref 304), (.ref 305), (.int 600 0), (.int 192 0), (.str (.ofString "/claim/cut.py") 601)]), #[]⟩
noncomputable def o194 : Params → Obj := fun P => ⟨(.type "function"), none, (fn s_33 (.ofString "place_faults") 3 .none .none .none (.str (.ofString "ledgerspeak.checker") 506) none (.ref 306) .none), #[]⟩
noncomputable def o195 : Params → Obj := fun P => ⟨(.type "tuple"), none, (.seq #[(.str (.ofString "data") 606), (.str (.ofString "ref") 607)] 0), #[]⟩
noncomputable def o196 : Params → Obj := fun P => ⟨.none, none, (fn s_34 (.ofString "counter_faults") 0 .none .none .none .none none .none .none), #[]⟩
noncomputable def o197 : Params → Obj := fun P => ⟨(.type "code"), none, (.fields #[(.str (.ofString "counter_faults") 603), (.str (.ofString "counter_faults") 604), (.str (.ofString "/claim/cut.py") 605), (.int 197 0), (.int 2 0), (.int 0 0), (.int 0 0), (.int 3 0), (.ref 308), (.bool true), (.int 181 0), (.ref 309), .none, (.ref 310), (.ref 311), (.ref 312), (.int 608 0), (.int 197 0), (.str (.ofString "/claim/cut.py") 609)]), #[]⟩
noncomputable def o198 : Params → Obj := fun P => ⟨(.type "function"), none, (fn s_34 (.ofString "counter_faults") 3 .none .none .none (.str (.ofString "ledgerspeak.checker") 506) none (.ref 313) .none), #[]⟩
noncomputable def o199 : Params → Obj := fun P => ⟨(.type "tuple"), none, (.seq #[(.str (.ofString "data") 614), (.str (.ofString "expr") 615), (.str (.ofString "rows") 616), (.str (.ofString "found") 617), (.str (.ofString "ref") 618), (.str (.ofString "is_rounded") 619), (.str (.ofString "way") 620)] 0), #[]⟩
noncomputable def o200 : Params → Obj := fun P => ⟨.none, none, (fn s_35 (.ofString "arith_faults") 0 .none .none .none .none none .none .none), #[]⟩
noncomputable def o201 : Params → Obj := fun P => ⟨(.type "code"), none, (.fields #[(.str (.ofString "arith_faults") 611), (.str (.ofString "arith_faults") 612), (.str (.ofString "/claim/cut.py") 613), (.int 199 0), (.int 3 0), (.int 0 0), (.int 0 0), (.int 3 0), (.ref 315), (.bool true), (.int 181 0), (.ref 316), .none, (.ref 317), (.ref 318), (.ref 319), (.int 621 0), (.int 199 0), (.str (.ofString "/claim/cut.py") 622)]), #[]⟩
noncomputable def o202 : Params → Obj := fun P => ⟨(.type "function"), none, (fn s_35 (.ofString "arith_faults") 3 .none .none .none (.str (.ofString "ledgerspeak.checker") 506) none (.ref 320) .none), #[]⟩
noncomputable def o203 : Params → Obj := fun P => ⟨(.type "dict"), none, (.dict (List.toArray (⟨PyData.keyHash P (.ofString "__name__"), (.str (.ofString "__name__") 165), (.str (.ofString "law_og0093_01") 691)⟩ :: ⟨PyData.keyHash P (.ofString "__doc__"), (.str (.ofString "__doc__") 166), .none⟩ :: ⟨PyData.keyHash P (.ofString "__package__"), (.str (.ofString "__package__") 167), .none⟩ :: ⟨PyData.keyHash P (.ofString "__loader__"), (.str (.ofString "__loader__") 168), (.builtin "__main__.__loader__#opaque")⟩ :: ⟨PyData.keyHash P (.ofString "__spec__"), (.str (.ofString "__spec__") 169), .none⟩ :: ⟨PyData.keyHash P (.ofString "__annotations__"), (.str (.ofString "__annotations__") 170), (.ref 6)⟩ :: ⟨PyData.keyHash P (.ofString "__builtins__"), (.str (.ofString "__builtins__") 171), (.ref 4)⟩ :: ⟨PyData.keyHash P (.ofString "__file__"), (.str (.ofString "__file__") 173), (.str (.ofString "/claim/cut.py") 172)⟩ :: ⟨PyData.keyHash P (.ofString "__cached__"), (.str (.ofString "__cached__") 174), .none⟩ :: ⟨PyData.keyHash P (.ofString "_wall"), (.str (.ofString "_wall") 193), (.ref 21)⟩ :: ⟨PyData.keyHash P (.ofString "LedgerError"), (.str (.ofString "LedgerError") 235), (.ref 47)⟩ :: ⟨PyData.keyHash P (.ofString "CheckFault"), (.str (.ofString "CheckFault") 251), (.ref 60)⟩ :: ⟨PyData.keyHash P (.ofString "FILLER"), (.str (.ofString "FILLER") 255), (.str (.ofString "FILLER") 254)⟩ :: ⟨PyData.keyHash P (.ofString "Occurs"), (.str (.ofString "Occurs") 299), (.ref 89)⟩ :: ⟨PyData.keyHash P (.ofString "Item"), (.str (.ofString "Item") 377), (.ref 136)⟩ :: ⟨PyData.keyHash P (.ofString "Data"), (.str (.ofString "Data") 416), (.ref 162)⟩ :: ⟨PyData.keyHash P (.ofString "records"), (.str (.ofString "records") 425), (.ref 173)⟩ :: ⟨PyData.keyHash P (.ofString "items_under"), (.str (.ofString "items_under") 435), (.ref 180)⟩ :: ⟨PyData.keyHash P (.ofString "all_items"), (.str (.ofString "all_items") 444), (.ref 187)⟩ :: ⟨PyData.keyHash P (.ofString "items_around"), (.str (.ofString "items_around") 453), (.ref 194)⟩ :: ⟨PyData.keyHash P (.ofString "root_of"), (.str (.ofString "root_of") 461), (.ref 201)⟩ :: ⟨PyData.keyHash P (.ofString "names_around"), (.str (.ofString "names_around") 467), (.ref 206)⟩ :: ⟨PyData.keyHash P (.ofString "tables_around"), (.str (.ofString "tables_around") 473), (.ref 211)⟩ :: ⟨PyData.keyHash P (.ofString "file_of"), (.str (.ofString "file_of") 481), (.ref 216)⟩ :: ⟨PyData.keyHash P (.ofString "leads_through"), (.str (.ofString "leads_through") 491), (.ref 223)⟩ :: ⟨PyData.keyHash P (.ofString "only_one"), (.str (.ofString "only_one") 499), (.ref 230)⟩ :: ⟨PyData.keyHash P (.ofString "find_item"), (.str (.ofString "find_item") 505), (.ref 235)⟩ :: ⟨PyData.keyHash P (.ofString "ARITHMETIC"), (.str (.ofString "ARITHMETIC") 509), (.str (.ofString "+ - * / **") 508)⟩ :: ⟨PyData.keyHash P (.ofString "NUMBER_PLACES"), (.str (.ofString "NUMBER_PLACES") 512), (.ref 236)⟩ :: ⟨PyData.keyHash P (.ofString "item_of"), (.str (.ofString "item_of") 520), (.ref 243)⟩ :: ⟨PyData.keyHash P (.ofString "is_index_name"), (.str (.ofString "is_index_name") 528), (.ref 250)⟩ :: ⟨PyData.keyHash P (.ofString "part_faults"), (.str (.ofString "part_faults") 538), (.ref 257)⟩ :: ⟨PyData.keyHash P (.ofString "ref_faults"), (.str (.ofString "ref_faults") 551), (.ref 265)⟩ :: ⟨PyData.keyHash P (.ofString "operand_faults"), (.str (.ofString "operand_faults") 559), (.ref 272)⟩ :: ⟨PyData.keyHash P (.ofString "category_of"), (.str (.ofString "category_of") 568), (.ref 279)⟩ :: ⟨PyData.keyHash P (.ofString "is_number_operand"), (.str (.ofString "is_number_operand") 576), (.ref 286)⟩ :: ⟨PyData.keyHash P (.ofString "number_faults"), (.str (.ofString "number_faults") 585), (.ref 293)⟩ :: ⟨PyData.keyHash P (.ofString "name_of"), (.str (.ofString "name_of") 592), (.ref 300)⟩ :: ⟨PyData.keyHash P (.ofString "place_faults"), (.str (.ofString "place_faults") 602), (.ref 307)⟩ :: ⟨PyData.keyHash P (.ofString "counter_faults"), (.str (.ofString "counter_faults") 610), (.ref 314)⟩ :: ⟨PyData.keyHash P (.ofString "arith_faults"), (.str (.ofString "arith_faults") 623), (.ref 321)⟩ :: ⟨PyData.keyHash P (.ofString "Shape"), (.str (.ofString "Shape") 690), (.ref 353)⟩ :: ⟨PyData.keyHash P (.ofString "_law_RIGHT"), (.str (.ofString "_law_RIGHT") 697), (.ref 358)⟩ :: ⟨PyData.keyHash P (.ofString "_law_SORTS"), (.str (.ofString "_law_SORTS") 703), (.ref 365)⟩ :: ⟨PyData.keyHash P (.ofString "_law_draw"), (.str (.ofString "_law_draw") 713), (.ref 372)⟩ :: ⟨PyData.keyHash P (.ofString "_law_leaf"), (.str (.ofString "_law_leaf") 725), (.ref 380)⟩ :: ⟨PyData.keyHash P (.ofString "_law_data"), (.str (.ofString "_law_data") 739), (.ref 387)⟩ :: ⟨PyData.keyHash P (.ofString "_law_ref"), (.str (.ofString "_law_ref") 749), (.ref 397)⟩ :: ⟨PyData.keyHash P (.ofString "_law_leafs"), (.str (.ofString "_law_leafs") 760), (.ref 404)⟩ :: ⟨PyData.keyHash P (.ofString "_law_tree"), (.str (.ofString "_law_tree") 773), (.ref 411)⟩ :: ⟨PyData.keyHash P (.ofString "law"), (.str (.ofString "law") 779), (.ref 416)⟩ :: [])) 51), #[]⟩
noncomputable def o204 : Params → Obj := fun P => ⟨.none, none, (.fields (List.toArray ((.int 1 0) :: (.int 0 0) :: (.ref 20) :: (.int 5 0) :: (.int 0 0) :: (.ref 27) :: (.int 14 0) :: (.int 0 0) :: (.ref 56) :: (.int 18 0) :: (.int 0 0) :: (.ref 68) :: (.int 29 0) :: (.int 0 0) :: (.ref 99) :: (.int 67 0) :: (.int 0 0) :: (.ref 146) :: (.int 80 0) :: (.int 0 0) :: (.ref 172) :: (.int 85 0) :: (.int 0 0) :: (.ref 179) :: (.int 93 0) :: (.int 0 0) :: (.ref 186) :: (.int 98 0) :: (.int 0 0) :: (.ref 193) :: (.int 105 0) :: (.int 0 0) :: (.ref 200) :: (.int 108 0) :: (.int 0 0) :: (.ref 205) :: (.int 110 0) :: (.int 0 0) :: (.ref 210) :: (.int 114 0) :: (.int 0 0) :: (.ref 215) :: (.int 120 0) :: (.int 0 0) :: (.ref 222) :: (.int 126 0) :: (.int 0 0) :: (.ref 229) :: (.int 132 0) :: (.int 0 0) :: (.ref 234) :: (.int 138 0) :: (.int 0 0) :: (.ref 242) :: (.int 143 0) :: (.int 0 0) :: (.ref 249) :: (.int 145 0) :: (.int 0 0) :: (.ref 256) :: (.int 153 0) :: (.int 0 0) :: (.ref 264) :: (.int 164 0) :: (.int 0 0) :: (.ref 271) :: (.int 166 0) :: (.int 0 0) :: (.ref 278) :: (.int 177 0) :: (.int 0 0) :: (.ref 285) :: (.int 179 0) :: (.int 0 0) :: (.ref 292) :: (.int 188 0) :: (.int 0 0) :: (.ref 299) :: (.int 192 0) :: (.int 0 0) :: (.ref 306) :: (.int 197 0) :: (.int 0 0) :: (.ref 313) :: (.int 199 0) :: (.int 0 0) :: (.ref 320) :: (.int 205 0) :: (.int 0 0) :: (.ref 327) :: (.int 234 0) :: (.int 0 0) :: (.ref 364) :: (.int 236 0) :: (.int 0 0) :: (.ref 371) :: (.int 241 0) :: (.int 0 0) :: (.ref 379) :: (.int 248 0) :: (.int 0 0) :: (.ref 386) :: (.int 266 0) :: (.int 0 0) :: (.ref 396) :: (.int 268 0) :: (.int 0 0) :: (.ref 403) :: (.int 286 0) :: (.int 0 0) :: (.ref 410) :: (.int 295 0) :: (.int 0 0) :: (.ref 415) :: []))), #[]⟩
noncomputable def o205 : Params → Obj := fun P => ⟨(.type "dict"), none, (.dict #[⟨PyData.keyHash P (.ofString "__module__"), (.str (.ofString "__module__") 633), (.str (.ofString "ledgerspeak.shapes") 624)⟩, ⟨PyData.keyHash P (.ofString "__qualname__"), (.str (.ofString "__qualname__") 635), (.str (.ofString "Shape") 634)⟩, ⟨PyData.keyHash P (.ofString "__firstlineno__"), (.str (.ofString "__firstlineno__") 637), (.int 205 636)⟩, ⟨PyData.keyHash P (.ofString "__init__"), (.str (.ofString "__init__") 654), (.ref 336)⟩, ⟨PyData.keyHash P (.ofString "told"), (.str (.ofString "told") 664), (.ref 343)⟩, ⟨PyData.keyHash P (.ofString "sign_place"), (.str (.ofString "sign_place") 671), (.ref 350)⟩, ⟨PyData.keyHash P (.ofString "__static_attributes__"), (.str (.ofString "__static_attributes__") 683), (.ref 351)⟩] 7), #[]⟩
noncomputable def o206 : Params → Obj := fun P => ⟨.none, none, (.fields #[(.int 207 0), (.int 4 0), (.ref 335), (.int 224 0), (.int 4 0), (.ref 342), (.int 230 0), (.int 4 0), (.ref 349)]), #[]⟩
noncomputable def o207 : Params → Obj := fun P => ⟨(.type "code"), none, (.fields #[(.str (.ofString "Shape") 628), (.str (.ofString "Shape") 629), (.str (.ofString "/claim/cut.py") 630), (.int 205 0), (.int 0 0), (.int 0 0), (.int 0 0), (.int 0 0), (.ref 325), (.bool false), (.int 181 0), (.ref 326), .none, .none, .none, .none, (.int 631 0), (.int 205 0), (.str (.ofString "/claim/cut.py") 632)]), #[]⟩
noncomputable def o208 : Params → Obj := fun P => ⟨(.type "frame"), none, .plain, #[(some (.ref 327)), (some (.ref 3)), (some (.ref 324)), none, (some (.str (.ofString "ledgerspeak.shapes") 624)), none, (some (.ref 0))]⟩
noncomputable def o209 : Params → Obj := fun P => ⟨(.type "tuple"), none, (.seq #[.none, (.str (.ofString "display") 638), (.str (.ofString "trailing") 639), (.bool false), (.bool false), (.bool false)] 0), #[]⟩
noncomputable def o210 : Params → Obj := fun P => ⟨(.type "tuple"), none, (.seq #[(.str (.ofString "self") 643), (.str (.ofString "category") 644), (.str (.ofString "size") 645), (.str (.ofString "picture") 646), (.str (.ofString "usage") 647), (.str (.ofString "sign") 648), (.str (.ofString "is_separate") 649), (.str (.ofString "is_justified") 650), (.str (.ofString "is_blank_zero") 651)] 0), #[]⟩
noncomputable def o211 : Params → Obj := fun P => ⟨.none, none, (fn m_37_0 (.ofString "Shape.__init__") 0 .none .none .none .none none .none .none), #[]⟩
noncomputable def o212 : Params → Obj := fun P => ⟨(.type "code"), none, (.fields #[(.str (.ofString "__init__") 640), (.str (.ofString "Shape.__init__") 641), (.str (.ofString "/claim/cut.py") 642), (.int 207 0), (.int 9 0), (.int 0 0), (.int 0 0), (.int 3 0), (.ref 330), (.bool true), (.int 181 0), (.ref 331), .none, (.ref 332), (.ref 333), (.ref 334), (.int 652 0), (.int 207 0), (.str (.ofString "/claim/cut.py") 653)]), #[]⟩
noncomputable def o213 : Params → Obj := fun P => ⟨(.type "function"), none, (fn m_37_0 (.ofString "Shape.__init__") 3 (.ref 329) .none .none (.str (.ofString "ledgerspeak.shapes") 624) none (.ref 335) .none), #[]⟩
noncomputable def o214 : Params → Obj := fun P => ⟨(.type "tuple"), none, (.seq #[(.str (.ofString "self") 658), (.str (.ofString "clauses") 659), (.str (.ofString "number") 660), (.str (.ofString "picture") 661)] 0), #[]⟩
noncomputable def o215 : Params → Obj := fun P => ⟨.none, none, (fn m_37_1 (.ofString "Shape.told") 0 .none .none .none .none none .none .none), #[]⟩
noncomputable def o216 : Params → Obj := fun P => ⟨(.type "code"), none, (.fields #[(.str (.ofString "told") 655), (.str (.ofString "Shape.told") 656), (.str (.ofString "/claim/cut.py") 657), (.int 224 0), (.int 1 0), (.int 0 0), (.int 0 0), (.int 3 0), (.ref 337), (.bool true), (.int 181 0), (.ref 338), .none, (.ref 339), (.ref 340), (.ref 341), (.int 662 0), (.int 224 0), (.str (.ofString "/claim/cut.py") 663)]), #[]⟩
noncomputable def o217 : Params → Obj := fun P => ⟨(.type "function"), none, (fn m_37_1 (.ofString "Shape.told") 3 .none .none .none (.str (.ofString "ledgerspeak.shapes") 624) none (.ref 342) .none), #[]⟩
noncomputable def o218 : Params → Obj := fun P => ⟨(.type "tuple"), none, (.seq #[(.str (.ofString "self") 668)] 0), #[]⟩
noncomputable def o219 : Params → Obj := fun P => ⟨.none, none, (fn m_37_2 (.ofString "Shape.sign_place") 0 .none .none .none .none none .none .none), #[]⟩
noncomputable def o220 : Params → Obj := fun P => ⟨(.type "code"), none, (.fields #[(.str (.ofString "sign_place") 665), (.str (.ofString "Shape.sign_place") 666), (.str (.ofString "/claim/cut.py") 667), (.int 230 0), (.int 1 0), (.int 0 0), (.int 0 0), (.int 3 0), (.ref 344), (.bool true), (.int 181 0), (.ref 345), .none, (.ref 346), (.ref 347), (.ref 348), (.int 669 0), (.int 230 0), (.str (.ofString "/claim/cut.py") 670)]), #[]⟩
noncomputable def o221 : Params → Obj := fun P => ⟨(.type "function"), none, (fn m_37_2 (.ofString "Shape.sign_place") 3 .none .none .none (.str (.ofString "ledgerspeak.shapes") 624) none (.ref 349) .none), #[]⟩
noncomputable def o222 : Params → Obj := fun P => ⟨(.type "tuple"), none, (.seq #[(.str (.ofString "category") 672), (.str (.ofString "digits") 673), (.str (.ofString "is_blank_zero") 674), (.str (.ofString "is_justified") 675), (.str (.ofString "is_separate") 676), (.str (.ofString "is_signed") 677), (.str (.ofString "picture") 678), (.str (.ofString "scale") 679), (.str (.ofString "sign") 680), (.str (.ofString "size") 681), (.str (.ofString "usage") 682)] 0), #[]⟩
noncomputable def o223 : Params → Obj := fun P => ⟨(.type "dict"), none, (.dict #[⟨PyData.keyHash P (.ofString "__module__"), (.str (.ofString "__module__") 633), (.str (.ofString "ledgerspeak.shapes") 624)⟩, ⟨PyData.keyHash P (.ofString "__firstlineno__"), (.str (.ofString "__firstlineno__") 637), (.int 205 636)⟩, ⟨PyData.keyHash P (.ofString "__init__"), (.str (.ofString "__init__") 654), (.ref 336)⟩, ⟨PyData.keyHash P (.ofString "told"), (.str (.ofString "told") 664), (.ref 343)⟩, ⟨PyData.keyHash P (.ofString "sign_place"), (.str (.ofString "sign_place") 671), (.ref 350)⟩, ⟨PyData.keyHash P (.ofString "__static_attributes__"), (.str (.ofString "__static_attributes__") 683), (.ref 351)⟩, ⟨PyData.keyHash P (.ofString "__dict__"), (.str (.ofString "__dict__") 685), (.ref 354)⟩, ⟨PyData.keyHash P (.ofString "__weakref__"), (.str (.ofString "__weakref__") 687), (.ref 355)⟩, ⟨PyData.keyHash P (.ofString "__doc__"), (.str (.ofString "__doc__") 688), .none⟩] 4), #[]⟩
noncomputable def o224 : Params → Obj := fun P => ⟨(.type "type"), none, (.cls ⟨(.ofString "Shape"), [(.type "object")], [(.ref 353), (.type "object")], 352, (.ofString "Shape"), true, [], [], false, none, false⟩), #[none, none, (some (.str (.ofString "Shape") 626)), (some (.str (.ofString "Shape") 634)), (some (.builtin "object.__new__")), (some (.bool true))]⟩
noncomputable def o225 : Params → Obj := fun P => ⟨(.type "getset_descriptor"), none, (.fields #[(.str (.ofString "__dict__") 684), (.ref 353), (.builtin "function.__dict__"), (.builtin "function.__dict__#set")]), #[]⟩
noncomputable def o226 : Params → Obj := fun P => ⟨(.type "getset_descriptor"), none, (.fields #[(.str (.ofString "__weakref__") 686), (.ref 353), (.builtin "ExceptionGroup.__weakref__"), .none]), #[]⟩
noncomputable def o227 : Params → Obj := fun P => ⟨(.type "super"), none, (.fields #[(.ref 353), (.ref 353), (.ref 353)]), #[]⟩
noncomputable def o228 : Params → Obj := fun P => ⟨(.type "builtin_function_or_method"), none, (.fields #[(.builtin "object.__init_subclass__"), (.ref 353)]), #[]⟩
noncomputable def o229 : Params → Obj := fun P => ⟨(.type "tuple"), none, (.seq #[(.str (.ofString "NU") 693), (.str (.ofString "IX") 694), (.str (.ofString "T-I") 695), (.str (.ofString "U-I") 696)] 0), #[]⟩
noncomputable def o230 : Params → Obj := fun P => ⟨.none, none, (fn s_40 (.ofString "_law_SORTS") 0 .none .none .none .none none .none .none), #[]⟩
noncomputable def o231 : Params → Obj := fun P => ⟨(.type "code"), none, (.fields #[(.str (.ofString "_law_SORTS") 698), (.str (.ofString "_law_SORTS") 699), (.str (.ofString "/claim/cut.py") 700), (.int 234 0), (.int 0 0), (.int 0 0), (.int 0 0), (.int 3 0), (.ref 359), (.bool true), (.int 181 0), (.ref 360), .none, (.ref 361), (.ref 362), (.ref 363), (.int 701 0), (.int 234 0), (.str (.ofString "/claim/cut.py") 702)]), #[]⟩
noncomputable def o232 : Params → Obj := fun P => ⟨(.type "function"), none, (fn s_40 (.ofString "_law_SORTS") 3 .none .none .none (.str (.ofString "law_og0093_01") 691) none (.ref 364) .none), #[]⟩
noncomputable def o233 : Params → Obj := fun P => ⟨(.type "tuple"), none, (.seq #[(.str (.ofString "source") 707), (.str (.ofString "limit") 708), (.str (.ofString "cells") 709), (.str (.ofString "at") 710)] 0), #[]⟩
noncomputable def o234 : Params → Obj := fun P => ⟨.none, none, (fn s_41 (.ofString "_law_draw") 0 .none .none .none .none none .none .none), #[]⟩
noncomputable def o235 : Params → Obj := fun P => ⟨(.type "code"), none, (.fields #[(.str (.ofString "_law_draw") 704), (.str (.ofString "_law_draw") 705), (.str (.ofString "/claim/cut.py") 706), (.int 236 0), (.int 2 0), (.int 0 0), (.int 0 0), (.int 3 0), (.ref 366), (.bool true), (.int 181 0), (.ref 367), .none, (.ref 368), (.ref 369), (.ref 370), (.int 711 0), (.int 236 0), (.str (.ofString "/claim/cut.py") 712)]), #[]⟩
noncomputable def o236 : Params → Obj := fun P => ⟨(.type "function"), none, (fn s_41 (.ofString "_law_draw") 3 .none .none .none (.str (.ofString "law_og0093_01") 691) none (.ref 371) .none), #[]⟩
noncomputable def o237 : Params → Obj := fun P => ⟨(.type "tuple"), none, (.seq #[(.int 1 714)] 0), #[]⟩
noncomputable def o238 : Params → Obj := fun P => ⟨(.type "tuple"), none, (.seq #[(.str (.ofString "above") 718), (.str (.ofString "name") 719), (.str (.ofString "category") 720), (.str (.ofString "often") 721), (.str (.ofString "item") 722)] 0), #[]⟩
noncomputable def o239 : Params → Obj := fun P => ⟨.none, none, (fn s_42 (.ofString "_law_leaf") 0 .none .none .none .none none .none .none), #[]⟩
noncomputable def o240 : Params → Obj := fun P => ⟨(.type "code"), none, (.fields #[(.str (.ofString "_law_leaf") 715), (.str (.ofString "_law_leaf") 716), (.str (.ofString "/claim/cut.py") 717), (.int 241 0), (.int 4 0), (.int 0 0), (.int 0 0), (.int 3 0), (.ref 374), (.bool true), (.int 181 0), (.ref 375), .none, (.ref 376), (.ref 377), (.ref 378), (.int 723 0), (.int 241 0), (.str (.ofString "/claim/cut.py") 724)]), #[]⟩
noncomputable def o241 : Params → Obj := fun P => ⟨(.type "function"), none, (fn s_42 (.ofString "_law_leaf") 3 (.ref 373) .none .none (.str (.ofString "law_og0093_01") 691) none (.ref 379) .none), #[]⟩
noncomputable def o242 : Params → Obj := fun P => ⟨(.type "tuple"), none, (.seq #[(.str (.ofString "data") 729), (.str (.ofString "root") 730), (.str (.ofString "name") 731), (.str (.ofString "category") 732), (.str (.ofString "table") 733), (.str (.ofString "inner") 734), (.str (.ofString "turn") 735), (.str (.ofString "other") 736)] 0), #[]⟩
noncomputable def o243 : Params → Obj := fun P => ⟨.none, none, (fn s_43 (.ofString "_law_data") 0 .none .none .none .none none .none .none), #[]⟩
noncomputable def o244 : Params → Obj := fun P => ⟨(.type "code"), none, (.fields #[(.str (.ofString "_law_data") 726), (.str (.ofString "_law_data") 727), (.str (.ofString "/claim/cut.py") 728), (.int 248 0), (.int 0 0), (.int 0 0), (.int 0 0), (.int 3 0), (.ref 381), (.bool true), (.int 181 0), (.ref 382), .none, (.ref 383), (.ref 384), (.ref 385), (.int 737 0), (.int 248 0), (.str (.ofString "/claim/cut.py") 738)]), #[]⟩
noncomputable def o245 : Params → Obj := fun P => ⟨(.type "function"), none, (fn s_43 (.ofString "_law_data") 3 .none .none .none (.str (.ofString "law_og0093_01") 691) none (.ref 386) .none), #[]⟩
noncomputable def o246 : Params → Obj := fun P => ⟨(.type "tuple"), none, (.seq #[(.ref 388), .none, (.ref 389)] 0), #[]⟩
noncomputable def o247 : Params → Obj := fun P => ⟨(.type "tuple"), none, (.seq #[(.str (.ofString "name") 743), (.str (.ofString "subscripts") 744), (.str (.ofString "part") 745), (.str (.ofString "qualifiers") 746)] 0), #[]⟩
noncomputable def o248 : Params → Obj := fun P => ⟨.none, none, (fn s_44 (.ofString "_law_ref") 0 .none .none .none .none none .none .none), #[]⟩
noncomputable def o249 : Params → Obj := fun P => ⟨(.type "code"), none, (.fields #[(.str (.ofString "_law_ref") 740), (.str (.ofString "_law_ref") 741), (.str (.ofString "/claim/cut.py") 742), (.int 266 0), (.int 4 0), (.int 0 0), (.int 0 0), (.int 3 0), (.ref 391), (.bool true), (.int 181 0), (.ref 392), .none, (.ref 393), (.ref 394), (.ref 395), (.int 747 0), (.int 266 0), (.str (.ofString "/claim/cut.py") 748)]), #[]⟩
noncomputable def o250 : Params → Obj := fun P => ⟨(.type "function"), none, (fn s_44 (.ofString "_law_ref") 3 (.ref 390) .none .none (.str (.ofString "law_og0093_01") 691) none (.ref 396) .none), #[]⟩
noncomputable def o251 : Params → Obj := fun P => ⟨(.type "tuple"), none, (.seq #[(.str (.ofString "source") 753), (.str (.ofString "way") 754), (.str (.ofString "name") 755), (.str (.ofString "inner") 756), (.str (.ofString "faults") 757)] 0), #[]⟩
noncomputable def o252 : Params → Obj := fun P => ⟨.none, none, (fn s_45 (.ofString "_law_leafs") 0 .none .none .none .none none .none .none), #[]⟩
noncomputable def o253 : Params → Obj := fun P => ⟨(.type "code"), none, (.fields #[(.str (.ofString "_law_leafs") 750), (.str (.ofString "_law_leafs") 751), (.str (.ofString "/claim/cut.py") 752), (.int 268 0), (.int 1 0), (.int 0 0), (.int 0 0), (.int 3 0), (.ref 398), (.bool true), (.int 181 0), (.ref 399), .none, (.ref 400), (.ref 401), (.ref 402), (.int 758 0), (.int 268 0), (.str (.ofString "/claim/cut.py") 759)]), #[]⟩
noncomputable def o254 : Params → Obj := fun P => ⟨(.type "function"), none, (fn s_45 (.ofString "_law_leafs") 3 .none .none .none (.str (.ofString "law_og0093_01") 691) none (.ref 403) .none), #[]⟩
noncomputable def o255 : Params → Obj := fun P => ⟨(.type "tuple"), none, (.seq #[(.str (.ofString "source") 764), (.str (.ofString "depth") 765), (.str (.ofString "way") 766), (.str (.ofString "one") 767), (.str (.ofString "faults") 768), (.str (.ofString "other") 769), (.str (.ofString "more") 770)] 0), #[]⟩
noncomputable def o256 : Params → Obj := fun P => ⟨.none, none, (fn s_46 (.ofString "_law_tree") 0 .none .none .none .none none .none .none), #[]⟩
noncomputable def o257 : Params → Obj := fun P => ⟨(.type "code"), none, (.fields #[(.str (.ofString "_law_tree") 761), (.str (.ofString "_law_tree") 762), (.str (.ofString "/claim/cut.py") 763), (.int 286 0), (.int 2 0), (.int 0 0), (.int 0 0), (.int 3 0), (.ref 405), (.bool true), (.int 181 0), (.ref 406), .none, (.ref 407), (.ref 408), (.ref 409), (.int 771 0), (.int 286 0), (.str (.ofString "/claim/cut.py") 772)]), #[]⟩
noncomputable def o258 : Params → Obj := fun P => ⟨(.type "function"), none, (fn s_46 (.ofString "_law_tree") 3 .none .none .none (.str (.ofString "law_og0093_01") 691) none (.ref 410) .none), #[]⟩
noncomputable def o259 : Params → Obj := fun P => ⟨.none, none, (fn s_47 (.ofString "law") 0 .none .none .none .none none .none .none), #[]⟩
noncomputable def o260 : Params → Obj := fun P => ⟨(.type "code"), none, (.fields #[(.str (.ofString "law") 774), (.str (.ofString "law") 775), (.str (.ofString "/claim/cut.py") 776), (.int 295 0), (.int 1 0), (.int 0 0), (.int 0 0), (.int 3 0), (.ref 412), (.bool true), (.int 181 0), (.ref 413), .none, .none, .none, (.ref 414), (.int 777 0), (.int 295 0), (.str (.ofString "/claim/cut.py") 778)]), #[]⟩
noncomputable def o261 : Params → Obj := fun P => ⟨(.type "function"), none, (fn s_47 (.ofString "law") 3 .none .none .none (.str (.ofString "law_og0093_01") 691) none (.ref 415) .none), #[]⟩
noncomputable def HA : Params → Heap := fun P => ⟨Array.mk [boot_o_0 P, boot_o_1 P, boot_o_2 P, boot_o_3 P, boot_o_4 P, boot_o_5 P, boot_o_6 P, boot_o_7 P, boot_o_8 P, boot_o_9 P, boot_o_10 P, boot_o_7 P, boot_o_8 P, o0 P, o1 P], {}⟩
noncomputable def lf (o : Obj) : BT := .node o .nil .nil
noncomputable def TB : Params → BT := fun P => .node (boot_o_0 P) (.node (boot_o_1 P) (.node (boot_o_3 P) (lf (boot_o_7 P)) (lf (boot_o_7 P))) (.node (boot_o_5 P) (lf (boot_o_9 P)) (lf (o0 P)))) (.node (boot_o_2 P) (.node (boot_o_4 P) (lf (boot_o_8 P)) (lf (boot_o_8 P))) (.node (boot_o_6 P) (lf (boot_o_10 P)) (lf (o1 P))))
noncomputable def TC0 : Params → BT := fun P => .node (boot_o_0 P) (.node (boot_o_1 P) (.node (o3 P) (.node (boot_o_7 P) (.node (boot_o_7 P) (lf (boot_o_7 P)) (lf (o27 P))) (.node (o10 P) (lf (boot_o_8 P)) (lf (boot_o_8 P)))) (.node (boot_o_7 P) (.node (o6 P) (lf (o18 P)) (lf (o31 P))) (.node (o13 P) (lf (o23 P)) (lf (o35 P))))) (.node (boot_o_5 P) (.node (boot_o_9 P) (.node (o5 P) (lf (o17 P)) (lf (o29 P))) (.node (boot_o_7 P) (lf (boot_o_7 P)) (lf (o34 P)))) (.node (o0 P) (.node (o8 P) (lf (o20 P)) (lf (o32 P))) (.node (o15 P) (lf (o25 P)) (lf (o37 P)))))) (.node (o2 P) (.node (boot_o_4 P) (.node (boot_o_8 P) (.node (boot_o_8 P) (lf (boot_o_8 P)) (lf (o28 P))) (.node (o11 P) (lf (o21 P)) (lf (o33 P)))) (.node (o4 P) (.node (o7 P) (lf (o19 P)) (lf (o10 P))) (.node (o14 P) (lf (o24 P)) (lf (o36 P))))) (.node (boot_o_6 P) (.node (boot_o_10 P) (.node (boot_o_7 P) (lf (boot_o_7 P)) (lf (o30 P))) (.node (o12 P) (lf (o22 P)) (lf (boot_o_7 P)))) (.node (o1 P) (.node (o9 P) (lf (boot_o_7 P)) (lf (boot_o_7 P))) (.node (o16 P) (lf (o26 P)) (lf (o38 P))))))
noncomputable def TC1 : Params → BT := fun P => .node (boot_o_0 P) (.node (boot_o_1 P) (.node (o39 P) (.node (boot_o_7 P) (.node (boot_o_7 P) (.node (boot_o_7 P) (.node (boot_o_7 P) (lf (o79 P)) .nil) (lf (o10 P))) (.node (o27 P) (lf (o49 P)) (lf (boot_o_7 P)))) (.node (o10 P) (.node (boot_o_8 P) (.node (boot_o_7 P) (lf (o85 P)) .nil) (lf (o65 P))) (.node (boot_o_8 P) (lf (o54 P)) (lf (o74 P))))) (.node (boot_o_7 P) (.node (o6 P) (.node (o18 P) (.node (o42 P) (lf (o81 P)) .nil) (lf (o63 P))) (.node (o31 P) (lf (boot_o_7 P)) (lf (boot_o_7 P)))) (.node (o13 P) (.node (o23 P) (.node (o46 P) (lf (o89 P)) .nil) (lf (o68 P))) (.node (o35 P) (lf (o58 P)) (lf (boot_o_8 P)))))) (.node (boot_o_5 P) (.node (boot_o_9 P) (.node (o5 P) (.node (o17 P) (.node (o41 P) (lf (boot_o_7 P)) .nil) (lf (boot_o_7 P))) (.node (o29 P) (lf (boot_o_8 P)) (lf (o71 P)))) (.node (boot_o_7 P) (.node (boot_o_7 P) (.node (boot_o_7 P) (lf (o87 P)) .nil) (lf (o66 P))) (.node (o34 P) (lf (o56 P)) (lf (o76 P))))) (.node (o0 P) (.node (o8 P) (.node (o20 P) (.node (o44 P) (lf (o83 P)) .nil) (lf (boot_o_7 P))) (.node (o32 P) (lf (o52 P)) (lf (o73 P)))) (.node (o15 P) (.node (o25 P) (lf (o47 P)) (lf (boot_o_8 P))) (.node (o37 P) (lf (o60 P)) (lf (boot_o_7 P))))))) (.node (o2 P) (.node (boot_o_4 P) (.node (boot_o_8 P) (.node (boot_o_8 P) (.node (boot_o_8 P) (.node (o10 P) (lf (o80 P)) .nil) (lf (o61 P))) (.node (o28 P) (lf (boot_o_7 P)) (lf (o70 P)))) (.node (o11 P) (.node (o21 P) (.node (o45 P) (lf (o86 P)) .nil) (lf (boot_o_7 P))) (.node (o33 P) (lf (o55 P)) (lf (o75 P))))) (.node (o40 P) (.node (o7 P) (.node (o19 P) (.node (o43 P) (lf (o82 P)) .nil) (lf (o64 P))) (.node (o10 P) (lf (o51 P)) (lf (boot_o_8 P)))) (.node (o14 P) (.node (o24 P) (.node (boot_o_7 P) (lf (o90 P)) .nil) (lf (boot_o_7 P))) (.node (o36 P) (lf (o59 P)) (lf (o77 P)))))) (.node (boot_o_6 P) (.node (boot_o_10 P) (.node (boot_o_7 P) (.node (boot_o_7 P) (.node (boot_o_7 P) (lf (boot_o_8 P)) .nil) (lf (o62 P))) (.node (o30 P) (lf (o50 P)) (lf (o72 P)))) (.node (o12 P) (.node (o22 P) (.node (boot_o_8 P) (lf (o88 P)) .nil) (lf (o67 P))) (.node (boot_o_7 P) (lf (o57 P)) (lf (boot_o_7 P))))) (.node (o1 P) (.node (o9 P) (.node (boot_o_7 P) (.node (boot_o_7 P) (lf (o84 P)) .nil) (lf (boot_o_8 P))) (.node (boot_o_7 P) (lf (o53 P)) (lf (boot_o_7 P)))) (.node (o16 P) (.node (o26 P) (lf (o48 P)) (lf (o69 P))) (.node (o38 P) (lf (boot_o_7 P)) (lf (o78 P)))))))
noncomputable def TC2 : Params → BT := fun P => .node (boot_o_0 P) (.node (boot_o_1 P) (.node (o91 P) (.node (boot_o_7 P) (.node (boot_o_7 P) (.node (boot_o_7 P) (.node (boot_o_7 P) (lf (o79 P)) (lf (boot_o_7 P))) (.node (o10 P) (lf (o103 P)) (lf (o143 P)))) (.node (o27 P) (.node (o49 P) (lf (o93 P)) (lf (boot_o_7 P))) (.node (boot_o_7 P) (lf (boot_o_8 P)) .nil))) (.node (o10 P) (.node (boot_o_8 P) (.node (boot_o_7 P) (lf (o85 P)) (lf (o128 P))) (.node (o65 P) (lf (boot_o_7 P)) (lf (boot_o_7 P)))) (.node (boot_o_8 P) (.node (o54 P) (lf (boot_o_7 P)) (lf (o138 P))) (.node (o74 P) (lf (o119 P)) .nil)))) (.node (boot_o_7 P) (.node (o6 P) (.node (o18 P) (.node (o42 P) (lf (o81 P)) (lf (boot_o_7 P))) (.node (o63 P) (lf (o107 P)) (lf (boot_o_7 P)))) (.node (o31 P) (.node (boot_o_7 P) (lf (o96 P)) (lf (o136 P))) (.node (boot_o_7 P) (lf (o117 P)) .nil))) (.node (o13 P) (.node (o23 P) (.node (o46 P) (lf (o89 P)) (lf (boot_o_8 P))) (.node (o68 P) (lf (o112 P)) (lf (o150 P)))) (.node (o35 P) (.node (o58 P) (lf (boot_o_7 P)) (lf (o140 P))) (.node (boot_o_8 P) (lf (o122 P)) .nil))))) (.node (boot_o_5 P) (.node (boot_o_9 P) (.node (o5 P) (.node (o17 P) (.node (o41 P) (lf (boot_o_7 P)) (lf (o125 P))) (.node (boot_o_7 P) (lf (o105 P)) (lf (boot_o_8 P)))) (.node (o29 P) (.node (boot_o_8 P) (lf (o94 P)) (lf (o134 P))) (.node (o71 P) (lf (boot_o_7 P)) .nil))) (.node (boot_o_7 P) (.node (boot_o_7 P) (.node (boot_o_7 P) (lf (o87 P)) (lf (o130 P))) (.node (o66 P) (lf (o111 P)) (lf (o148 P)))) (.node (o34 P) (.node (o56 P) (lf (o99 P)) (lf (boot_o_7 P))) (.node (o76 P) (lf (o120 P)) .nil)))) (.node (o0 P) (.node (o8 P) (.node (o20 P) (.node (o44 P) (lf (o83 P)) (lf (o127 P))) (.node (boot_o_7 P) (lf (o109 P)) (lf (o146 P)))) (.node (o32 P) (.node (o52 P) (lf (boot_o_8 P)) (lf (boot_o_8 P))) (.node (o73 P) (lf (boot_o_7 P)) .nil))) (.node (o15 P) (.node (o25 P) (.node (o47 P) (lf (boot_o_7 P)) (lf (o132 P))) (.node (boot_o_8 P) (lf (o114 P)) .nil)) (.node (o37 P) (.node (o60 P) (lf (o101 P)) (lf (o141 P))) (.node (boot_o_7 P) (lf (boot_o_8 P)) .nil)))))) (.node (o2 P) (.node (boot_o_4 P) (.node (boot_o_8 P) (.node (boot_o_8 P) (.node (boot_o_8 P) (.node (o10 P) (lf (o80 P)) (lf (o124 P))) (.node (o61 P) (lf (o104 P)) (lf (boot_o_7 P)))) (.node (o28 P) (.node (boot_o_7 P) (lf (boot_o_7 P)) (lf (boot_o_8 P))) (.node (o70 P) (lf (o115 P)) .nil))) (.node (o11 P) (.node (o21 P) (.node (o45 P) (lf (o86 P)) (lf (o129 P))) (.node (boot_o_7 P) (lf (boot_o_8 P)) (lf (boot_o_8 P)))) (.node (o33 P) (.node (o55 P) (lf (o98 P)) (lf (o139 P))) (.node (o75 P) (lf (boot_o_7 P)) .nil)))) (.node (o92 P) (.node (o7 P) (.node (o19 P) (.node (o43 P) (lf (o82 P)) (lf (boot_o_8 P))) (.node (o64 P) (lf (o108 P)) (lf (o145 P)))) (.node (o10 P) (.node (o51 P) (lf (boot_o_7 P)) (lf (boot_o_7 P))) (.node (boot_o_8 P) (lf (o118 P)) .nil))) (.node (o14 P) (.node (o24 P) (.node (boot_o_7 P) (lf (o90 P)) (lf (o131 P))) (.node (boot_o_7 P) (lf (o113 P)) .nil)) (.node (o36 P) (.node (o59 P) (lf (boot_o_8 P)) (lf (boot_o_7 P))) (.node (o77 P) (lf (boot_o_7 P)) .nil))))) (.node (boot_o_6 P) (.node (boot_o_10 P) (.node (boot_o_7 P) (.node (boot_o_7 P) (.node (boot_o_7 P) (lf (boot_o_8 P)) (lf (o126 P))) (.node (o62 P) (lf (o106 P)) (lf (o144 P)))) (.node (o30 P) (.node (o50 P) (lf (o95 P)) (lf (o135 P))) (.node (o72 P) (lf (o116 P)) .nil))) (.node (o12 P) (.node (o22 P) (.node (boot_o_8 P) (lf (o88 P)) (lf (boot_o_7 P))) (.node (o67 P) (lf (boot_o_7 P)) (lf (o149 P)))) (.node (boot_o_7 P) (.node (o57 P) (lf (o100 P)) (lf (boot_o_8 P))) (.node (boot_o_7 P) (lf (o121 P)) .nil)))) (.node (o1 P) (.node (o9 P) (.node (boot_o_7 P) (.node (boot_o_7 P) (lf (o84 P)) (lf (boot_o_7 P))) (.node (boot_o_8 P) (lf (o110 P)) (lf (o147 P)))) (.node (boot_o_7 P) (.node (o53 P) (lf (o97 P)) (lf (o137 P))) (.node (boot_o_7 P) (lf (boot_o_8 P)) .nil))) (.node (o16 P) (.node (o26 P) (.node (o48 P) (lf (o10 P)) (lf (o133 P))) (.node (o69 P) (lf (boot_o_7 P)) .nil)) (.node (o38 P) (.node (boot_o_7 P) (lf (o102 P)) (lf (o142 P))) (.node (o78 P) (lf (o123 P)) .nil))))))
noncomputable def TC3 : Params → BT := fun P => .node (boot_o_0 P) (.node (boot_o_1 P) (.node (o151 P) (.node (boot_o_7 P) (.node (boot_o_7 P) (.node (boot_o_7 P) (.node (boot_o_7 P) (.node (o79 P) (lf (o163 P)) .nil) (.node (boot_o_7 P) (lf (o200 P)) .nil)) (.node (o10 P) (.node (o103 P) (lf (boot_o_7 P)) .nil) (lf (o143 P)))) (.node (o27 P) (.node (o49 P) (.node (o93 P) (lf (o173 P)) .nil) (lf (boot_o_7 P))) (.node (boot_o_7 P) (.node (boot_o_8 P) (lf (o191 P)) .nil) (lf (o154 P))))) (.node (o10 P) (.node (boot_o_8 P) (.node (boot_o_7 P) (.node (o85 P) (lf (o168 P)) .nil) (lf (o128 P))) (.node (o65 P) (.node (boot_o_7 P) (lf (boot_o_8 P)) .nil) (lf (boot_o_7 P)))) (.node (boot_o_8 P) (.node (o54 P) (.node (boot_o_7 P) (lf (o178 P)) .nil) (lf (o138 P))) (.node (o74 P) (.node (o119 P) (lf (boot_o_7 P)) .nil) (lf (boot_o_7 P)))))) (.node (boot_o_7 P) (.node (o6 P) (.node (o18 P) (.node (o42 P) (.node (o81 P) (lf (boot_o_7 P)) .nil) (lf (boot_o_7 P))) (.node (o63 P) (.node (o107 P) (lf (o184 P)) .nil) (lf (boot_o_7 P)))) (.node (o31 P) (.node (boot_o_7 P) (.node (o96 P) (lf (o175 P)) .nil) (lf (o136 P))) (.node (boot_o_7 P) (.node (o117 P) (lf (o194 P)) .nil) (lf (o157 P))))) (.node (o13 P) (.node (o23 P) (.node (o46 P) (.node (o89 P) (lf (boot_o_8 P)) .nil) (lf (boot_o_8 P))) (.node (o68 P) (.node (o112 P) (lf (o189 P)) .nil) (lf (o150 P)))) (.node (o35 P) (.node (o58 P) (.node (boot_o_7 P) (lf (boot_o_7 P)) .nil) (lf (o140 P))) (.node (boot_o_8 P) (.node (o122 P) (lf (boot_o_7 P)) .nil) (lf (boot_o_7 P))))))) (.node (boot_o_5 P) (.node (boot_o_9 P) (.node (o5 P) (.node (o17 P) (.node (o41 P) (.node (boot_o_7 P) (lf (o165 P)) .nil) (.node (o125 P) (lf (o202 P)) .nil)) (.node (boot_o_7 P) (.node (o105 P) (lf (o183 P)) .nil) (lf (boot_o_8 P)))) (.node (o29 P) (.node (boot_o_8 P) (.node (o94 P) (lf (boot_o_7 P)) .nil) (lf (o134 P))) (.node (o71 P) (.node (boot_o_7 P) (lf (o192 P)) .nil) (lf (o155 P))))) (.node (boot_o_7 P) (.node (boot_o_7 P) (.node (boot_o_7 P) (.node (o87 P) (lf (o170 P)) .nil) (lf (o130 P))) (.node (o66 P) (.node (o111 P) (lf (boot_o_7 P)) .nil) (lf (o148 P)))) (.node (o34 P) (.node (o56 P) (.node (o99 P) (lf (boot_o_8 P)) .nil) (lf (boot_o_7 P))) (.node (o76 P) (.node (o120 P) (lf (o197 P)) .nil) (lf (o160 P)))))) (.node (o0 P) (.node (o8 P) (.node (o20 P) (.node (o44 P) (.node (o83 P) (lf (o167 P)) .nil) (lf (o127 P))) (.node (boot_o_7 P) (.node (o109 P) (lf (o186 P)) .nil) (lf (o146 P)))) (.node (o32 P) (.node (o52 P) (.node (boot_o_8 P) (lf (o176 P)) .nil) (lf (boot_o_8 P))) (.node (o73 P) (.node (boot_o_7 P) (lf (boot_o_8 P)) .nil) (lf (boot_o_8 P))))) (.node (o15 P) (.node (o25 P) (.node (o47 P) (.node (boot_o_7 P) (lf (boot_o_7 P)) .nil) (lf (o132 P))) (.node (boot_o_8 P) (.node (o114 P) (lf (boot_o_7 P)) .nil) (lf (boot_o_7 P)))) (.node (o37 P) (.node (o60 P) (.node (o101 P) (lf (o181 P)) .nil) (lf (o141 P))) (.node (boot_o_7 P) (.node (boot_o_8 P) (lf (o199 P)) .nil) (lf (o162 P)))))))) (.node (o2 P) (.node (boot_o_4 P) (.node (boot_o_8 P) (.node (boot_o_8 P) (.node (boot_o_8 P) (.node (o10 P) (.node (o80 P) (lf (o164 P)) .nil) (.node (o124 P) (lf (o201 P)) .nil)) (.node (o61 P) (.node (o104 P) (lf (boot_o_8 P)) .nil) (lf (boot_o_7 P)))) (.node (o28 P) (.node (boot_o_7 P) (.node (boot_o_7 P) (lf (o174 P)) .nil) (lf (boot_o_8 P))) (.node (o70 P) (.node (o115 P) (lf (boot_o_7 P)) .nil) (lf (boot_o_7 P))))) (.node (o11 P) (.node (o21 P) (.node (o45 P) (.node (o86 P) (lf (o169 P)) .nil) (lf (o129 P))) (.node (boot_o_7 P) (.node (boot_o_8 P) (lf (o187 P)) .nil) (lf (boot_o_8 P)))) (.node (o33 P) (.node (o55 P) (.node (o98 P) (lf (boot_o_7 P)) .nil) (lf (o139 P))) (.node (o75 P) (.node (boot_o_7 P) (lf (o196 P)) .nil) (lf (o159 P)))))) (.node (o152 P) (.node (o7 P) (.node (o19 P) (.node (o43 P) (.node (o82 P) (lf (boot_o_8 P)) .nil) (lf (boot_o_8 P))) (.node (o64 P) (.node (o108 P) (lf (o185 P)) .nil) (lf (o145 P)))) (.node (o10 P) (.node (o51 P) (.node (boot_o_7 P) (lf (boot_o_7 P)) .nil) (lf (boot_o_7 P))) (.node (boot_o_8 P) (.node (o118 P) (lf (boot_o_7 P)) .nil) (lf (boot_o_7 P))))) (.node (o14 P) (.node (o24 P) (.node (boot_o_7 P) (.node (o90 P) (lf (o171 P)) .nil) (lf (o131 P))) (.node (boot_o_7 P) (.node (o113 P) (lf (o190 P)) .nil) (lf (o153 P)))) (.node (o36 P) (.node (o59 P) (.node (boot_o_8 P) (lf (o180 P)) .nil) (lf (boot_o_7 P))) (.node (o77 P) (.node (boot_o_7 P) (lf (boot_o_8 P)) .nil) (lf (boot_o_8 P))))))) (.node (boot_o_6 P) (.node (boot_o_10 P) (.node (boot_o_7 P) (.node (boot_o_7 P) (.node (boot_o_7 P) (.node (boot_o_8 P) (lf (o166 P)) .nil) (lf (o126 P))) (.node (o62 P) (.node (o106 P) (lf (boot_o_7 P)) .nil) (lf (o144 P)))) (.node (o30 P) (.node (o50 P) (.node (o95 P) (lf (boot_o_8 P)) .nil) (lf (o135 P))) (.node (o72 P) (.node (o116 P) (lf (o193 P)) .nil) (lf (o156 P))))) (.node (o12 P) (.node (o22 P) (.node (boot_o_8 P) (.node (o88 P) (lf (boot_o_7 P)) .nil) (lf (boot_o_7 P))) (.node (o67 P) (.node (boot_o_7 P) (lf (o188 P)) .nil) (lf (o149 P)))) (.node (boot_o_7 P) (.node (o57 P) (.node (o100 P) (lf (o179 P)) .nil) (lf (boot_o_8 P))) (.node (boot_o_7 P) (.node (o121 P) (lf (o198 P)) .nil) (lf (o161 P)))))) (.node (o1 P) (.node (o9 P) (.node (boot_o_7 P) (.node (boot_o_7 P) (.node (o84 P) (lf (boot_o_7 P)) .nil) (lf (boot_o_7 P))) (.node (boot_o_8 P) (.node (o110 P) (lf (boot_o_7 P)) .nil) (lf (o147 P)))) (.node (boot_o_7 P) (.node (o53 P) (.node (o97 P) (lf (o177 P)) .nil) (lf (o137 P))) (.node (boot_o_7 P) (.node (boot_o_8 P) (lf (o195 P)) .nil) (lf (o158 P))))) (.node (o16 P) (.node (o26 P) (.node (o48 P) (.node (o10 P) (lf (o172 P)) .nil) (lf (o133 P))) (.node (o69 P) (.node (boot_o_7 P) (lf (boot_o_8 P)) .nil) (lf (boot_o_8 P)))) (.node (o38 P) (.node (boot_o_7 P) (.node (o102 P) (lf (o182 P)) .nil) (lf (o142 P))) (.node (o78 P) (.node (o123 P) (lf (boot_o_7 P)) .nil) (lf (boot_o_7 P))))))))
noncomputable def TC4 : Params → BT := fun P => .node (boot_o_0 P) (.node (boot_o_1 P) (.node (o203 P) (.node (boot_o_7 P) (.node (boot_o_7 P) (.node (boot_o_7 P) (.node (boot_o_7 P) (.node (o79 P) (lf (o163 P)) (lf (o242 P))) (.node (boot_o_7 P) (lf (o200 P)) .nil)) (.node (o10 P) (.node (o103 P) (lf (boot_o_7 P)) (lf (o260 P))) (.node (o143 P) (lf (o222 P)) .nil))) (.node (o27 P) (.node (o49 P) (.node (o93 P) (lf (o173 P)) (lf (boot_o_8 P))) (.node (boot_o_7 P) (lf (o212 P)) .nil)) (.node (boot_o_7 P) (.node (boot_o_8 P) (lf (o191 P)) .nil) (.node (o154 P) (lf (boot_o_8 P)) .nil)))) (.node (o10 P) (.node (boot_o_8 P) (.node (boot_o_7 P) (.node (o85 P) (lf (o168 P)) (lf (boot_o_7 P))) (.node (o128 P) (lf (o207 P)) .nil)) (.node (o65 P) (.node (boot_o_7 P) (lf (boot_o_8 P)) .nil) (.node (boot_o_7 P) (lf (boot_o_7 P)) .nil))) (.node (boot_o_8 P) (.node (o54 P) (.node (boot_o_7 P) (lf (o178 P)) (lf (o255 P))) (.node (o138 P) (lf (o217 P)) .nil)) (.node (o74 P) (.node (o119 P) (lf (boot_o_7 P)) .nil) (.node (boot_o_7 P) (lf (boot_o_8 P)) .nil))))) (.node (boot_o_7 P) (.node (o6 P) (.node (o18 P) (.node (o42 P) (.node (o81 P) (lf (boot_o_7 P)) (lf (o245 P))) (.node (boot_o_7 P) (lf (o10 P)) .nil)) (.node (o63 P) (.node (o107 P) (lf (o184 P)) .nil) (.node (boot_o_7 P) (lf (o226 P)) .nil))) (.node (o31 P) (.node (boot_o_7 P) (.node (o96 P) (lf (o175 P)) (lf (o253 P))) (.node (o136 P) (lf (o214 P)) .nil)) (.node (boot_o_7 P) (.node (o117 P) (lf (o194 P)) .nil) (.node (o157 P) (lf (o235 P)) .nil)))) (.node (o13 P) (.node (o23 P) (.node (o46 P) (.node (o89 P) (lf (boot_o_8 P)) (lf (o248 P))) (.node (boot_o_8 P) (lf (boot_o_8 P)) .nil)) (.node (o68 P) (.node (o112 P) (lf (o189 P)) .nil) (.node (o150 P) (lf (o230 P)) .nil))) (.node (o35 P) (.node (o58 P) (.node (boot_o_7 P) (lf (boot_o_7 P)) (lf (o258 P))) (.node (o140 P) (lf (boot_o_7 P)) .nil)) (.node (boot_o_8 P) (.node (o122 P) (lf (boot_o_7 P)) .nil) (.node (boot_o_7 P) (lf (o240 P)) .nil)))))) (.node (boot_o_5 P) (.node (boot_o_9 P) (.node (o5 P) (.node (o17 P) (.node (o41 P) (.node (boot_o_7 P) (lf (o165 P)) (lf (o243 P))) (.node (o125 P) (lf (o202 P)) .nil)) (.node (boot_o_7 P) (.node (o105 P) (lf (o183 P)) .nil) (.node (boot_o_8 P) (lf (o224 P)) .nil))) (.node (o29 P) (.node (boot_o_8 P) (.node (o94 P) (lf (boot_o_7 P)) (lf (boot_o_7 P))) (.node (o134 P) (lf (boot_o_7 P)) .nil)) (.node (o71 P) (.node (boot_o_7 P) (lf (o192 P)) .nil) (.node (o155 P) (lf (boot_o_7 P)) .nil)))) (.node (boot_o_7 P) (.node (boot_o_7 P) (.node (boot_o_7 P) (.node (o87 P) (lf (o170 P)) (lf (o247 P))) (.node (o130 P) (lf (o209 P)) .nil)) (.node (o66 P) (.node (o111 P) (lf (boot_o_7 P)) .nil) (.node (o148 P) (lf (boot_o_7 P)) .nil))) (.node (o34 P) (.node (o56 P) (.node (o99 P) (lf (boot_o_8 P)) (lf (o256 P))) (.node (boot_o_7 P) (lf (boot_o_8 P)) .nil)) (.node (o76 P) (.node (o120 P) (lf (o197 P)) .nil) (.node (o160 P) (lf (boot_o_7 P)) .nil))))) (.node (o0 P) (.node (o8 P) (.node (o20 P) (.node (o44 P) (.node (o83 P) (lf (o167 P)) (lf (boot_o_7 P))) (.node (o127 P) (lf (boot_o_7 P)) .nil)) (.node (boot_o_7 P) (.node (o109 P) (lf (o186 P)) .nil) (.node (o146 P) (lf (o228 P)) .nil))) (.node (o32 P) (.node (o52 P) (.node (boot_o_8 P) (lf (o176 P)) (lf (boot_o_7 P))) (.node (boot_o_8 P) (lf (o215 P)) .nil)) (.node (o73 P) (.node (boot_o_7 P) (lf (boot_o_8 P)) .nil) (.node (boot_o_8 P) (lf (o237 P)) .nil)))) (.node (o15 P) (.node (o25 P) (.node (o47 P) (.node (boot_o_7 P) (lf (boot_o_7 P)) (lf (o250 P))) (.node (o132 P) (lf (boot_o_7 P)) .nil)) (.node (boot_o_8 P) (.node (o114 P) (lf (boot_o_7 P)) .nil) (.node (boot_o_7 P) (lf (o232 P)) .nil))) (.node (o37 P) (.node (o60 P) (.node (o101 P) (lf (o181 P)) (lf (boot_o_8 P))) (.node (o141 P) (lf (o220 P)) .nil)) (.node (boot_o_7 P) (.node (boot_o_8 P) (lf (o199 P)) .nil) (.node (o162 P) (lf (boot_o_7 P)) .nil))))))) (.node (o2 P) (.node (boot_o_4 P) (.node (boot_o_8 P) (.node (boot_o_8 P) (.node (boot_o_8 P) (.node (o10 P) (.node (o80 P) (lf (o164 P)) (lf (boot_o_7 P))) (.node (o124 P) (lf (o201 P)) .nil)) (.node (o61 P) (.node (o104 P) (lf (boot_o_8 P)) (lf (o261 P))) (.node (boot_o_7 P) (lf (o223 P)) .nil))) (.node (o28 P) (.node (boot_o_7 P) (.node (boot_o_7 P) (lf (o174 P)) (lf (o251 P))) (.node (boot_o_8 P) (lf (o213 P)) .nil)) (.node (o70 P) (.node (o115 P) (lf (boot_o_7 P)) .nil) (.node (boot_o_7 P) (lf (o233 P)) .nil)))) (.node (o11 P) (.node (o21 P) (.node (o45 P) (.node (o86 P) (lf (o169 P)) (lf (boot_o_8 P))) (.node (o129 P) (lf (o208 P)) .nil)) (.node (boot_o_7 P) (.node (boot_o_8 P) (lf (o187 P)) .nil) (.node (boot_o_8 P) (lf (boot_o_8 P)) .nil))) (.node (o33 P) (.node (o55 P) (.node (o98 P) (lf (boot_o_7 P)) (lf (boot_o_7 P))) (.node (o139 P) (lf (boot_o_7 P)) .nil)) (.node (o75 P) (.node (boot_o_7 P) (lf (o196 P)) .nil) (.node (o159 P) (lf (o238 P)) .nil))))) (.node (o204 P) (.node (o7 P) (.node (o19 P) (.node (o43 P) (.node (o82 P) (lf (boot_o_8 P)) (lf (boot_o_7 P))) (.node (boot_o_8 P) (lf (o205 P)) .nil)) (.node (o64 P) (.node (o108 P) (lf (o185 P)) .nil) (.node (o145 P) (lf (o227 P)) .nil))) (.node (o10 P) (.node (o51 P) (.node (boot_o_7 P) (lf (boot_o_7 P)) (lf (o254 P))) (.node (boot_o_7 P) (lf (boot_o_7 P)) .nil)) (.node (boot_o_8 P) (.node (o118 P) (lf (boot_o_7 P)) .nil) (.node (boot_o_7 P) (lf (o236 P)) .nil)))) (.node (o14 P) (.node (o24 P) (.node (boot_o_7 P) (.node (o90 P) (lf (o171 P)) (lf (o249 P))) (.node (o131 P) (lf (o210 P)) .nil)) (.node (boot_o_7 P) (.node (o113 P) (lf (o190 P)) .nil) (.node (o153 P) (lf (o231 P)) .nil))) (.node (o36 P) (.node (o59 P) (.node (boot_o_8 P) (lf (o180 P)) (lf (boot_o_7 P))) (.node (boot_o_7 P) (lf (o219 P)) .nil)) (.node (o77 P) (.node (boot_o_7 P) (lf (boot_o_8 P)) .nil) (.node (boot_o_8 P) (lf (o241 P)) .nil)))))) (.node (boot_o_6 P) (.node (boot_o_10 P) (.node (boot_o_7 P) (.node (boot_o_7 P) (.node (boot_o_7 P) (.node (boot_o_8 P) (lf (o166 P)) (lf (o244 P))) (.node (o126 P) (lf (boot_o_7 P)) .nil)) (.node (o62 P) (.node (o106 P) (lf (boot_o_7 P)) .nil) (.node (o144 P) (lf (o225 P)) .nil))) (.node (o30 P) (.node (o50 P) (.node (o95 P) (lf (boot_o_8 P)) (lf (o252 P))) (.node (o135 P) (lf (boot_o_8 P)) .nil)) (.node (o72 P) (.node (o116 P) (lf (o193 P)) .nil) (.node (o156 P) (lf (o234 P)) .nil)))) (.node (o12 P) (.node (o22 P) (.node (boot_o_8 P) (.node (o88 P) (lf (boot_o_7 P)) (lf (boot_o_7 P))) (.node (boot_o_7 P) (lf (boot_o_7 P)) .nil)) (.node (o67 P) (.node (boot_o_7 P) (lf (o188 P)) .nil) (.node (o149 P) (lf (boot_o_7 P)) .nil))) (.node (boot_o_7 P) (.node (o57 P) (.node (o100 P) (lf (o179 P)) (lf (o257 P))) (.node (boot_o_8 P) (lf (o218 P)) .nil)) (.node (boot_o_7 P) (.node (o121 P) (lf (o198 P)) .nil) (.node (o161 P) (lf (o239 P)) .nil))))) (.node (o1 P) (.node (o9 P) (.node (boot_o_7 P) (.node (boot_o_7 P) (.node (o84 P) (lf (boot_o_7 P)) (lf (o246 P))) (.node (boot_o_7 P) (lf (o206 P)) .nil)) (.node (boot_o_8 P) (.node (o110 P) (lf (boot_o_7 P)) .nil) (.node (o147 P) (lf (o229 P)) .nil))) (.node (boot_o_7 P) (.node (o53 P) (.node (o97 P) (lf (o177 P)) (lf (boot_o_8 P))) (.node (o137 P) (lf (o216 P)) .nil)) (.node (boot_o_7 P) (.node (boot_o_8 P) (lf (o195 P)) .nil) (.node (o158 P) (lf (boot_o_7 P)) .nil)))) (.node (o16 P) (.node (o26 P) (.node (o48 P) (.node (o10 P) (lf (o172 P)) (lf (boot_o_7 P))) (.node (o133 P) (lf (o211 P)) .nil)) (.node (o69 P) (.node (boot_o_7 P) (lf (boot_o_8 P)) .nil) (.node (boot_o_8 P) (lf (boot_o_7 P)) .nil))) (.node (o38 P) (.node (boot_o_7 P) (.node (o102 P) (lf (o182 P)) (lf (o259 P))) (.node (o142 P) (lf (o221 P)) .nil)) (.node (o78 P) (.node (o123 P) (lf (boot_o_7 P)) .nil) (.node (boot_o_7 P) (lf (boot_o_8 P)) .nil)))))))
noncomputable def HZ : Params → Heap := fun P => ⟨Array.mk (boot_o_0 P :: boot_o_1 P :: o2 P :: o203 P :: boot_o_4 P :: boot_o_5 P :: boot_o_6 P :: boot_o_7 P :: boot_o_8 P :: boot_o_9 P :: boot_o_10 P :: boot_o_7 P :: o204 P :: o0 P :: o1 P :: boot_o_7 P :: boot_o_8 P :: o5 P :: boot_o_7 P :: o6 P :: o7 P :: o8 P :: o9 P :: o10 P :: o11 P :: boot_o_7 P :: o12 P :: o13 P :: o14 P :: o15 P :: o16 P :: boot_o_7 P :: boot_o_8 P :: o17 P :: boot_o_7 P :: o18 P :: o19 P :: o20 P :: boot_o_7 P :: boot_o_8 P :: o21 P :: boot_o_7 P :: o22 P :: o23 P :: o24 P :: o25 P :: o26 P :: o27 P :: o28 P :: o29 P :: o30 P :: o31 P :: o10 P :: o32 P :: boot_o_7 P :: boot_o_8 P :: o33 P :: o34 P :: boot_o_7 P :: o35 P :: o36 P :: o37 P :: o38 P :: boot_o_7 P :: o10 P :: o41 P :: boot_o_7 P :: o42 P :: o43 P :: o44 P :: boot_o_7 P :: boot_o_7 P :: o45 P :: boot_o_7 P :: boot_o_8 P :: o46 P :: boot_o_7 P :: o47 P :: o48 P :: o49 P :: boot_o_7 P :: boot_o_8 P :: o50 P :: boot_o_7 P :: o51 P :: o52 P :: o53 P :: o54 P :: o55 P :: o56 P :: o57 P :: o58 P :: o59 P :: o60 P :: boot_o_7 P :: o10 P :: o61 P :: boot_o_7 P :: o62 P :: o63 P :: o64 P :: boot_o_7 P :: boot_o_8 P :: o65 P :: boot_o_7 P :: o66 P :: o67 P :: o68 P :: boot_o_7 P :: boot_o_8 P :: o69 P :: boot_o_7 P :: o70 P :: o71 P :: o72 P :: boot_o_7 P :: boot_o_8 P :: o73 P :: boot_o_7 P :: o74 P :: o75 P :: o76 P :: boot_o_7 P :: boot_o_8 P :: o77 P :: boot_o_7 P :: o78 P :: o79 P :: o80 P :: boot_o_7 P :: boot_o_8 P :: o81 P :: o82 P :: o83 P :: o84 P :: o85 P :: o86 P :: o87 P :: o88 P :: o89 P :: o90 P :: boot_o_7 P :: o10 P :: o93 P :: boot_o_7 P :: o94 P :: o95 P :: o96 P :: boot_o_7 P :: boot_o_8 P :: o97 P :: boot_o_7 P :: o98 P :: o99 P :: o100 P :: boot_o_7 P :: boot_o_8 P :: o101 P :: o102 P :: o103 P :: o104 P :: o105 P :: o106 P :: o107 P :: o108 P :: o109 P :: o110 P :: boot_o_7 P :: boot_o_8 P :: o111 P :: boot_o_7 P :: o112 P :: o113 P :: o114 P :: boot_o_7 P :: boot_o_8 P :: o115 P :: boot_o_7 P :: o116 P :: o117 P :: o118 P :: boot_o_7 P :: boot_o_8 P :: o119 P :: boot_o_7 P :: o120 P :: o121 P :: o122 P :: boot_o_7 P :: boot_o_8 P :: o123 P :: boot_o_7 P :: o124 P :: o125 P :: o126 P :: boot_o_7 P :: boot_o_8 P :: o127 P :: boot_o_7 P :: o128 P :: o129 P :: o130 P :: boot_o_7 P :: boot_o_8 P :: o131 P :: o132 P :: o133 P :: boot_o_7 P :: boot_o_8 P :: o134 P :: o135 P :: o136 P :: boot_o_7 P :: boot_o_8 P :: o137 P :: o138 P :: o139 P :: boot_o_7 P :: boot_o_8 P :: o140 P :: boot_o_7 P :: o141 P :: o142 P :: o143 P :: boot_o_7 P :: boot_o_8 P :: o144 P :: boot_o_7 P :: o145 P :: o146 P :: o147 P :: boot_o_7 P :: boot_o_8 P :: o148 P :: o149 P :: o150 P :: o153 P :: boot_o_7 P :: boot_o_8 P :: o154 P :: boot_o_7 P :: o155 P :: o156 P :: o157 P :: boot_o_7 P :: boot_o_8 P :: o158 P :: boot_o_7 P :: o159 P :: o160 P :: o161 P :: boot_o_7 P :: boot_o_8 P :: o162 P :: boot_o_7 P :: o163 P :: o164 P :: o165 P :: o166 P :: boot_o_7 P :: boot_o_8 P :: o167 P :: boot_o_7 P :: o168 P :: o169 P :: o170 P :: boot_o_7 P :: boot_o_8 P :: o171 P :: boot_o_7 P :: o172 P :: o173 P :: o174 P :: boot_o_7 P :: boot_o_8 P :: o175 P :: boot_o_7 P :: o176 P :: o177 P :: o178 P :: boot_o_7 P :: boot_o_8 P :: o179 P :: boot_o_7 P :: o180 P :: o181 P :: o182 P :: boot_o_7 P :: boot_o_8 P :: o183 P :: boot_o_7 P :: o184 P :: o185 P :: o186 P :: boot_o_7 P :: boot_o_8 P :: o187 P :: boot_o_7 P :: o188 P :: o189 P :: o190 P :: boot_o_7 P :: boot_o_8 P :: o191 P :: boot_o_7 P :: o192 P :: o193 P :: o194 P :: boot_o_7 P :: boot_o_8 P :: o195 P :: boot_o_7 P :: o196 P :: o197 P :: o198 P :: boot_o_7 P :: boot_o_8 P :: o199 P :: boot_o_7 P :: o200 P :: o201 P :: o202 P :: boot_o_7 P :: o10 P :: o205 P :: boot_o_7 P :: o206 P :: o207 P :: o208 P :: o209 P :: boot_o_7 P :: boot_o_8 P :: o210 P :: boot_o_7 P :: o211 P :: o212 P :: o213 P :: boot_o_7 P :: boot_o_8 P :: o214 P :: boot_o_7 P :: o215 P :: o216 P :: o217 P :: boot_o_7 P :: boot_o_8 P :: o218 P :: boot_o_7 P :: o219 P :: o220 P :: o221 P :: o222 P :: o223 P :: o224 P :: o225 P :: o226 P :: o227 P :: o228 P :: o229 P :: boot_o_7 P :: boot_o_8 P :: boot_o_7 P :: boot_o_7 P :: o230 P :: o231 P :: o232 P :: boot_o_7 P :: boot_o_8 P :: o233 P :: boot_o_7 P :: o234 P :: o235 P :: o236 P :: o237 P :: boot_o_7 P :: boot_o_8 P :: o238 P :: boot_o_7 P :: o239 P :: o240 P :: o241 P :: boot_o_7 P :: boot_o_8 P :: o242 P :: boot_o_7 P :: o243 P :: o244 P :: o245 P :: boot_o_7 P :: boot_o_7 P :: o246 P :: boot_o_7 P :: boot_o_8 P :: o247 P :: boot_o_7 P :: o248 P :: o249 P :: o250 P :: boot_o_7 P :: boot_o_8 P :: o251 P :: boot_o_7 P :: o252 P :: o253 P :: o254 P :: boot_o_7 P :: boot_o_8 P :: o255 P :: boot_o_7 P :: o256 P :: o257 P :: o258 P :: boot_o_7 P :: boot_o_8 P :: o259 P :: o260 P :: o261 P :: []), {}⟩
/-- the top's run, in pieces -/
def tb : Env := { scope := PySem.Challenge.rw_og0093_01.row.prog.main.scope, locals := mainNs, globals := mainNs, cells := [], code := .ref 13, frame := some 14 }
def bs : List Stmt := behindTheImports PySem.Challenge.rw_og0093_01.row.prog
def cE : Code := .body bs tb
def q0 : Pos := ⟨0, 0, 0, 0⟩
theorem seg_by {p : Program} {w : World} {n₀ : Nat} {ann : Option Value} {b n : Nat} {s s' : SharedT} {t : Thread} {f : Flow} {c : Code} {q : Pos} (h : Fast.tw10110043849684766642 Fast.tw14364793385576792824 p w n₀ ann b n s t = some (f, s', c, q)) : segRun treeTable p w n₀ ann b n s.abs t = some (f, s'.abs, c, q) :=
  segRun_of (by rw [Fast.te10110043849684766642, Fast.te14364793385576792824]; exact h)
theorem runA (w : World) (os : OsState) : topGo treeTable PySem.Challenge.rw_og0093_01.row.prog w 11 (some (.ref 6)) 12 ⟨boot_heap w.params, #[], boot_drawn, boot_toks, os⟩ (topStub PySem.Challenge.rw_og0093_01.row.prog) = some (⟨HA w.params, #[], {}, 187, os⟩, ⟨denote treeTable cE, cE, ⟨0, 0, 0, 0⟩, [topFrame q0]⟩) := by kernel_rfl
theorem runB (w : World) (os : OsState) : segRun treeTable PySem.Challenge.rw_og0093_01.row.prog w 11 (some (.ref 6)) 1 1 ⟨HA w.params, #[], {}, 187, os⟩ (blockOf bs tb cE ⟨0, 0, 0, 0⟩ [topFrame q0]) = some (.next, (SharedT.abs ⟨TB w.params, 15, {}, #[], {}, 187, os⟩), cE, ⟨0, 0, 0, 0⟩) := by kernel_rfl
noncomputable def s0 : List Stmt := (bs.drop 0).take 4
theorem runC0 (w : World) (os : OsState) : segRun treeTable PySem.Challenge.rw_og0093_01.row.prog w 11 (some (.ref 6)) 1 518 (SharedT.abs ⟨TB w.params, 15, {}, #[], {}, 187, os⟩) (piecesOf s0 tb cE ⟨0, 0, 0, 0⟩ [topFrame q0]) = some (.next, (SharedT.abs ⟨TC0 w.params, 63, {}, #[], {}, 252, os⟩), cE, ⟨14, 0, 15, 8⟩) := seg_by (by kernel_rfl)
noncomputable def s1 : List Stmt := (bs.drop 4).take 4
theorem runC1 (w : World) (os : OsState) : segRun treeTable PySem.Challenge.rw_og0093_01.row.prog w 11 (some (.ref 6)) 1 650 (SharedT.abs ⟨TC0 w.params, 63, {}, #[], {}, 252, os⟩) (piecesOf s1 tb cE ⟨14, 0, 15, 8⟩ [topFrame q0]) = some (.next, (SharedT.abs ⟨TC1 w.params, 141, {}, #[], {}, 378, os⟩), cE, ⟨29, 0, 66, 103⟩) := seg_by (by kernel_rfl)
noncomputable def s2 : List Stmt := (bs.drop 8).take 13
theorem runC2 (w : World) (os : OsState) : segRun treeTable PySem.Challenge.rw_og0093_01.row.prog w 11 (some (.ref 6)) 1 585 (SharedT.abs ⟨TC1 w.params, 141, {}, #[], {}, 378, os⟩) (piecesOf s2 tb cE ⟨29, 0, 66, 103⟩ [topFrame q0]) = some (.next, (SharedT.abs ⟨TC2 w.params, 236, {}, #[], {}, 506, os⟩), cE, ⟨132, 0, 134, 124⟩) := seg_by (by kernel_rfl)
noncomputable def s3 : List Stmt := (bs.drop 21).take 16
theorem runC3 (w : World) (os : OsState) : segRun treeTable PySem.Challenge.rw_og0093_01.row.prog w 11 (some (.ref 6)) 1 416 (SharedT.abs ⟨TC2 w.params, 236, {}, #[], {}, 506, os⟩) (piecesOf s3 tb cE ⟨132, 0, 134, 124⟩ [topFrame q0]) = some (.next, (SharedT.abs ⟨TC3 w.params, 322, {}, #[], {}, 626, os⟩), cE, ⟨204, 0, 204, 8⟩) := seg_by (by kernel_rfl)
noncomputable def s4 : List Stmt := (bs.drop 37).take 11
theorem runC4 (w : World) (os : OsState) : segRun treeTable PySem.Challenge.rw_og0093_01.row.prog w 11 (some (.ref 6)) 1 593 (SharedT.abs ⟨TC3 w.params, 322, {}, #[], {}, 626, os⟩) (piecesOf s4 tb cE ⟨204, 0, 204, 8⟩ [topFrame q0]) = some (.next, (SharedT.abs ⟨TC4 w.params, 417, {}, #[], {}, 780, os⟩), cE, ⟨295, 0, 316, 105⟩) := seg_by (by kernel_rfl)
theorem runZ (w : World) (os : OsState) : topRun treeTable PySem.Challenge.rw_og0093_01.row.prog w 11 (some (.ref 6)) 2 (SharedT.abs ⟨TC4 w.params, 417, {}, #[], {}, 780, os⟩) ⟨doneF .next, cE, ⟨295, 0, 316, 105⟩, [topFrame q0]⟩ = some ⟨HZ w.params, #[], {}, 780, os⟩ := by kernel_rfl
theorem bs_is : bs = s0 ++ (s1 ++ (s2 ++ (s3 ++ (s4 ++ [])))) := by kernel_rfl
theorem run (w : World) (os : OsState) : topRun treeTable PySem.Challenge.rw_og0093_01.row.prog w 11 (some (.ref 6)) (12 + (1 + (518 + (650 + (585 + (416 + (593 + (2)))))))) ⟨boot_heap w.params, #[], boot_drawn, boot_toks, os⟩ (topStub PySem.Challenge.rw_og0093_01.row.prog) = some ⟨HZ w.params, #[], {}, 780, os⟩ := by
  refine go_top (runA w os) (piece_block (runB w os) ?_)
  show topRun _ _ _ _ _ _ _ (restOf bs _ _ _ _) = _
  rw [bs_is]
  exact piece_app (runC0 w os) (piece_app (runC1 w os) (piece_app (runC2 w os) (piece_app (runC3 w os) (piece_app (runC4 w os) (piece_nil (runZ w os))))))
theorem lkA (w : World) (os : OsState) : (staticsOk (importedModules PySem.Challenge.rw_og0093_01.row.prog.main.body) (boot_heap w.params) (HZ w.params) && namesBound PySem.Challenge.rw_og0093_01.row.prog (HZ w.params) && gensDone ⟨HZ w.params, #[], {}, 780, os⟩ && laidKept (boot_heap w.params) (HZ w.params)) = true := by kernel_rfl
theorem lkB (w : World) (os : OsState) : openSeen view_39 loose_39 (importedModules PySem.Challenge.rw_og0093_01.row.prog.main.body) (fun s => xlAt view_39 [] s && recOk (RowW.records PySem.Challenge.rw_og0093_01.row.toRowW) s) true ⟨HZ w.params, #[], {}, 780, os⟩ = openGood view_39 loose_39 := by kernel_rfl
theorem lkC (w : World) (os : OsState) : Hook.obs hook_39 ⟨HZ w.params, #[], {}, 780, os⟩ = Hook.val hook_39 w := by kernel_rfl
theorem looks_is (w : World) : (fun os => ((staticsOk (importedModules PySem.Challenge.rw_og0093_01.row.prog.main.body) (boot_heap w.params) (HZ w.params) && namesBound PySem.Challenge.rw_og0093_01.row.prog (HZ w.params) && gensDone ⟨HZ w.params, #[], {}, 780, os⟩ && laidKept (boot_heap w.params) (HZ w.params)), openSeen view_39 loose_39 (importedModules PySem.Challenge.rw_og0093_01.row.prog.main.body) (fun s => xlAt view_39 [] s && recOk (RowW.records PySem.Challenge.rw_og0093_01.row.toRowW) s) true ⟨HZ w.params, #[], {}, 780, os⟩, Hook.obs hook_39 ⟨HZ w.params, #[], {}, 780, os⟩)) = fun _ => (true, openGood view_39 loose_39, Hook.val hook_39 w) := funext fun os => looks_pair (lkA w os) (looks_pair (lkB w os) (lkC w os))
theorem left : LeftO PySem.Challenge.rw_og0093_01.row.prog view_39 loose_39 (fun s => xlAt view_39 [] s && recOk (RowW.records PySem.Challenge.rw_og0093_01.row.toRowW) s) (Hook.obs hook_39) (Hook.val hook_39) 5640 :=
  LeftO.of_pieces (boot_open (by kernel_rfl) (by kernel_rfl) (fun s => by kernel_rfl)) (fun w => by kernel_rfl) run (by kernel_rfl) looks_is
end hd
open PySem PySem.W PyProof.Rows PySem.Calls PySem.Spec PySem.SeqAt
theorem law_good {s₁ s' : Shared} {L : Addr} {m : Str → Option Value} {cl : Str → Option Addr} {mean : ExcName → Option Value} {xs : List Int} (F : Fr s₁.heap L s'.heap m) (hg : s'.gens = #[]) (hos : s'.os = s₁.os) : GoodW (RowW.claim PySem.Challenge.rw_og0093_01.row.toRowW) cl mean [ofPy (PyData.list (xs.map PyData.int))] s₁ (.ok (.ret (.bool true))) s' := by
  refine goodW_bool F hg (raisesW_false ?_) ?_ hos
  · wrow_none_raised
  · wrow_post
theorem said_row : Fast.tw17960256430627541270 (Fast.tw2368527892694137696 PySem.Challenge.rw_og0093_01) = true := by kernel_rfl
theorem said_law : OpenLaw.wellSaid PySem.Challenge.rw_og0093_01 = true := by
  refine (congrFun Fast.te9446332074065402090 _).trans ?_
  delta Fast.tw9446332074065402090
  show (_ && _) = true
  iterate 18 refine look_both ?_ ?_
  · exact said_row
  all_goals kernel_rfl
def law_open := fun hc => (holds_law said_law fun _ => holds_open (q := hd.view_39) (loose := [Str.ofString "LedgerError", Str.ofString "Occurs", Str.ofString "ref_faults", Str.ofString "_law_leaf", Str.ofString "_law_ref"]) (Xt := fun s => xlAt hd.view_39 [] s && recOk (RowW.records PySem.Challenge.rw_og0093_01.row.toRowW) s) (XP := XL hd.view_39 []) (Yf := Hook.obs hd.hook_39) (Ya := Hook.val hd.hook_39) (YP := Hook.says hd.hook_39) (N := 5640) hd.left (Hook.of hd.hook_39) (Hook.keeps hd.hook_39) (fun s e => xl_of s (Bool.and_eq_true_iff.mp e).1) XL.keeps (by rfl) (by rfl) (by rfl) (fun s e => recFacts_of (Bool.and_eq_true_iff.mp e).2) (by rfl) (by first | assumption | decide +kernel) (by decide +kernel) ⟨rfl, rfl, rfl, rfl, rfl, by decide +kernel⟩ (by w_witness2) hc : PySem.Challenge.rw_og0093_01.Holds)
section
noncomputable abbrev V := hd.view_39
noncomputable abbrev LS := looseW hd.view_39 [Str.ofString "LedgerError", Str.ofString "Occurs", Str.ofString "ref_faults", Str.ofString "_law_leaf", Str.ofString "_law_ref"]
/-- the frames around a call: all letters -/
noncomputable abbrev AT (hh : Option Value) (dp : Nat) (fr : Option (List Env)) (gd : Option (List Code)) (un : Nat) : Around := { handled := hh, depth := dp, frames := fr, guards := gd, units := un }
noncomputable abbrev Ext (h h' : Heap) : Prop := ∀ b o, h.get? b = some o → h'.get? b = some o
theorem Ext.trans {a b c : Heap} (x : Ext a b) (y : Ext b c) : Ext a c := fun p o e => y p o (x p o e)

theorem ltNe {d : Addr} {l : List (Addr × Obj)} (h : ∀ p ∈ l, p.1 < d) : ∀ p ∈ l, p.1 ≠ d := fun p hp => Nat.ne_of_lt (h p hp)
theorem allNe_map {d : Addr} {l l' : List (Addr × Obj)} (h : ∀ p ∈ l, p.1 ≠ d) (e : l'.map Prod.fst = l.map Prod.fst) : ∀ p ∈ l', p.1 ≠ d := fun p hp => by
  have := List.mem_map_of_mem (f := Prod.fst) hp
  rw [e] at this
  obtain ⟨q, hq, e2⟩ := List.mem_map.mp this
  rw [← e2]; exact h q hq
theorem room {x a b c d : Nat} (h : x + a < b) (h1 : Nat.ble c a = true) (h2 : Nat.ble b d = true) : x + c < d := Nat.lt_of_lt_of_le (Nat.lt_of_le_of_lt (Nat.add_le_add_left (Nat.le_of_ble_eq_true h1) x) h) (Nat.le_of_ble_eq_true h2)
theorem room0 {x a b d : Nat} (h : x + a < b) (h2 : Nat.ble b d = true) : x < d := Nat.lt_of_lt_of_le (Nat.lt_of_le_of_lt (Nat.le_add_right x a) h) (Nat.le_of_ble_eq_true h2)
theorem uroom {x a b c : Nat} (h : x + a < b) (h1 : Nat.ble c a = true) (h2 : Nat.ble b 9000 = true) : x + c < cLine := Nat.lt_of_lt_of_le (room h h1 h2) (by rw [cLine_is]; decide)
theorem set_any {prog : Program} {w : World} {A : Around} {E : Value → Shared → Prop} {s : Shared} {h₀ : Heap} {L D : Addr} {m : Str → Option Value} {news news' : List (Addr × Obj)} {its its' : Array Value} {n : Nat} {k : Int} {t : Tok} {v : Value}
    {Q : Unit → Shared → Prop} (F : Fr h₀ L s.heap m) (N : News h₀ L s.heap news) (U : Upd D (listOf its n) (listOf its' n) news news') (he : its.setIfInBounds k.toNat v = its') (h0 : 0 ≤ k) (hfit : k < 2 ^ 63) (hk : k < its.size)
    (h : ∀ h', Fr h₀ L h' m → News h₀ L h' news' → Q () { s with heap := h' }) :
    wpAny (model prog w) A (setItem (.ref D) (.int k t) v) Q E s := by
  obtain ⟨pre, post, rfl, rfl, a, b⟩ := U.split
  have z := N (D, listOf its n) (List.mem_append.mpr (.inr (.head _)))
  exact ki_setAt z.1 h0 hfit hk (h _ (F.change (Heap.SameBut.update ..) z.2.1 z.2.2) (ki_turn _ N a b he (by rw [← he]; simp)))
section
variable {prog : Program} {w : World} {A : Around} {E : Value → Shared → Prop} {s : Shared} {a b : Addr} {its : Array Value} {Q : Value → Shared → Prop}
theorem eq_nil (hl : s.heap.IsList a its) (hb : s.heap.IsList b #[]) (hu : A.units < cLine) (h : Q (.bool (its.size == 0)) s) : wpAny (model prog w) A (compareOp .Eq (.ref a) (.ref b)) Q E s := by
  refine cmp_ofEq ?_
  by_cases e : its.size = 0
  · refine RcAt.lists hl hb e hu (e := fun _ => false) (fun j h1 _ => by omega) prog w E Q ?_
    rw [e]; simpa [e] using h
  · refine RcAt.lists_lengths hl hb (by simpa using e) hu prog w E Q ?_
    have e' : (its.size == 0) = false := by simp only [beq_eq_false_iff_ne]; exact e
    rw [e'] at h; exact h
theorem ne_nil (hl : s.heap.IsList a its) (hb : s.heap.IsList b #[]) (hu : A.units < cLine) (h : Q (.bool (!(its.size == 0))) s) : wpAny (model prog w) A (compareOp .NotEq (.ref a) (.ref b)) Q E s := by
  refine cmp_ofNotEq ?_
  by_cases e : its.size = 0
  · refine RcNeAt.lists hl hb e hu (e := fun _ => false) (fun j h1 _ => by omega) prog w E Q ?_
    rw [e]; simpa [e] using h
  · refine RcNeAt.lists_lengths hl hb (by simpa using e) hu prog w E Q ?_
    have e' : (its.size == 0) = false := by simp only [beq_eq_false_iff_ne]; exact e
    rw [e'] at h; exact h
theorem eq_nil_t (hl : s.heap.IsList a #[]) (hb : s.heap.IsList b #[]) (hu : A.units < cLine) (h : Q (.bool true) s) : wpAny (model prog w) A (compareOp .Eq (.ref a) (.ref b)) Q E s := eq_nil hl hb hu (by simpa using h)
theorem ne_nil_t (hl : s.heap.IsList a #[]) (hb : s.heap.IsList b #[]) (hu : A.units < cLine) (h : Q (.bool false) s) : wpAny (model prog w) A (compareOp .NotEq (.ref a) (.ref b)) Q E s := ne_nil hl hb hu (by simpa using h)
theorem eq_nil_f {k : Nat} (hl : s.heap.IsList a its) (hb : s.heap.IsList b #[]) (hu : A.units < cLine) (hk : its.size = k + 1) (h : Q (.bool false) s) : wpAny (model prog w) A (compareOp .Eq (.ref a) (.ref b)) Q E s := eq_nil hl hb hu (by rw [hk]; exact h)
theorem ne_nil_f {k : Nat} (hl : s.heap.IsList a its) (hb : s.heap.IsList b #[]) (hu : A.units < cLine) (hk : its.size = k + 1) (h : Q (.bool true) s) : wpAny (model prog w) A (compareOp .NotEq (.ref a) (.ref b)) Q E s := ne_nil hl hb hu (by rw [hk]; exact h)
theorem eq_nilT (hl : s.heap.IsTuple a its) (hb : s.heap.IsTuple b #[]) (hu : A.units < cLine) (h : Q (.bool (its.size == 0)) s) : wpAny (model prog w) A (compareOp .Eq (.ref a) (.ref b)) Q E s := by
  refine cmp_ofEq ?_
  refine RcAt.tuples hl hb hu (e := fun _ => false) (fun j _ h2 => absurd h2 (Nat.not_lt_zero _)) prog w E Q ?_
  simpa using h
end
theorem newsDrop {g h : Heap} {L : Addr} {news news' : List (Addr × Obj)} (N : News g L h news) (hs : ∀ p ∈ news', p ∈ news) : News g L h news' := fun p hp => N p (hs p hp)
theorem newsAdd {h₀ h h' : Heap} {L r : Addr} {m : Str → Option Value} {o : Obj} {news : List (Addr × Obj)} (F : Fr h₀ L h m) (N : News h₀ L h news) (hE : Ext h h') (ho : h'.get? r = some o) (hr : h.get? r = none) :
    News h₀ L h' ((r, o) :: news) := by
  intro p hp
  rcases List.mem_cons.mp hp with rfl | hp
  · refine ⟨ho, ?_, ?_⟩
    · obtain ⟨oL, _, _, e, _⟩ := F.ns
      rintro rfl
      rw [e] at hr; cases hr
    · cases q : h₀.get? r with
      | none => rfl
      | some o' => rw [F.keep _ _ q] at hr; cases hr
  · exact ⟨hE _ _ (N p hp).1, (N p hp).2⟩
theorem newsKeep {h₀ h h' : Heap} {L : Addr} {news : List (Addr × Obj)} (N : News h₀ L h news) (hE : Ext h h') : News h₀ L h' news := fun p hp => ⟨hE _ _ (N p hp).1, (N p hp).2⟩
theorem newsNe {h₀ h : Heap} {L r : Addr} {news : List (Addr × Obj)} (N : News h₀ L h news) (hr : h.get? r = none) : ∀ p ∈ news, p.1 ≠ r := fun p hp e => by
  rw [← e, (N p hp).1] at hr; cases hr
theorem instBase {h₀ h : Heap} {L x dx C : Addr} {m : Str → Option Value} {od : Obj} (F : Fr h₀ L h m) (h1 : h₀.get? x = some (instObj C dx)) (h2 : h₀.get? dx = some od) : InstAt h x (instObj C dx) C (some od) :=
  ⟨F.keep _ _ h1, rfl, rfl, F.keep _ _ h2⟩

/-- an item of the data, as the heap bears it -/
noncomputable def It (h : Heap) (x : Addr) (nm : Str) (par occ shp : Value) (kl : Addr) : Prop :=
  ∃ dx es n tn, h.get? x = some (instObj 136 dx) ∧ h.get? dx = some (dictOf es n) ∧ getL (Str.ofString "name") es = some (some (.str nm tn)) ∧ getL (Str.ofString "parent") es = some (some par) ∧
    getL (Str.ofString "occurs") es = some (some occ) ∧ getL (Str.ofString "shape") es = some (some shp) ∧ getL (Str.ofString "kids") es = some (some (.ref kl))
theorem It.ext {h h' : Heap} {x : Addr} {nm : Str} {par occ shp : Value} {kl : Addr} (i : It h x nm par occ shp kl) (e : Ext h h') : It h' x nm par occ shp kl := by
  obtain ⟨dx, es, n, tn, a, b, r⟩ := i
  exact ⟨dx, es, n, tn, e _ _ a, e _ _ b, r⟩
inductive Chain (h : Heap) : Value → List (Addr × Str) → Prop where
  | nil : Chain h .none []
  | cons {p : Addr} {nm : Str} {par occ shp : Value} {kl : Addr} {r : List (Addr × Str)} : It h p nm par occ shp kl → Chain h par r → Chain h (.ref p) ((p, nm) :: r)
theorem Chain.ext {h h' : Heap} {v : Value} {ps : List (Addr × Str)} (c : Chain h v ps) (e : Ext h h') : Chain h' v ps := by
  induction c with
  | nil => exact .nil
  | cons i _ ih => exact .cons (i.ext e) ih
noncomputable abbrev tupOf (its : Array Value) (n : Nat) : Obj := { cls := .type "tuple", data := .seq its n }

/-- a def entered: all that stands is the base; the ledger is empty -/
theorem code0 {prog : Program} {w : World} {A : Around} {s : Shared} {K : Frag} {p : Program} {loose : List Str} {mean : ExcName → Option Value} {mg mb : Str → Option Value} {R : Result → Shared → Prop} {name qual : Str} {params : Arguments} {body : List Stmt} {scope : Scope} {dV kV doc pm cdv ct oc : Value} {an od : Option Addr} {osl : Array (Option Value)} {f : Addr} {args : Args} {binds : List (Str × Value)}
    (X : K.In s.heap) (T : Top p loose mean mg mb s.heap)
    (ho : K.lookup f = some ⟨oc, od, .func (fnOf name qual params body scope dV kV doc pm an cdv ct), osl⟩) (hcd : codeIn K cdv qual = true) (hroom : A.depth < recursionLimit)
    (hbind : BindsTo s (fnOf name qual params body scope dV kV doc pm an cdv ct) args binds) (hloc : ∀ y ∈ binds, scope.names.lookup y.1 = some .local)
    (h : ∀ L' h₁, Fr s.heap L' h₁ (fun y => binds.reverse.lookup y) → News s.heap L' h₁ [] → K.In s.heap → Top p loose mean mg mb s.heap →
      wpAny (model prog w) (A.deeper (envOf qual scope L' f cdv)) (execs body (envOf qual scope L' f cdv))
        (fun fl s' => R (.ok (.ret (match fl with | .ret v => v | _ => .none))) s')
        (fun e s' => wpAny (model prog w) (A.deeper (envOf qual scope L' f cdv)) (leaving (envOf qual scope L' f cdv) e) (fun _ s'' => R (.error e) s'') (fun e' s'' => R (.error e') s'') s')
        { s with heap := h₁, toks := s.toks + binds.length })
    (hco : scope.isCoroutine = false) (hgen : scope.isGenerator = false) (hk : scope.kind = .function)
    (hcell : ∀ x ∈ scope.names, x.2 ≠ .cell) : codeAny (model prog w) A (.call (.ref f) args) R s :=
  codeAny_call_def (fd := fnOf name qual params body scope dV kV doc pm an cdv ct) (body := body) (binds := binds) hroom (X _ _ ho) rfl T.nolimit (codeRec_of X hcd) rfl hbind hcell hloc
    (fun h₁ hns hk₁ => h s.heap.objs.size h₁ ⟨hns, hk₁, Nat.le_refl _⟩ News.nil X T) hco hgen hk
/-- the same where names of the def are captured -/
theorem code0C {prog : Program} {w : World} {A : Around} {s : Shared} {K : Frag} {p : Program} {loose : List Str} {mean : ExcName → Option Value} {mg mb : Str → Option Value} {R : Result → Shared → Prop} {name qual : Str} {params : Arguments} {body : List Stmt} {scope : Scope} {dV kV doc pm cdv ct oc : Value} {an od : Option Addr} {osl : Array (Option Value)} {f : Addr} {args : Args} {binds : List (Str × Value)}
    (X : K.In s.heap) (T : Top p loose mean mg mb s.heap)
    (ho : K.lookup f = some ⟨oc, od, .func (fnOf name qual params body scope dV kV doc pm an cdv ct), osl⟩) (hcd : codeIn K cdv qual = true) (hroom : A.depth < recursionLimit)
    (hbind : BindsTo s (fnOf name qual params body scope dV kV doc pm an cdv ct) args binds) (hkind : (binds.all fun y => scope.names.lookup y.1 == some .local || scope.names.lookup y.1 == some .cell) = true)
    (hnd : ((cellsFrom 0 scope.names []).map (·.1)).Nodup)
    (h : ∀ L' h₁ tk cells, Fr s.heap L' h₁ (bindL (envOfC qual scope L' f cdv).kindOf binds fun _ => none) → News s.heap L' h₁ cells →
      CellsAre (bindC (envOfC qual scope L' f cdv).kindOf binds fun _ => none) (cellsFrom (L' + 1) scope.names []) cells → K.In s.heap → Top p loose mean mg mb s.heap →
      wpAny (model prog w) (A.deeper (envOfC qual scope L' f cdv)) (execs body (envOfC qual scope L' f cdv))
        (fun fl s' => R (.ok (.ret (match fl with | .ret v => v | _ => .none))) s')
        (fun e s' => wpAny (model prog w) (A.deeper (envOfC qual scope L' f cdv)) (leaving (envOfC qual scope L' f cdv) e) (fun _ s'' => R (.error e) s'') (fun e' s'' => R (.error e') s'') s')
        { s with heap := h₁, toks := tk })
    (hco : scope.isCoroutine = false) (hgen : scope.isGenerator = false) (hk : scope.kind = .function) : codeAny (model prog w) A (.call (.ref f) args) R s := by
  refine codeAny_call_function hroom (X _ _ ho) rfl hco hgen rfl (codeRec_of X hcd) (hbind _ _ _ _ ?_)
  refine wpAny_newFunctionEnv_cells hk (kindsX hkind _) fun env' he s' x => ?_
  subst he
  refine ⟨T.nolimit.keeps x.toInCall.keep, codeAny_func ?_⟩
  obtain ⟨h₁, tk, rfl, _⟩ := x.done
  have hk₁ := x.toInCall.keep
  obtain ⟨cells, NC, Y⟩ := Cl.news (h₀ := s.heap) (Nat.le_refl _) fun n c hm => ⟨x.cell n c (lookup_of_mem_nodup (cellsFrom_names scope.names 0 (s.heap.objs.size + 1) [] [] rfl ▸ hnd) hm), x.above n c hm⟩
  exact h s.heap.objs.size h₁ tk cells ⟨x.toInCall.ns, hk₁, Nat.le_refl _⟩ NC Y X T
end
section
section
variable {prog : Program} {w : World} {A : Around} {E : Value → Shared → Prop} {s : Shared} {env : Env} {h₀ : Heap} {target : Expr} {body : List Stmt} {Q : Flow → Shared → Prop}
/-- a turn's end: the iterator stands first in the ledger -/
noncomputable def TEnd (h₀ : Heap) (L : Addr) (s : Shared) (I : Addr) (oI : Obj) (J : (Str → Option Value) → List (Addr × Obj) → Prop) (Q : Flow → Shared → Prop) (f : Flow) (s' : Shared) : Prop :=
  match f with
  | .ret v => Q (.ret v) s'
  | .brk => Q .next s'
  | _ => ∃ h' tk' m' news', s' = { s with heap := h', toks := tk' } ∧ Fr h₀ L h' m' ∧ News h₀ L h' ((I, oI) :: news') ∧ (∀ p ∈ news', p.1 ≠ I) ∧ J m' news'

theorem turnsList {ax : Addr} {vs : Array Value} {m₀ : Str → Option Value} {news : List (Addr × Obj)} (hh : A.handled = none) (F : Fr h₀ env.locals s.heap m₀) (N : News h₀ env.locals s.heap news) (hl : h₀.IsList ax vs)
    (J : Nat → (Str → Option Value) → List (Addr × Obj) → Prop) (h0 : J 0 m₀ news)
    (step : ∀ i v m₁ news₁ h₁ tk₁ I oI, vs[i]? = some v → J i m₁ news₁ → (∀ p ∈ news₁, p.1 ≠ I) → Fr h₀ env.locals h₁ m₁ → News h₀ env.locals h₁ ((I, oI) :: news₁) →
      wpAny (model prog w) A (assign target env v) (fun _ s₃ => wpAny (model prog w) A (execs body env) (TEnd h₀ env.locals { s with heap := h₁, toks := tk₁ } I oI (J (i + 1)) Q) E s₃) E { s with heap := h₁, toks := tk₁ })
    (fin : ∀ h' tk m' news', Fr h₀ env.locals h' m' → News h₀ env.locals h' news' → J vs.size m' news' → Q .next { s with heap := h', toks := tk }) :
    wpAny (model prog w) A (pyIter (.ref ax)) (fun it s₂ => TurnsAt prog w A h₀ env target body Q E it s₂) E s := by
  obtain ⟨lo, hlo, hrest⟩ := hl
  have hl' : s.heap.IsList ax vs := ⟨lo, F.keep _ _ hlo, hrest⟩
  have hlt : ax < s.heap.objs.size := Heap.lt_size (F.keep _ _ hlo)
  have hne : ax ≠ s.heap.objs.size := Nat.ne_of_lt hlt
  have hLax : env.locals ≠ ax := fun e => by
    have h1 := Heap.lt_size hlo
    exact absurd h1 (by rw [← e]; exact Nat.not_lt.mpr F.above)
  refine wpAny_pyIter_list hl' ?_
  refine ⟨s.heap.objs.size, _, _, vs.size, _, _, _, m₀, news, J, rfl, KTurns.ofWalks (Walks.list hh s.heap.objs.size ax hne vs) (fun i v s Q E st q => letGo_listiter st.1 q), ?_, ?_, ?_, ?_, F.push _, fun p hp => ⟨Heap.get?_push_of_some _ (N p hp).1, (N p hp).2⟩, h0, ?_, ?_⟩
  · intro hI
    rcases List.mem_cons.mp hI with e | hI
    · exact absurd F.ns.lt (e ▸ Nat.lt_irrefl _)
    · exact hLax (List.mem_singleton.mp hI)
  · intro b hb
    rw [List.mem_singleton.mp hb]
    exact next_is_new F
  · intro p hp hI
    exact absurd (Heap.lt_size (N p hp).1) ((List.mem_singleton.mp hI) ▸ Nat.lt_irrefl _)
  · exact ⟨⟨_, Heap.get?_push_size _ rfl, rfl, rfl⟩, ⟨lo, Heap.get?_push_of_some _ (F.keep _ _ hlo), hrest⟩⟩
  · intro i v m₁ news₁ h₁ tk₁ own hi hP hJ hoff hown hget hall hst F₁ N₁
    obtain ⟨oI, hoI, hcI⟩ := hst.1
    have hIown : (s.heap.objs.size, oI) ∈ own := hall _ (List.mem_cons_self ..) (next_is_new F) oI hoI
    have hsub : ∀ p ∈ own, p = (s.heap.objs.size, oI) := fun p hp => by
      rcases List.mem_cons.mp (hown p hp) with e | e
      · have := hget p hp
        rw [e, hoI] at this
        obtain ⟨pa, po⟩ := p
        cases this
        cases e
        rfl
      · exfalso
        have h1 := (N₁ p (List.mem_append_left _ hp)).2.2
        rw [List.mem_singleton.mp e, hlo] at h1
        cases h1
    have N₂ : News h₀ env.locals h₁ ((s.heap.objs.size, oI) :: news₁) := fun p hp => by
      rcases List.mem_cons.mp hp with rfl | hp
      · exact N₁ _ (List.mem_append_left _ hIown)
      · exact N₁ _ (List.mem_append_right _ hp)
    refine wpAny_mono (step i v m₁ news₁ h₁ tk₁ _ oI hP hJ (fun p hp e => hoff p hp (by rw [e]; exact List.mem_singleton.mpr rfl)) F₁ N₂) (fun _ s₃ h₃ => wpAny_mono h₃ (fun f s₄ h₄ => ?_) fun _ _ e => e) fun _ _ e => e
    have go : (∃ h' tk' m' news', s₄ = { { s with heap := h₁, toks := tk₁ } with heap := h', toks := tk' } ∧ Fr h₀ env.locals h' m' ∧ News h₀ env.locals h' ((s.heap.objs.size, oI) :: news') ∧ (∀ p ∈ news', p.1 ≠ s.heap.objs.size) ∧ J (i + 1) m' news') →
        LoopStepU h₀ env.locals [s.heap.objs.size] own (J (i + 1)) { s with heap := h₁, toks := tk₁ } .next s₄ := by
      rintro ⟨h', tk', m', news', e, F', N', o', hJ'⟩
      refine ⟨rfl, h', tk', m', news', e, F', ?_, ?_, hJ'⟩
      · intro p hp
        rcases List.mem_append.mp hp with hp | hp
        · rw [hsub p hp]; exact N' _ List.mem_cons_self
        · exact N' _ (List.mem_cons_of_mem _ hp)
      · intro p hp hI
        exact o' p hp (List.mem_singleton.mp hI)
    cases f with
    | ret v => exact h₄
    | brk => exact h₄
    | next => exact go h₄
    | cont => exact go h₄
  · intro h' tk m' news' F' N' _ hJ
    exact fin h' tk m' news' F' N' hJ

theorem turnsTup {ax : Addr} {vs : Array Value} {m₀ : Str → Option Value} {news : List (Addr × Obj)} (hh : A.handled = none) (F : Fr h₀ env.locals s.heap m₀) (N : News h₀ env.locals s.heap news) (hl : h₀.IsTuple ax vs)
    (J : Nat → (Str → Option Value) → List (Addr × Obj) → Prop) (h0 : J 0 m₀ news)
    (step : ∀ i v m₁ news₁ h₁ tk₁ I oI, vs[i]? = some v → J i m₁ news₁ → (∀ p ∈ news₁, p.1 ≠ I) → Fr h₀ env.locals h₁ m₁ → News h₀ env.locals h₁ ((I, oI) :: news₁) →
      wpAny (model prog w) A (assign target env v) (fun _ s₃ => wpAny (model prog w) A (execs body env) (TEnd h₀ env.locals { s with heap := h₁, toks := tk₁ } I oI (J (i + 1)) Q) E s₃) E { s with heap := h₁, toks := tk₁ })
    (fin : ∀ h' tk m' news', Fr h₀ env.locals h' m' → News h₀ env.locals h' news' → J vs.size m' news' → Q .next { s with heap := h', toks := tk }) :
    wpAny (model prog w) A (pyIter (.ref ax)) (fun it s₂ => TurnsAt prog w A h₀ env target body Q E it s₂) E s := by
  obtain ⟨lo, hlo, hrest⟩ := hl
  have hl' : s.heap.IsTuple ax vs := ⟨lo, F.keep _ _ hlo, hrest⟩
  have hlt : ax < s.heap.objs.size := Heap.lt_size (F.keep _ _ hlo)
  have hne : ax ≠ s.heap.objs.size := Nat.ne_of_lt hlt
  have hLax : env.locals ≠ ax := fun e => by
    have h1 := Heap.lt_size hlo
    exact absurd h1 (by rw [← e]; exact Nat.not_lt.mpr F.above)
  refine wpAny_pyIter_tuple hl' ?_
  refine ⟨s.heap.objs.size, _, _, vs.size, _, _, _, m₀, news, J, rfl, KTurns.ofWalks (Walks.tuple hh s.heap.objs.size ax hne vs) (fun i v s Q E st q => letGo_tupleiter st.1 q), ?_, ?_, ?_, ?_, F.push _, fun p hp => ⟨Heap.get?_push_of_some _ (N p hp).1, (N p hp).2⟩, h0, ?_, ?_⟩
  · intro hI
    rcases List.mem_cons.mp hI with e | hI
    · exact absurd F.ns.lt (e ▸ Nat.lt_irrefl _)
    · exact hLax (List.mem_singleton.mp hI)
  · intro b hb
    rw [List.mem_singleton.mp hb]
    exact next_is_new F
  · intro p hp hI
    exact absurd (Heap.lt_size (N p hp).1) ((List.mem_singleton.mp hI) ▸ Nat.lt_irrefl _)
  · exact ⟨⟨_, Heap.get?_push_size _ rfl, rfl, rfl⟩, ⟨lo, Heap.get?_push_of_some _ (F.keep _ _ hlo), hrest⟩⟩
  · intro i v m₁ news₁ h₁ tk₁ own hi hP hJ hoff hown hget hall hst F₁ N₁
    obtain ⟨oI, hoI, hcI⟩ := hst.1
    have hIown : (s.heap.objs.size, oI) ∈ own := hall _ (List.mem_cons_self ..) (next_is_new F) oI hoI
    have hsub : ∀ p ∈ own, p = (s.heap.objs.size, oI) := fun p hp => by
      rcases List.mem_cons.mp (hown p hp) with e | e
      · have := hget p hp
        rw [e, hoI] at this
        obtain ⟨pa, po⟩ := p
        cases this
        cases e
        rfl
      · exfalso
        have h1 := (N₁ p (List.mem_append_left _ hp)).2.2
        rw [List.mem_singleton.mp e, hlo] at h1
        cases h1
    have N₂ : News h₀ env.locals h₁ ((s.heap.objs.size, oI) :: news₁) := fun p hp => by
      rcases List.mem_cons.mp hp with rfl | hp
      · exact N₁ _ (List.mem_append_left _ hIown)
      · exact N₁ _ (List.mem_append_right _ hp)
    refine wpAny_mono (step i v m₁ news₁ h₁ tk₁ _ oI hP hJ (fun p hp e => hoff p hp (by rw [e]; exact List.mem_singleton.mpr rfl)) F₁ N₂) (fun _ s₃ h₃ => wpAny_mono h₃ (fun f s₄ h₄ => ?_) fun _ _ e => e) fun _ _ e => e
    have go : (∃ h' tk' m' news', s₄ = { { s with heap := h₁, toks := tk₁ } with heap := h', toks := tk' } ∧ Fr h₀ env.locals h' m' ∧ News h₀ env.locals h' ((s.heap.objs.size, oI) :: news') ∧ (∀ p ∈ news', p.1 ≠ s.heap.objs.size) ∧ J (i + 1) m' news') →
        LoopStepU h₀ env.locals [s.heap.objs.size] own (J (i + 1)) { s with heap := h₁, toks := tk₁ } .next s₄ := by
      rintro ⟨h', tk', m', news', e, F', N', o', hJ'⟩
      refine ⟨rfl, h', tk', m', news', e, F', ?_, ?_, hJ'⟩
      · intro p hp
        rcases List.mem_append.mp hp with hp | hp
        · rw [hsub p hp]; exact N' _ List.mem_cons_self
        · exact N' _ (List.mem_cons_of_mem _ hp)
      · intro p hp hI
        exact o' p hp (List.mem_singleton.mp hI)
    cases f with
    | ret v => exact h₄
    | brk => exact h₄
    | next => exact go h₄
    | cont => exact go h₄
  · intro h' tk m' news' F' N' _ hJ
    exact fin h' tk m' news' F' N' hJ

theorem turnsDict0 {K : Type} [DecidableEq K] {knd : KeyKind prog w K} {enc : K → PyData} {d : Addr} {m₀ : Str → Option Value} {news : List (Addr × Obj)} (hh : A.handled = none) (F : Fr h₀ env.locals s.heap m₀) (N : News h₀ env.locals s.heap news)
    (T : TabAt knd enc h₀ d []) (fin : ∀ h' tk, Fr h₀ env.locals h' m₀ → News h₀ env.locals h' news → Q .next { s with heap := h', toks := tk }) :
    wpAny (model prog w) A (pyIter (.ref d)) (fun it s₂ => TurnsAt prog w A h₀ env target body Q E it s₂) E s := by
  have T' := T.keep F.keep
  obtain ⟨lo, kvs, hdo, hf⟩ := T'
  obtain ⟨_, kvs0, hdo0, _⟩ := T
  have hd0 : d < h₀.objs.size := by obtain ⟨ep, hat⟩ := hdo0.dictAt; exact hat.lt_size
  have hlen := hf.length
  obtain ⟨ep, hat⟩ := hdo.dictAt
  have hne : d ≠ s.heap.objs.size := Nat.ne_of_lt hat.lt_size
  refine wpAny_pyIter_dict lo hat ?_
  refine ⟨s.heap.objs.size, _, _, kvs.length, _, _, _, m₀, news, fun _ m n => m = m₀ ∧ n = news, rfl, KTurns.ofWalks (Walks.dictKeys (knd := knd) hh s.heap.objs.size d hne kvs ep) (fun i v s Q E st q => letGo_keyiter st.1 q), ?_, ?_, ?_, ?_, F.push _, fun p hp => ⟨Heap.get?_push_of_some _ (N p hp).1, (N p hp).2⟩, ⟨rfl, rfl⟩, ?_, ?_⟩
  · intro hI
    rcases List.mem_cons.mp hI with e | hI
    · exact absurd F.ns.lt (e ▸ Nat.lt_irrefl _)
    · have e : env.locals = d := List.mem_singleton.mp hI
      exact absurd hd0 (by rw [← e]; exact Nat.not_lt.mpr F.above)
  · intro b hb
    rw [List.mem_singleton.mp hb]
    exact next_is_new F
  · intro p hp hI
    exact absurd (Heap.lt_size (N p hp).1) ((List.mem_singleton.mp hI) ▸ Nat.lt_irrefl _)
  · exact ⟨⟨_, Heap.get?_push_size _ rfl, rfl, rfl⟩, hat.push _⟩
  · intro i v m₁ news₁ h₁ tk₁ own hi
    rw [← hlen] at hi
    exact absurd hi (Nat.not_lt_zero _)
  · rintro h' tk m' news' F' N' _ ⟨rfl, rfl⟩
    exact fin h' tk F' N'
end
/-- the walk is held here -/
noncomputable def Hold (P : Prop) : Prop := P
theorem hold_at (a : Addr) {M : Model} {A : Around} {args : List Value} {Q E : Value → Shared → Prop} {s : Shared} (h : Hold (wpAny M A (call (.ref a) args) Q E s)) : wpAny M A (call (.ref a) args) Q E s := h
theorem hold {P : Prop} (h : Hold P) : P := h
section
variable {prog : Program} {w : World} {A : Around} {E : Value → Shared → Prop} {s : Shared} {h₀ h : Heap} {L D b : Addr} {m : Str → Option Value} {news : List (Addr × Obj)} {news' : Nat → List (Addr × Obj)} {its its2 : Array Value} {l : List Value} {n n2 : Nat}
theorem ext_any {Q : Value → Shared → Prop} (F : Fr h₀ L s.heap m) (N : News h₀ L s.heap news) (hb : (b, listOf its2 n2) ∈ news) (e : its.toList ++ its2.toList = l)
    (U : ∀ k, Upd D (listOf its n) (listOf l.toArray k) news (news' k)) (hz : its.size + its2.size ≤ 100000)
    (h : ∀ h' k, Fr h₀ L h' m → News h₀ L h' (news' k) → Q .none { s with heap := h' }) : wpAny (model prog w) A (call (.builtin "list.extend") [.ref D, .ref b]) Q E s := by
  have hs : sizeLine = 16777216 := rfl
  have hd : ¬(!its.isEmpty && Builtin.List.listTooLong (its.size + its2.size)) = true := by
    have : Builtin.List.listTooLong (its.size + its2.size) = false := by
      unfold Builtin.List.listTooLong
      first | (simp; omega) | (apply decide_eq_false; omega)
    rw [this, Bool.and_false]
    exact Bool.false_ne_true
  by_cases hne : its2.toList.length = 0
  · have e0 : its2.toList = [] := List.eq_nil_of_length_eq_zero hne
    have e1 : l = its.toList := by rw [← e, e0, List.append_nil]
    subst e1
    have U' := U n
    simp only [Array.toArray_toList] at U'
    exact kxn_extend F N hb e0 U' hd (by simp; omega) (by omega) fun h' F' N' => h h' n F' N'
  · exact kl_extend F N hb e hne (U (n + 1)) hd (by simp; omega) (by omega) fun h' F' N' => h h' (n + 1) F' N'
end
theorem frGen {h₀ h : Heap} {L : Addr} {m : Str → Option Value} (x y : Str) {a b : Value} (F : Fr h₀ L h m) (e1 : m x = some a) (e2 : m y = some b) : ∃ mm, Fr h₀ L h mm ∧ mm x = some a ∧ mm y = some b := ⟨m, F, e1, e2⟩
theorem newsLast {g h : Heap} {L : Addr} {a b c d : Addr × Obj} (N : News g L h [a, b, c, d]) : News g L h [c, d] := newsDrop N fun p hp => List.mem_cons_of_mem _ (List.mem_cons_of_mem _ hp)
/-- how a heap's trees are walked from a list of items to be walked -/
inductive Run (h : Heap) : List Value → List Value → List Value → Prop
  | done {f : List Value} : Run h [] f f
  | step {ls f r ks : List Value} {x : Addr} {nm : Str} {par occ shp : Value} {kl : Addr} {kn : Nat} : It h x nm par occ shp kl → h.get? kl = some (listOf ks.toArray kn) → ls.length ≤ 1000 → ks.length ≤ 1000 → f.length ≤ 1000 →
      Run h (ls ++ ks.reverse) (f ++ [.ref x]) r → Run h (ls ++ [.ref x]) f r
theorem Run.ext {h h' : Heap} {l f r : List Value} (R : Run h l f r) (e : Ext h h') : Run h' l f r := by
  induction R with
  | done => exact .done
  | step I k a b c _ ih => exact .step (I.ext e) (e _ _ k) a b c ih
theorem runGen {h h₀ h' : Heap} {L l f : Addr} {v : Value} {r : List Value} {a b : Nat} (R : Run h [v] [] r) (N : News h₀ L h' [(l, listOf #[v] a), (f, listOf #[] b)]) :
    ∃ ln fd n1 n2, Run h ln fd r ∧ News h₀ L h' [(l, listOf (List.toArray ln) n1), (f, listOf (List.toArray fd) n2)] := ⟨_, _, _, _, R, N⟩
end
section
/-- a shape, as the heap bears it -/
noncomputable def Shp (h : Heap) (x : Addr) (cat : Str) : Prop := ∃ dx es n t, h.get? x = some (instObj 353 dx) ∧ h.get? dx = some (dictOf es n) ∧ getL (Str.ofString "category") es = some (some (.str cat t))
theorem Shp.ext {h h' : Heap} {x : Addr} {cat : Str} (i : Shp h x cat) (e : Ext h h') : Shp h' x cat := by
  obtain ⟨dx, es, n, t, a, b, c⟩ := i
  exact ⟨dx, es, n, t, e _ _ a, e _ _ b, c⟩
/-- an item with its kids and its shape -/
noncomputable def ItS (h : Heap) (x : Addr) (nm : Str) (par occ : Value) (cat : Str) (ks : List Value) : Prop :=
  ∃ kl kn sh, It h x nm par occ (.ref sh) kl ∧ h.get? kl = some (listOf ks.toArray kn) ∧ Shp h sh cat
theorem ItS.ext {h h' : Heap} {x : Addr} {nm : Str} {par occ : Value} {cat : Str} {ks : List Value} (i : ItS h x nm par occ cat ks) (e : Ext h h') : ItS h' x nm par occ cat ks := by
  obtain ⟨kl, kn, sh, a, b, c⟩ := i
  exact ⟨kl, kn, sh, a.ext e, e _ _ b, c.ext e⟩
/-- the data's addresses -/
structure Ad where
  (d R AL AN AE NU NE IX T K U V Q0 W0 Q1 W1 oT oU : Addr)
noncomputable abbrev sName (s : String) : Str := Str.ofString s
/-- the data that the law builds -/
structure Dat (w : World) (h : Heap) (a : Ad) : Prop where
  top : ∃ dd des dn fd wl wn ll ln xd, h.get? a.d = some (instObj 162 dd) ∧ h.get? dd = some (dictOf des dn) ∧ getL (Str.ofString "files") des = some (some (.ref fd)) ∧ getL (Str.ofString "working") des = some (some (.ref wl)) ∧
    getL (Str.ofString "linkage") des = some (some (.ref ll)) ∧ getL (Str.ofString "indexes") des = some (some (.ref xd)) ∧ TabAt (PySem.strKind PySem.Challenge.rw_og0093_01.row.prog w) PyData.str h fd [] ∧
    h.get? wl = some (listOf [Value.ref a.R, .ref a.Q0, .ref a.Q1].toArray wn) ∧ h.get? ll = some (listOf #[] ln) ∧
    (xd == sysModules) = false ∧ h.DictOf (PySem.strKind PySem.Challenge.rw_og0093_01.row.prog w) xd [(Str.ofString "T-I", .ref a.T), (Str.ofString "U-I", .ref a.U)]
  R : ItS h a.R (Str.ofString "R") .none .none (Str.ofString "group") [.ref a.AL, .ref a.AN, .ref a.AE, .ref a.NU, .ref a.NE, .ref a.IX, .ref a.T]
  AL : ItS h a.AL (Str.ofString "AL") (.ref a.R) .none (Str.ofString "alphabetic") []
  AN : ItS h a.AN (Str.ofString "AN") (.ref a.R) .none (Str.ofString "alphanumeric") []
  AE : ItS h a.AE (Str.ofString "AE") (.ref a.R) .none (Str.ofString "alnum-edited") []
  NU : ItS h a.NU (Str.ofString "NU") (.ref a.R) .none (Str.ofString "numeric") []
  NE : ItS h a.NE (Str.ofString "NE") (.ref a.R) .none (Str.ofString "edited") []
  IX : ItS h a.IX (Str.ofString "IX") (.ref a.R) .none (Str.ofString "index") []
  T : ItS h a.T (Str.ofString "T") (.ref a.R) (.ref a.oT) (Str.ofString "group") [.ref a.K, .ref a.U]
  K : ItS h a.K (Str.ofString "K") (.ref a.T) .none (Str.ofString "numeric") []
  U : ItS h a.U (Str.ofString "U") (.ref a.T) (.ref a.oU) (Str.ofString "group") [.ref a.V]
  V : ItS h a.V (Str.ofString "V") (.ref a.U) .none (Str.ofString "numeric") []
  Q0 : ItS h a.Q0 (Str.ofString "Q0") .none .none (Str.ofString "group") [.ref a.W0]
  W0 : ItS h a.W0 (Str.ofString "TWICE") (.ref a.Q0) .none (Str.ofString "numeric") []
  Q1 : ItS h a.Q1 (Str.ofString "Q1") .none .none (Str.ofString "group") [.ref a.W1]
  W1 : ItS h a.W1 (Str.ofString "TWICE") (.ref a.Q1) .none (Str.ofString "numeric") []
theorem Dat.ext {w : World} {h h' : Heap} {a : Ad} (x : Dat w h a) (e : Ext h h') : Dat w h' a := by
  obtain ⟨⟨dd, des, dn, fd, wl, wn, ll, ln, xd, p1, p2, p3, p4, p5, p6, p7, p8, p9, p11, p10⟩, x1, x2, x3, x4, x5, x6, x7, x8, x9, x10, x11, x12, x13, x14, x15⟩ := x
  exact ⟨⟨dd, des, dn, fd, wl, wn, ll, ln, xd, e _ _ p1, e _ _ p2, p3, p4, p5, p6, p7.keep e, e _ _ p8, e _ _ p9, p11, p10.keep e⟩, x1.ext e, x2.ext e, x3.ext e, x4.ext e, x5.ext e, x6.ext e, x7.ext e, x8.ext e, x9.ext e, x10.ext e, x11.ext e, x12.ext e, x13.ext e, x14.ext e, x15.ext e⟩
theorem runStep {h : Heap} {ls f r ks : List Value} {x : Addr} {nm : Str} {par occ : Value} {cat : Str} (I : ItS h x nm par occ cat ks) (R : Run h (ls ++ ks.reverse) (f ++ [.ref x]) r) (z1 : ls.length ≤ 1000) (z2 : ks.length ≤ 1000) (z3 : f.length ≤ 1000) : Run h (ls ++ [.ref x]) f r := by
  obtain ⟨kl, kn, sh, a, b, c⟩ := I
  exact .step a b z1 z2 z3 R
noncomputable abbrev Ad.rs (a : Ad) : List Value := [.ref a.R, .ref a.AL, .ref a.AN, .ref a.AE, .ref a.NU, .ref a.NE, .ref a.IX, .ref a.T, .ref a.K, .ref a.U, .ref a.V]
theorem Dat.runR {w : World} {h : Heap} {a : Ad} (x : Dat w h a) : Run h [.ref a.R] [] a.rs := by
  refine runStep (ls := []) x.R ?_ (by simp) (by simp) (by simp)
  refine runStep (ls := [.ref a.T, .ref a.IX, .ref a.NE, .ref a.NU, .ref a.AE, .ref a.AN]) x.AL ?_ (by simp) (by simp) (by simp)
  refine runStep (ls := [.ref a.T, .ref a.IX, .ref a.NE, .ref a.NU, .ref a.AE]) x.AN ?_ (by simp) (by simp) (by simp)
  refine runStep (ls := [.ref a.T, .ref a.IX, .ref a.NE, .ref a.NU]) x.AE ?_ (by simp) (by simp) (by simp)
  refine runStep (ls := [.ref a.T, .ref a.IX, .ref a.NE]) x.NU ?_ (by simp) (by simp) (by simp)
  refine runStep (ls := [.ref a.T, .ref a.IX]) x.NE ?_ (by simp) (by simp) (by simp)
  refine runStep (ls := [.ref a.T]) x.IX ?_ (by simp) (by simp) (by simp)
  refine runStep (ls := []) x.T ?_ (by simp) (by simp) (by simp)
  refine runStep (ls := [.ref a.U]) x.K ?_ (by simp) (by simp) (by simp)
  refine runStep (ls := []) x.U ?_ (by simp) (by simp) (by simp)
  refine runStep (ls := []) x.V ?_ (by simp) (by simp) (by simp)
  exact .done
theorem Dat.runQ0 {w : World} {h : Heap} {a : Ad} (x : Dat w h a) : Run h [.ref a.Q0] [] [.ref a.Q0, .ref a.W0] := by
  refine runStep (ls := []) x.Q0 ?_ (by simp) (by simp) (by simp)
  refine runStep (ls := []) x.W0 ?_ (by simp) (by simp) (by simp)
  exact .done
theorem Dat.runQ1 {w : World} {h : Heap} {a : Ad} (x : Dat w h a) : Run h [.ref a.Q1] [] [.ref a.Q1, .ref a.W1] := by
  refine runStep (ls := []) x.Q1 ?_ (by simp) (by simp) (by simp)
  refine runStep (ls := []) x.W1 ?_ (by simp) (by simp) (by simp)
  exact .done
noncomputable abbrev Ad.all (a : Ad) : List Value := [.ref a.R, .ref a.AL, .ref a.AN, .ref a.AE, .ref a.NU, .ref a.NE, .ref a.IX, .ref a.T, .ref a.K, .ref a.U, .ref a.V, .ref a.Q0, .ref a.W0, .ref a.Q1, .ref a.W1]
noncomputable abbrev Ad.xs (a : Ad) : List (Addr × Str) := [(a.R, Str.ofString "R"), (a.AL, Str.ofString "AL"), (a.AN, Str.ofString "AN"), (a.AE, Str.ofString "AE"), (a.NU, Str.ofString "NU"), (a.NE, Str.ofString "NE"), (a.IX, Str.ofString "IX"), (a.T, Str.ofString "T"), (a.K, Str.ofString "K"), (a.U, Str.ofString "U"), (a.V, Str.ofString "V"), (a.Q0, Str.ofString "Q0"), (a.W0, Str.ofString "TWICE"), (a.Q1, Str.ofString "Q1"), (a.W1, Str.ofString "TWICE")]
theorem ItS.it {h : Heap} {x : Addr} {nm : Str} {par occ : Value} {cat : Str} {ks : List Value} (i : ItS h x nm par occ cat ks) : ∃ par occ shp kl, It h x nm par occ shp kl := by
  obtain ⟨kl, kn, sh, a, b, c⟩ := i
  exact ⟨_, _, _, _, a⟩
theorem Dat.its {w : World} {h : Heap} {a : Ad} (D : Dat w h a) : ∀ p ∈ a.xs, ∃ par occ shp kl, It h p.1 p.2 par occ shp kl := by
  intro p hp
  simp only [Ad.xs, List.mem_cons, List.not_mem_nil, or_false] at hp
  rcases hp with rfl | rfl | rfl | rfl | rfl | rfl | rfl | rfl | rfl | rfl | rfl | rfl | rfl | rfl | rfl
  · exact D.R.it
  · exact D.AL.it
  · exact D.AN.it
  · exact D.AE.it
  · exact D.NU.it
  · exact D.NE.it
  · exact D.IX.it
  · exact D.T.it
  · exact D.K.it
  · exact D.U.it
  · exact D.V.it
  · exact D.Q0.it
  · exact D.W0.it
  · exact D.Q1.it
  · exact D.W1.it
theorem allPick {xs : List (Addr × Str)} {P : Addr × Str → Prop} (hx : ∀ p ∈ xs, P p) {i : Nat} {v : Value} (hv : ((xs.map fun p => Value.ref p.1).toArray)[i]? = some v) : ∃ p, xs[i]? = some p ∧ v = .ref p.1 ∧ P p := by
  simp only [List.getElem?_toArray, List.getElem?_map] at hv
  cases e : xs[i]? with
  | none => rw [e] at hv; cases hv
  | some p =>
    rw [e] at hv
    cases hv
    exact ⟨p, rfl, rfl, hx p (List.mem_of_getElem? e)⟩
theorem takeSucc {xs : List (Addr × Str)} {q : Addr × Str → Bool} {i : Nat} {p : Addr × Str} (e : xs[i]? = some p) : (xs.take (i + 1)).filter q = (xs.take i).filter q ++ if q p then [p] else [] := by
  have hi : i < xs.length := (List.getElem?_eq_some_iff.mp e).1
  have hp := (List.getElem?_eq_some_iff.mp e).2
  rw [List.take_succ, e, List.filter_append]
  cases h : q p <;> simp [h]
/-- how many tables stand around an item -/
inductive TabN (h : Heap) : Addr → Nat → Prop
  | top {x kl : Addr} {nm : Str} {shp : Value} : It h x nm .none .none shp kl → TabN h x 0
  | leaf {x kl x1 kl1 : Addr} {nm nm1 : Str} {shp shp1 : Value} : It h x nm (.ref x1) .none shp kl → It h x1 nm1 .none .none shp1 kl1 → TabN h x 0
  | deep {x kl x1 kl1 x2 kl2 o : Addr} {nm nm1 nm2 : Str} {shp shp1 shp2 : Value} : It h x nm (.ref x1) .none shp kl → It h x1 nm1 (.ref x2) (.ref o) shp1 kl1 → It h x2 nm2 .none .none shp2 kl2 → TabN h x 1
theorem TabN.ext {h h' : Heap} {x : Addr} {k : Nat} (t : TabN h x k) (e : Ext h h') : TabN h' x k := by
  cases t with
  | top i => exact .top (i.ext e)
  | leaf i j => exact .leaf (i.ext e) (j.ext e)
  | deep i j k => exact .deep (i.ext e) (j.ext e) (k.ext e)
theorem in_dict {prog : Program} {w : World} {A : Around} {E : Value → Shared → Prop} {s : Shared} {d : Addr} {k : Str} {t : Tok} {kvs : List (Str × Value)} {Q : Value → Shared → Prop} (lo : (d == sysModules) = false)
    (D : s.heap.DictOf (PySem.strKind prog w) d kvs) (h : Q (.bool (valueAt kvs k).isSome) { s with toks := s.toks + 1 }) : wpAny (model prog w) A (compareOp .In (.str k t) (.ref d)) Q E s :=
  wpAny_in_of (strKind_is prog w k t) lo D.mapOf h
/-- a reference without a part: its name, its subscripts -/
noncomputable def RefT (h : Heap) (o : Addr) (nm : Str) (sb : Addr) : Prop := ∃ t0 t1 q n, h.get? o = some (tupOf #[.str (Str.ofString "ref") t0, .str nm t1, .ref q, .ref sb, .none] n) ∧ h.IsTuple q #[]
theorem isTuple_ext {h h' : Heap} {o : Addr} {its : Array Value} (i : h.IsTuple o its) (e : Ext h h') : h'.IsTuple o its := by
  obtain ⟨a, b, c⟩ := i
  exact ⟨a, e _ _ b, c⟩
theorem RefT.ext {h h' : Heap} {o sb : Addr} {nm : Str} (r : RefT h o nm sb) (e : Ext h h') : RefT h' o nm sb := by
  obtain ⟨t0, t1, q, n, a, b⟩ := r
  exact ⟨t0, t1, q, n, e _ _ a, isTuple_ext b e⟩
noncomputable abbrev Ad.ix (a : Ad) : List (Str × Value) := [(Str.ofString "T-I", Value.ref a.T), (Str.ofString "U-I", Value.ref a.U)]
/-- a name that one item alone bears -/
noncomputable def Hit (h : Heap) (a : Ad) (nm : Str) (x : Addr) (cat : Str) (k : Nat) : Prop :=
  ∃ par occ sh kl ps, It h x nm par occ (.ref sh) kl ∧ Shp h sh cat ∧ Chain h par ps ∧ ps.length ≤ 2 ∧ (∀ p ∈ ps, (p.2 != Str.ofString "FILLER") = true) ∧ a.xs.filter (fun p => p.2 == nm) = [(x, nm)] ∧ TabN h x k
theorem Hit.ext {h h' : Heap} {a : Ad} {nm cat : Str} {x : Addr} {k : Nat} (t : Hit h a nm x cat k) (e : Ext h h') : Hit h' a nm x cat k := by
  obtain ⟨par, occ, sh, kl, ps, i, j, c, l, f, u, n⟩ := t
  exact ⟨par, occ, sh, kl, ps, i.ext e, j.ext e, c.ext e, l, f, u, n.ext e⟩
theorem hitTop {h : Heap} {a : Ad} {nm : Str} {x : Addr} {cat : Str} {ks : List Value} (i : ItS h x nm .none .none cat ks) (u : a.xs.filter (fun p => p.2 == nm) = [(x, nm)]) : Hit h a nm x cat 0 := by
  obtain ⟨kl, kn, sh, i, k, s⟩ := i
  exact ⟨_, _, sh, kl, [], i, s, .nil, Nat.zero_le _, fun p hp => (nomatch hp), u, .top i⟩
theorem hitLeaf {h : Heap} {a : Ad} {nm n1 : Str} {x x1 : Addr} {cat c1 : Str} {ks ks1 : List Value} (i : ItS h x nm (.ref x1) .none cat ks) (j : ItS h x1 n1 .none .none c1 ks1) (f1 : (n1 != Str.ofString "FILLER") = true) (u : a.xs.filter (fun p => p.2 == nm) = [(x, nm)]) : Hit h a nm x cat 0 := by
  obtain ⟨kl, kn, sh, i, k, s⟩ := i
  obtain ⟨kl1, kn1, sh1, i1, k1, s1⟩ := j
  exact ⟨_, _, sh, kl, [(x1, n1)], i, s, .cons i1 .nil, Nat.le_of_ble_eq_true rfl, (fun p hp => by
    cases hp with
    | head => exact f1
    | tail _ h => cases h), u, .leaf i i1⟩
theorem hitDeep {h : Heap} {a : Ad} {nm n1 n2 : Str} {x x1 x2 o : Addr} {cat c1 c2 : Str} {ks ks1 ks2 : List Value} (i : ItS h x nm (.ref x1) .none cat ks) (j : ItS h x1 n1 (.ref x2) (.ref o) c1 ks1) (l : ItS h x2 n2 .none .none c2 ks2)
    (f1 : (n1 != Str.ofString "FILLER") = true) (f2 : (n2 != Str.ofString "FILLER") = true) (u : a.xs.filter (fun p => p.2 == nm) = [(x, nm)]) : Hit h a nm x cat 1 := by
  obtain ⟨kl, kn, sh, i, k, s⟩ := i
  obtain ⟨kl1, kn1, sh1, i1, k1, s1⟩ := j
  obtain ⟨kl2, kn2, sh2, i2, k2, s2⟩ := l
  exact ⟨_, _, sh, kl, [(x1, n1), (x2, n2)], i, s, .cons i1 (.cons i2 .nil), Nat.le_of_ble_eq_true rfl, (fun p hp => by
    cases hp with
    | head => exact f1
    | tail _ h => cases h with
      | head => exact f2
      | tail _ h => cases h), u, .deep i i1 i2⟩
section
variable {w : World} {h : Heap} {a : Ad}
theorem Dat.hR (D : Dat w h a) : Hit h a (Str.ofString "R") a.R (Str.ofString "group") 0 := hitTop D.R (by rfl)
theorem Dat.hAL (D : Dat w h a) : Hit h a (Str.ofString "AL") a.AL (Str.ofString "alphabetic") 0 := hitLeaf D.AL D.R (by rfl) (by rfl)
theorem Dat.hAN (D : Dat w h a) : Hit h a (Str.ofString "AN") a.AN (Str.ofString "alphanumeric") 0 := hitLeaf D.AN D.R (by rfl) (by rfl)
theorem Dat.hAE (D : Dat w h a) : Hit h a (Str.ofString "AE") a.AE (Str.ofString "alnum-edited") 0 := hitLeaf D.AE D.R (by rfl) (by rfl)
theorem Dat.hNU (D : Dat w h a) : Hit h a (Str.ofString "NU") a.NU (Str.ofString "numeric") 0 := hitLeaf D.NU D.R (by rfl) (by rfl)
theorem Dat.hNE (D : Dat w h a) : Hit h a (Str.ofString "NE") a.NE (Str.ofString "edited") 0 := hitLeaf D.NE D.R (by rfl) (by rfl)
theorem Dat.hIX (D : Dat w h a) : Hit h a (Str.ofString "IX") a.IX (Str.ofString "index") 0 := hitLeaf D.IX D.R (by rfl) (by rfl)
theorem Dat.hK (D : Dat w h a) : Hit h a (Str.ofString "K") a.K (Str.ofString "numeric") 1 := hitDeep D.K D.T D.R (by rfl) (by rfl) (by rfl)
end
theorem restInd {prog : Program} {w : World} {A : Around} {h₀ : Heap} {L : Addr} {m : Str → Option Value} {env : Env} {ct elt : Expr} {x : Str} {scope : Scope} {cl : List (Str × Addr)} {s : Shared} {S : List (Addr × Obj) → Prop} {P : Nat → Value → Prop} {Fin : List Value → List (Addr × Obj) → Prop} {news : List (Addr × Obj)} {n : Nat}
    (J : Nat → List Value → Prop) (h0 : J 0 [])
    (step : ∀ k i ys, J i ys → (∀ ys', J (i + 1) ys' → LCt.CompRestT prog w A h₀ L m env ct elt x scope cl s S P Fin k (i + 1) ys' news) → LCt.CompRestT prog w A h₀ L m env ct elt x scope cl s S P Fin (k + 1) i ys news)
    (fin : ∀ ys, J n ys → Fin ys news) : LCt.CompRestT prog w A h₀ L m env ct elt x scope cl s S P Fin n 0 [] news := by
  have key : ∀ k i ys, i + k = n → J i ys → LCt.CompRestT prog w A h₀ L m env ct elt x scope cl s S P Fin k i ys news := by
    intro k
    induction k with
    | zero =>
      intro i ys hi hJ
      obtain rfl : i = n := by omega
      exact LCt.CompRestT.zero (fin ys hJ)
    | succ k ih =>
      intro i ys hi hJ
      exact step k i ys hJ fun ys' h' => ih (i + 1) ys' (by omega) h'
  exact key n 0 [] (by omega) h0
end
section
theorem gives_bytes_no (b : Array UInt8) (t : Tok) (c : Str) (u : Tok) : Gives (Builtin.«bytes.__eq__» ⟨[.bytes b t, .str c u], []⟩) (.val (Value.notImplemented)) := by
  refine .of_wp fun M A E s Q hq => ?_
  have go : ∀ k : Bool → Sem PySem.Fin, wpAny M A (k false) (fun fin s' => ∃ v, fin = Fin.done (Flow.ret v) ∧ Q v s') E s → wpAny M A (isInstance (.str c u) (.type "bytes") >>= k) (fun fin s' => ∃ v, fin = Fin.done (Flow.ret v) ∧ Q v s') E s := fun k h =>
    wpAny_bind (wpAny_isInstance (T := "str") (typeIs_str s c u) F.sub_str_bytes h)
  show wpAny M A (isInstance (.str c u) (.type "bytes") >>= fun r => _) _ E s
  refine go _ ?_
  refine go _ ?_
  rw [if_pos (show (!false) = true from rfl)]
  refine wpAny_bind (wpAny_rule ?_)
  exact wpAny_pure ⟨_, rfl, hq⟩
theorem gives_str_no (a : Str) (t : Tok) (b : Array UInt8) (u : Tok) : Gives (Builtin.«str.__eq__» ⟨[.str a t, .bytes b u], []⟩) (.val (Value.notImplemented)) :=
  .of_wp fun M A E s Q h => by obtain ⟨hp, g, d, tk, os⟩ := s; wp_walk; exact ⟨_, rfl, h⟩
section
variable {prog : Program} {w : World} {A : Around} {E : Value → Shared → Prop} {s : Shared}
theorem eq_bytes_str (b : Array UInt8) (t : Tok) (c : Str) (u : Tok) : EqAt A s (.bytes b t) (.str c u) false := fun prog w E Q h => by
  unfold eqBool
  refine wpAny_holding ?_
  refine wpAny_ite_split (fun hab => absurd (eq_of_beq hab) nofun) (fun _ => ?_)
  refine wpAny_bind ?_
  exact rc_eq_decline_or (k := false) (Ta := "bytes") (Tb := "str") rfl rfl (by decide) (by rw [isSubtype_type]; kernel_rfl) FB.slot_bytes_eq F.slot_str_eq_refl
    (fun _ hq => call_gives FB.slot_bytes_eq (T := "bytes") rfl FB.entry_bytes_eq (FB.args_bytes_eq_2 _ _) (gives_bytes_no b t c u) hq)
    (fun _ hq => call_gives F.slot_str_eq_refl (T := "str") rfl F.entry_str_eq (F.args_str_eq_2 _ _) (gives_str_no c u b t) hq)
    (fun _ hq => wpAny_of_eq (rfl : isSame (.bytes b t) (.str c u) = pure false) hq) (.inl rfl) (wpAny_truthy_bool h)
theorem eq_two {a b : Addr} {y : Value} {u v : Str} {t1 t2 t3 : Tok} {p : Str} {e2 : Bool} {Q : Value → Shared → Prop} (hl : s.heap.IsTuple a #[.str p t1, y]) (hb : s.heap.IsTuple b #[.str u t2, .str v t3])
    (h2 : EqAt A.in1 s y (.str v t3) e2) (hu : A.units < cLine) (h : Q (.bool ((p == u) && e2)) s) : wpAny (model prog w) A (compareOp .Eq (.ref a) (.ref b)) Q E s := by
  refine cmp_ofEq ?_
  refine RcAt.tuples hl hb hu (e := fun j => if j = 0 then (p == u) else e2) (fun j h1 _ => ?_) prog w E Q ?_
  · match j, h1 with
    | 0, _ => exact EqAt.str_str p t1 u t2
    | 1, _ => exact h2
  · have : ((List.range (min (#[Value.str p t1, y] : Array Value).size (#[Value.str u t2, Value.str v t3] : Array Value).size)).all (fun j => if j = 0 then (p == u) else e2) && (#[Value.str p t1, y] : Array Value).size == (#[Value.str u t2, Value.str v t3] : Array Value).size) = ((p == u) && e2) := by
      cases h3 : (p == u) <;> cases e2 <;> simp [List.range, List.range.loop, h3]
    rw [this]; exact h
theorem eq_isZero {a b : Addr} {t1 t2 t3 t4 : Tok} {Q : Value → Shared → Prop} (hl : s.heap.IsTuple a #[.str (Str.ofString "figure") t1, .str (Str.ofString "ZERO") t4]) (hb : s.heap.IsTuple b #[.str (Str.ofString "figure") t2, .str (Str.ofString "ZERO") t3])
    (hu : A.units < cLine) (h : Q (.bool true) s) : wpAny (model prog w) A (compareOp .Eq (.ref a) (.ref b)) Q E s := eq_two hl hb (EqAt.str_str _ _ _ _) hu h
theorem eq_isSpace {a b : Addr} {t1 t2 t3 t4 : Tok} {Q : Value → Shared → Prop} (hl : s.heap.IsTuple a #[.str (Str.ofString "figure") t1, .str (Str.ofString "SPACE") t4]) (hb : s.heap.IsTuple b #[.str (Str.ofString "figure") t2, .str (Str.ofString "ZERO") t3])
    (hu : A.units < cLine) (h : Q (.bool false) s) : wpAny (model prog w) A (compareOp .Eq (.ref a) (.ref b)) Q E s := eq_two hl hb (EqAt.str_str _ _ _ _) hu h
theorem eq_isText {a b : Addr} {t1 t2 t3 t4 : Tok} {x : Array UInt8} {Q : Value → Shared → Prop} (hl : s.heap.IsTuple a #[.str (Str.ofString "text") t1, .bytes x t4]) (hb : s.heap.IsTuple b #[.str (Str.ofString "figure") t2, .str (Str.ofString "ZERO") t3])
    (hu : A.units < cLine) (h : Q (.bool false) s) : wpAny (model prog w) A (compareOp .Eq (.ref a) (.ref b)) Q E s := eq_two hl hb (eq_bytes_str _ _ _ _) hu h
end
section
variable {prog : Program} {w : World} {A : Around} {E : Value → Shared → Prop} {s : Shared} {env : Env} {h₀ : Heap} {target : Expr} {body : List Stmt} {Q : Flow → Shared → Prop}
theorem tupOff {ax : Addr} {L : Addr} {h : Heap} {vs : Array Value} {m₀ : Str → Option Value} (F : Fr h₀ L h m₀) (hl : h₀.IsTuple ax vs) : L ≠ ax := fun e => by
  obtain ⟨lo, hlo, _⟩ := hl
  exact absurd (Heap.lt_size hlo) (by rw [← e]; exact Nat.not_lt.mpr F.above)
theorem turnsTup0 {ax : Addr} {m₀ : Str → Option Value} {news : List (Addr × Obj)} (hh : A.handled = none) (F : Fr h₀ env.locals s.heap m₀) (N : News h₀ env.locals s.heap news)
    (hl : s.heap.IsTuple ax #[]) (hL : env.locals ≠ ax) (fin : ∀ h' tk, Fr h₀ env.locals h' m₀ → News h₀ env.locals h' news → Q .next { s with heap := h', toks := tk }) :
    wpAny (model prog w) A (pyIter (.ref ax)) (fun it s₂ => TurnsAt prog w A h₀ env target body Q E it s₂) E s := by
  obtain ⟨lo, hlo, hrest⟩ := hl
  have hne : ax ≠ s.heap.objs.size := Nat.ne_of_lt (Heap.lt_size hlo)
  refine wpAny_pyIter_tuple ⟨lo, hlo, hrest⟩ ?_
  refine ⟨s.heap.objs.size, _, _, 0, _, _, _, m₀, news, fun _ m n => m = m₀ ∧ n = news, rfl, KTurns.ofWalks (Walks.tuple hh s.heap.objs.size ax hne #[]) (fun i v s Q E st q => letGo_tupleiter st.1 q), ?_, ?_, ?_, ?_, F.push _, fun p hp => ⟨Heap.get?_push_of_some _ (N p hp).1, (N p hp).2⟩, ⟨rfl, rfl⟩, ?_, ?_⟩
  · intro hI
    rcases List.mem_cons.mp hI with e | hI
    · exact absurd F.ns.lt (e ▸ Nat.lt_irrefl _)
    · exact hL (List.mem_singleton.mp hI)
  · intro b hb
    rw [List.mem_singleton.mp hb]
    exact next_is_new F
  · intro p hp hI
    exact absurd (Heap.lt_size (N p hp).1) ((List.mem_singleton.mp hI) ▸ Nat.lt_irrefl _)
  · exact ⟨⟨_, Heap.get?_push_size _ rfl, rfl, rfl⟩, ⟨lo, Heap.get?_push_of_some _ hlo, hrest⟩⟩
  · intro i v m₁ news₁ h₁ tk₁ own hi
    exact absurd hi (Nat.not_lt_zero _)
  · rintro h' tk m' news' F' N' _ ⟨rfl, rfl⟩
    exact fin h' tk F' N'
end
/-- a def entered over a base that may lack what the callers made -/
theorem code0G {prog : Program} {w : World} {A : Around} {s : Shared} {b₀ : Heap} {news : List (Addr × Obj)} {K : Frag} {p : Program} {loose : List Str} {mean : ExcName → Option Value} {mg mb : Str → Option Value} {R : Result → Shared → Prop} {name qual : Str} {params : Arguments} {body : List Stmt} {scope : Scope} {dV kV doc pm cdv ct oc : Value} {an od : Option Addr} {osl : Array (Option Value)} {f : Addr} {args : Args} {binds : List (Str × Value)}
    (S : Ext b₀ s.heap) (Z : b₀.objs.size ≤ s.heap.objs.size) (N : ∀ p ∈ news, s.heap.get? p.1 = some p.2 ∧ b₀.get? p.1 = none) (X : K.In b₀) (T : Top p loose mean mg mb b₀)
    (ho : K.lookup f = some ⟨oc, od, .func (fnOf name qual params body scope dV kV doc pm an cdv ct), osl⟩) (hcd : codeIn K cdv qual = true) (hroom : A.depth < recursionLimit)
    (hbind : BindsTo s (fnOf name qual params body scope dV kV doc pm an cdv ct) args binds) (hloc : ∀ y ∈ binds, scope.names.lookup y.1 = some .local)
    (h : ∀ L' h₁, Fr b₀ L' h₁ (fun y => binds.reverse.lookup y) → News b₀ L' h₁ news → K.In b₀ → Top p loose mean mg mb b₀ →
      wpAny (model prog w) (A.deeper (envOf qual scope L' f cdv)) (execs body (envOf qual scope L' f cdv))
        (fun fl s' => R (.ok (.ret (match fl with | .ret v => v | _ => .none))) s')
        (fun e s' => wpAny (model prog w) (A.deeper (envOf qual scope L' f cdv)) (leaving (envOf qual scope L' f cdv) e) (fun _ s'' => R (.error e) s'') (fun e' s'' => R (.error e') s'') s')
        { s with heap := h₁, toks := s.toks + binds.length })
    (hco : scope.isCoroutine = false) (hgen : scope.isGenerator = false) (hk : scope.kind = .function)
    (hcell : ∀ x ∈ scope.names, x.2 ≠ .cell) : codeAny (model prog w) A (.call (.ref f) args) R s :=
  codeAny_call_def (fd := fnOf name qual params body scope dV kV doc pm an cdv ct) (body := body) (binds := binds) hroom (S _ _ (X _ _ ho)) rfl (T.keeps S).nolimit (codeRec_of (X.keeps S) hcd) rfl hbind hcell hloc
    (fun h₁ hns hk₁ => h s.heap.objs.size h₁ ⟨hns, fun b o e => hk₁ _ _ (S _ _ e), Z⟩
      (fun p hp => ⟨hk₁ _ _ (N p hp).1, Nat.ne_of_lt (Heap.lt_size (N p hp).1), (N p hp).2⟩) X T) hco hgen hk
theorem rm1 {x a b c d : Nat} (h : x + a < b) (e : Nat.ble (1 + c) a = true) (f : Nat.ble b d = true) : x + 1 + c < d := by have := Nat.le_of_ble_eq_true e; have := Nat.le_of_ble_eq_true f; omega
theorem um1 {x a b c d : Nat} (h : x + a < b) (e : Nat.ble (3 + c) a = true) (f : Nat.ble b d = true) : x + 3 + c < d := by have := Nat.le_of_ble_eq_true e; have := Nat.le_of_ble_eq_true f; omega
section
variable {M : Model} {A : Around} {E : Value → Shared → Prop} {s : Shared}
theorem at_call {a : Addr} {x : List Value} {k : List (Str × Value)} {Q : Value → Shared → Prop} (h : wpAny M A (call (.ref a) x k) Q E s) : wpAny M A (call (.ref a) x k) Q E s := h
theorem at_ext {x : List Value} {k : List (Str × Value)} {Q : Value → Shared → Prop} (h : wpAny M A (call (.builtin "list.extend") x k) Q E s) : wpAny M A (call (.builtin "list.extend") x k) Q E s := h
theorem at_app {x : List Value} {k : List (Str × Value)} {Q : Value → Shared → Prop} (h : wpAny M A (call (.builtin "list.append") x k) Q E s) : wpAny M A (call (.builtin "list.append") x k) Q E s := h
theorem at_pop {x : List Value} {k : List (Str × Value)} {Q : Value → Shared → Prop} (h : wpAny M A (call (.builtin "list.pop") x k) Q E s) : wpAny M A (call (.builtin "list.pop") x k) Q E s := h
theorem at_set {a : Addr} {n : Str} {v : Value} {Q : Unit → Shared → Prop} (h : wpAny M A (setAttr (.ref a) n v) Q E s) : wpAny M A (setAttr (.ref a) n v) Q E s := h
theorem at_seti {a : Addr} {k : Int} {t : Tok} {v : Value} {Q : Unit → Shared → Prop} (h : wpAny M A (setItem (.ref a) (.int k t) v) Q E s) : wpAny M A (setItem (.ref a) (.int k t) v) Q E s := h
theorem at_get {a : Addr} {n : Str} {b : Bool} {Q : Value → Shared → Prop} (h : wpAny M A (getAttr (.ref a) n b) Q E s) : wpAny M A (getAttr (.ref a) n b) Q E s := h
theorem at_gm {a : Addr} {n : Str} {p : Sem Bool} {Q : Value × List Value → Shared → Prop} (h : wpAny M A (getMethod (.ref a) n p) Q E s) : wpAny M A (getMethod (.ref a) n p) Q E s := h
theorem at_bin {a b : Addr} {o : Operator} {Q : Value → Shared → Prop} (h : wpAny M A (binaryOp o (.ref a) (.ref b)) Q E s) : wpAny M A (binaryOp o (.ref a) (.ref b)) Q E s := h
theorem at_cmp {a b : Addr} {o : CmpOp} {Q : Value → Shared → Prop} (h : wpAny M A (compareOp o (.ref a) (.ref b)) Q E s) : wpAny M A (compareOp o (.ref a) (.ref b)) Q E s := h
theorem at_iter {a : Addr} {Q : Value → Shared → Prop} (h : wpAny M A (pyIter (.ref a)) Q E s) : wpAny M A (pyIter (.ref a)) Q E s := h
theorem at_sub {v l : PySem.Expr} {a : Addr} {i : Value} {Q : Value → Shared → Prop} (h : wpAny M A (subscriptTail v l (.ref a) i) Q E s) : wpAny M A (subscriptTail v l (.ref a) i) Q E s := h
theorem at_name {n : Str} {p : Pos} {env : Env} {Q : Value → Shared → Prop} (h : wpAny M A (eval (.Name n p) env) Q E s) : wpAny M A (eval (.Name n p) env) Q E s := h
theorem at_for {t i : PySem.Expr} {b o : List Stmt} {p : Pos} {env : Env} {Q : Flow → Shared → Prop} (h : wpAny M A (exec (.For t i b o p) env) Q E s) : wpAny M A (exec (.For t i b o p) env) Q E s := h
end
end
local macro_rules | `(tactic| wtm_at "rm") => `(tactic| first | decide | omega)
local macro_rules | `(tactic| wtm_at "D") => `(tactic| first | omega | (simp only [depth_deeper, depth_caller]; omega))
local macro_rules | `(tactic| wtm_at "U") => `(tactic| first | omega | (simp only [units_deeper, units_caller]; omega))
local macro_rules | `(tactic| wtm_at "T") => `(tactic| exact Top.keeps (by k_asm) (Fr.keep (by k_asm)))
local macro_rules | `(tactic| wtm_at "nm") => `(tactic| exact (by with_reducible assumption : ∀ p : Addr × Obj, p ∈ (_ : List (Addr × Obj)) → Prod.fst p ≠ _) (_, _) (by kpt_turns))
local macro_rules | `(tactic| wtm_at "q0") => `(tactic| with_reducible assumption)
local macro_rules | `(tactic| wtm_at "q1") => `(tactic| first | with_reducible assumption | exact And.right (by wtm_at "q0"))
local macro_rules | `(tactic| wtm_at "q2") => `(tactic| first | with_reducible assumption | exact And.right (by wtm_at "q1"))
local macro_rules | `(tactic| wtm_at "q3") => `(tactic| first | with_reducible assumption | exact And.right (by wtm_at "q2"))
local macro_rules | `(tactic| wtm_at "q4") => `(tactic| first | with_reducible assumption | exact And.right (by wtm_at "q3"))
local macro_rules | `(tactic| wtm_at "q5") => `(tactic| first | with_reducible assumption | exact And.right (by wtm_at "q4"))
local macro_rules | `(tactic| wtm_at "q6") => `(tactic| first | with_reducible assumption | exact And.right (by wtm_at "q5"))
local macro_rules | `(tactic| wtm_at "pk") => `(tactic| first | exact And.left (by wtm_at "q6") | wtm_at "q6" | exact And.left (And.left (by wtm_at "q6")) | exact And.left (And.right (And.left (by wtm_at "q6"))) | exact And.right (And.right (And.left (by wtm_at "q6"))))
local macro_rules | `(tactic| wtm_at "PA") => `(tactic| ((rename Fr _ _ _ _ => kF0); (rename News _ _ _ _ => kN0); (rename _ = none => hr'); (rename _ = some _ => ho'); (rename Ext _ _ => hE'); (have F' := Fr.keeps kF0 hE'); (have N' := newsAdd kF0 kN0 hE' ho' hr'); (have l' := newsNe kN0 hr'); clear kF0 kN0 hE' ho' hr'; (try k_sweep)))
local macro_rules | `(tactic| wtm_at "PM") => `(tactic| (wtm_at "PA"; (rename News _ _ _ _ => N'); (try simp only [List.map] at N'); (try k_sweep)))
local macro_rules | `(tactic| wtm_at "PK") => `(tactic| ((rename Fr _ _ _ _ => kF0); (rename News _ _ _ _ => kN0); (rename Ext _ _ => hE'); (have F' := Fr.keeps kF0 hE'); (have N' := newsKeep kN0 hE'); clear kF0 kN0 hE'; (try k_sweep)))
local macro_rules | `(tactic| wtm_at "s1") => `(tactic| first | (k_unfold; (try dsimp only)) | (k_unmd; k_unfold; (try dsimp only)))
local macro_rules | `(tactic| wtm_at "s2") => `(tactic| first | (k_end; wrow_close) | walk1 | (dsimp only; walk1) | (leave1; try dsimp only))
local macro_rules | `(tactic| k_room) => `(tactic| ((try simp only [depth_under_make, depth_under_kw, depth_in1, depth_deeper, depth_caller, recursionLimit, Nat.add_assoc, Nat.reduceAdd]); wtm_at "rm"))
local macro_rules | `(tactic| k_mem) => `(tactic| first | assumption | exact List.mem_cons_self | (refine List.mem_cons_of_mem _ ?_; k_mem) | (refine List.mem_append_right _ ?_; k_mem) | (refine List.mem_append_left _ ?_; k_mem))
local macro_rules | `(tactic| k_inst) => `(tactic| exact instBase (by k_asm) (by assumption) (by assumption))
local macro_rules | `(tactic| k_in) => `(tactic| first | with_reducible assumption | exact Frag.In.keeps (by k_asm) (Fr.keep (by k_asm)) | assumption)
local macro_rules | `(tactic| walk_at "getAttr ref") => `(tactic| (k_here; k_dflt (refine get_own (by k_asm) (by k_asm) (by k_inst) (by k_is) (by k_is) (by k_is) (by k_is) (by assumption) (by k_handed) ?_)))
local macro_rules | `(tactic| units_room) => `(tactic| ((try simp only [units_in1, units_deeper, Around.mark_units, Nat.add_assoc, Nat.reduceAdd]); (have hcL9 := cLine_is); omega))
local macro_rules | `(tactic| is_list) => `(tactic| first | exact News.isList (by k_asm) (by k_mem) | exact Fr.lst (by k_asm) (by assumption))
local macro_rules | `(tactic| walk_at "exec While Compare") => `(tactic| (k_here; k_dflt (refine whl_start 100 ?_)))
local macro_rules | `(tactic| ktr_unf) => `(tactic| first | assumption | exact It.ext (by assumption) (Fr.keep (by k_asm)) | exact Chain.ext (by assumption) (Fr.keep (by k_asm)) | exact Chain.nil | exact Chain.cons (by ktr_unf) (by ktr_unf))
local macro_rules | `(tactic| k_lt $h) => `(tactic| replace $h := ltNe $h)
local macro_rules | `(tactic| k_all) => `(tactic| first | assumption | exact List.forall_mem_nil _ | (refine' List.forall_mem_cons.mpr ⟨?a, ?b⟩; (case a => k_ne); (case b => k_all)))
local macro_rules | `(tactic| kpt_turns) => `(tactic| with_reducible first | exact List.mem_cons_self | (refine List.mem_cons_of_mem _ ?_; kpt_turns))
local macro_rules | `(tactic| k_ne) => `(tactic| first | with_reducible assumption | exact Ne.symm (by with_reducible assumption) | (refine neN ?_; (try dsimp only); first | assumption | exact Ne.symm (by assumption) | wtm_at "nm" | exact Ne.symm (by wtm_at "nm") | exact Nat.ne_of_gt (by assumption) | exact Nat.ne_of_lt (by assumption) | wtm_at "pk" | exact Ne.symm (by wtm_at "pk") | omega))
local macro_rules | `(tactic| k_steps) => `(tactic| repeat' (first | wtm_at "s1" | wtm_at "s2"))
example : PySem.Challenge.rw_og0093_01 = PySem.Challenge.rw_og0093_01 ∧ hd.heap_39 = hd.heap_39 := by
  k_fill
  exact ⟨rfl, rfl⟩
variable {w : World} {mean : ExcName → Option Value} {mg mb : Str → Option Value} {hh : Option Value} {dp un : Nat} {gd : Option (List Code)} {fr : Option (List Env)} {s : Shared} {Q E : Value → Shared → Prop}
section
-- Q1
example : True := by
  w_top off
  trivial
theorem around_spec {x kl : Addr} {nm : Str} {par occ shp : Value} {ps : List (Addr × Str)} (X : (hd.heap_39 w.params).In s.heap) (T : Top V LS mean mg mb s.heap) (hdp : dp + 1 < 900) (hun : un + 10 < 9000) (I : It s.heap x nm par occ shp kl) (C : Chain s.heap par ps) (hl : ps.length ≤ 2)
    (hQ : ∀ r n h' tk, Ext s.heap h' → h'.get? r = some (listOf (ps.map (fun p => Value.ref p.1)).toArray n) → s.heap.get? r = none → Q (.ref r) { s with heap := h', toks := tk }) :
    wpAny (model PySem.Challenge.rw_og0093_01.row.prog w) (AT hh dp fr gd un) (call (.ref 194) [.ref x]) Q E s := by
  obtain ⟨dx, es, n, tn, a0, a1, a2, a3, a4, a5, a6⟩ := I
  cases C with
  | nil =>
    ((refine wpAny_call ?_; k_dflt (refine' code0 ?k19 ?k59 ?k69 ?k79 ?k89 ?k99 ?kB9 ?_ ?c29 ?c39 ?c49 ?c59; (case k19 => k_asm); (case k59 => k_asm); (case k69 => k_is); (case k79 => k_is); (case k89 => (simp only [recursionLimit]; omega)); (case k99 => first | exact BindsTo.of_eq rfl | exact binds_K (by k_in) rfl (by k_is) rfl rfl rfl); (case c59 => decide); (case kB9 => exact locs rfl); (case c29 => exact rfl); (case c39 => exact rfl); (case c49 => exact rfl); k_whole; intro L'9 h'9 F'9 N'9 X'9 T'9; (try dsimp only); (try k_fold))))
    k_steps
    refine' hQ _ _ _ _ ?e1 ?e2 ?e3
    (case e1 => exact Fr.keep (by assumption))
    (case e2 => exact News.get (by assumption) (by k_mem))
    (case e3 => exact News.fresh (by assumption) (by k_mem))
  | cons I1 C =>
    obtain ⟨dx1, es1, n1, tn1, b0, b1, b2, b3, b4, b5, b6⟩ := I1
    cases C with
    | nil =>
      ((refine wpAny_call ?_; k_dflt (refine' code0 ?k19 ?k59 ?k69 ?k79 ?k89 ?k99 ?kB9 ?_ ?c29 ?c39 ?c49 ?c59; (case k19 => k_asm); (case k59 => k_asm); (case k69 => k_is); (case k79 => k_is); (case k89 => (simp only [recursionLimit]; omega)); (case k99 => first | exact BindsTo.of_eq rfl | exact binds_K (by k_in) rfl (by k_is) rfl rfl rfl); (case c59 => decide); (case kB9 => exact locs rfl); (case c29 => exact rfl); (case c39 => exact rfl); (case c49 => exact rfl); k_whole; intro L'9 h'9 F'9 N'9 X'9 T'9; (try dsimp only); (try k_fold))))
      k_steps
      refine' hQ _ _ _ _ ?e1 ?e2 ?e3
      (case e1 => exact Fr.keep (by assumption))
      (case e2 => exact News.get (by assumption) (by k_mem))
      (case e3 => exact News.fresh (by assumption) (by k_mem))
    | cons I2 C =>
      obtain ⟨dx2, es2, n2, tn2, c0, c1, c2, c3, c4, c5, c6⟩ := I2
      cases C with
      | nil =>
        ((refine wpAny_call ?_; k_dflt (refine' code0 ?k19 ?k59 ?k69 ?k79 ?k89 ?k99 ?kB9 ?_ ?c29 ?c39 ?c49 ?c59; (case k19 => k_asm); (case k59 => k_asm); (case k69 => k_is); (case k79 => k_is); (case k89 => (simp only [recursionLimit]; omega)); (case k99 => first | exact BindsTo.of_eq rfl | exact binds_K (by k_in) rfl (by k_is) rfl rfl rfl); (case c59 => decide); (case kB9 => exact locs rfl); (case c29 => exact rfl); (case c39 => exact rfl); (case c49 => exact rfl); k_whole; intro L'9 h'9 F'9 N'9 X'9 T'9; (try dsimp only); (try k_fold))))
        k_steps
        refine' hQ _ _ _ _ ?e1 ?e2 ?e3
        (case e1 => exact Fr.keep (by assumption))
        (case e2 => exact News.get (by assumption) (by k_mem))
        (case e3 => exact News.fresh (by assumption) (by k_mem))
      | cons _ _ => simp at hl
end
section
-- Q2
example : True := by
  w_top off
  trivial
theorem root_spec {x kl : Addr} {nm : Str} {par occ shp : Value} {ps : List (Addr × Str)} (X : (hd.heap_39 w.params).In s.heap) (T : Top V LS mean mg mb s.heap) (hdp : dp + 2 < 900) (hun : un + 20 < 9000) (I : It s.heap x nm par occ shp kl) (C : Chain s.heap par ps) (hl : ps.length ≤ 2)
    (hQ : ∀ h' tk, Ext s.heap h' → Q (.ref ((ps.map (·.1)).getLastD x)) { s with heap := h', toks := tk }) :
    wpAny (model PySem.Challenge.rw_og0093_01.row.prog w) (AT hh dp fr gd un) (call (.ref 201) [.ref x]) Q E s := by
  have C0 := C
  cases C with
  | nil =>
    ((refine wpAny_call ?_; k_dflt (refine' code0 ?k19 ?k59 ?k69 ?k79 ?k89 ?k99 ?kB9 ?_ ?c29 ?c39 ?c49 ?c59; (case k19 => k_asm); (case k59 => k_asm); (case k69 => k_is); (case k79 => k_is); (case k89 => (simp only [recursionLimit]; omega)); (case k99 => first | exact BindsTo.of_eq rfl | exact binds_K (by k_in) rfl (by k_is) rfl rfl rfl); (case c59 => decide); (case kB9 => exact locs rfl); (case c29 => exact rfl); (case c39 => exact rfl); (case c49 => exact rfl); k_whole; intro L'9 h'9 F'9 N'9 X'9 T'9; (try dsimp only); (try k_fold))))
    (repeat' (first | wtm_at "s1" | ((fail_if_success fail_if_success with_reducible refine at_call ?_); ((with_reducible show wpAny _ _ (call (.ref 194) _ _) _ _ _); (k_dflt (refine' around_spec (by k_in) (by wtm_at "T") (by first | exact rm1 hdp rfl rfl | wtm_at "D") (by first | exact um1 hun rfl rfl | wtm_at "U") ?sI9 ?sC9 ?sl9 ?_; (case sI9 => ktr_unf); (case sC9 => ktr_unf); (case sl9 => first | assumption | decide); k_whole); intros; wtm_at "PM"))) | ((fail_if_success fail_if_success with_reducible refine at_cmp ?_); (first | ((with_reducible show wpAny _ _ (compareOp CmpOp.NotEq (Value.ref _) (Value.ref _)) _ _ _); k_dflt (first | (refine' ne_nil_t ?a9 ?b9 ?c9 ?_; (case b9 => is_list); (case a9 => is_list); (case c9 => units_room); k_whole) | (refine' ne_nil_f ?a9 ?b9 ?c9 ?d9 ?_; (case b9 => is_list); (case a9 => is_list); (case c9 => units_room); (case d9 => first | exact rfl | (rw [List.size_toArray, List.length_append]; exact rfl)); k_whole) | (refine' ne_nil ?a9 ?b9 ?c9 ?_; (case b9 => is_list); (case a9 => is_list); (case c9 => units_room); k_whole))) | ((with_reducible show wpAny _ _ (compareOp CmpOp.Eq (Value.ref _) (Value.ref _)) _ _ _); k_dflt (first | (refine' eq_nil_t ?a9 ?b9 ?c9 ?_; (case b9 => is_list); (case a9 => is_list); (case c9 => units_room); k_whole) | (refine' eq_nil_f ?a9 ?b9 ?c9 ?d9 ?_; (case b9 => is_list); (case a9 => is_list); (case c9 => units_room); (case d9 => first | exact rfl | (rw [List.size_toArray, List.length_append]; exact rfl)); k_whole) | (refine' eq_nil ?a9 ?b9 ?c9 ?_; (case b9 => is_list); (case a9 => is_list); (case c9 => units_room); k_whole))))) | wtm_at "s2"))
    exact hQ _ _ (Fr.keep (by assumption))
  | cons I1 C =>
    have J1 := I1
    obtain ⟨dx1, es1, n1, tn1, b0, b1, b2, b3, b4, b5, b6⟩ := I1
    cases C with
    | nil =>
      ((refine wpAny_call ?_; k_dflt (refine' code0 ?k19 ?k59 ?k69 ?k79 ?k89 ?k99 ?kB9 ?_ ?c29 ?c39 ?c49 ?c59; (case k19 => k_asm); (case k59 => k_asm); (case k69 => k_is); (case k79 => k_is); (case k89 => (simp only [recursionLimit]; omega)); (case k99 => first | exact BindsTo.of_eq rfl | exact binds_K (by k_in) rfl (by k_is) rfl rfl rfl); (case c59 => decide); (case kB9 => exact locs rfl); (case c29 => exact rfl); (case c39 => exact rfl); (case c49 => exact rfl); k_whole; intro L'9 h'9 F'9 N'9 X'9 T'9; (try dsimp only); (try k_fold))))
      (repeat' (first | wtm_at "s1" | ((fail_if_success fail_if_success with_reducible refine at_call ?_); ((with_reducible show wpAny _ _ (call (.ref 194) _ _) _ _ _); (k_dflt (refine' around_spec (by k_in) (by wtm_at "T") (by first | exact rm1 hdp rfl rfl | wtm_at "D") (by first | exact um1 hun rfl rfl | wtm_at "U") ?sI9 ?sC9 ?sl9 ?_; (case sI9 => ktr_unf); (case sC9 => ktr_unf); (case sl9 => first | assumption | decide); k_whole); intros; wtm_at "PM"))) | ((fail_if_success fail_if_success with_reducible refine at_cmp ?_); (first | ((with_reducible show wpAny _ _ (compareOp CmpOp.NotEq (Value.ref _) (Value.ref _)) _ _ _); k_dflt (first | (refine' ne_nil_t ?a9 ?b9 ?c9 ?_; (case b9 => is_list); (case a9 => is_list); (case c9 => units_room); k_whole) | (refine' ne_nil_f ?a9 ?b9 ?c9 ?d9 ?_; (case b9 => is_list); (case a9 => is_list); (case c9 => units_room); (case d9 => first | exact rfl | (rw [List.size_toArray, List.length_append]; exact rfl)); k_whole) | (refine' ne_nil ?a9 ?b9 ?c9 ?_; (case b9 => is_list); (case a9 => is_list); (case c9 => units_room); k_whole))) | ((with_reducible show wpAny _ _ (compareOp CmpOp.Eq (Value.ref _) (Value.ref _)) _ _ _); k_dflt (first | (refine' eq_nil_t ?a9 ?b9 ?c9 ?_; (case b9 => is_list); (case a9 => is_list); (case c9 => units_room); k_whole) | (refine' eq_nil_f ?a9 ?b9 ?c9 ?d9 ?_; (case b9 => is_list); (case a9 => is_list); (case c9 => units_room); (case d9 => first | exact rfl | (rw [List.size_toArray, List.length_append]; exact rfl)); k_whole) | (refine' eq_nil ?a9 ?b9 ?c9 ?_; (case b9 => is_list); (case a9 => is_list); (case c9 => units_room); k_whole))))) | wtm_at "s2"))
      exact hQ _ _ (Fr.keep (by assumption))
    | cons I2 C =>
      have J2 := I2
      obtain ⟨dx2, es2, n2, tn2, c0, c1, c2, c3, c4, c5, c6⟩ := I2
      cases C with
      | nil =>
        ((refine wpAny_call ?_; k_dflt (refine' code0 ?k19 ?k59 ?k69 ?k79 ?k89 ?k99 ?kB9 ?_ ?c29 ?c39 ?c49 ?c59; (case k19 => k_asm); (case k59 => k_asm); (case k69 => k_is); (case k79 => k_is); (case k89 => (simp only [recursionLimit]; omega)); (case k99 => first | exact BindsTo.of_eq rfl | exact binds_K (by k_in) rfl (by k_is) rfl rfl rfl); (case c59 => decide); (case kB9 => exact locs rfl); (case c29 => exact rfl); (case c39 => exact rfl); (case c49 => exact rfl); k_whole; intro L'9 h'9 F'9 N'9 X'9 T'9; (try dsimp only); (try k_fold))))
        (repeat' (first | wtm_at "s1" | ((fail_if_success fail_if_success with_reducible refine at_call ?_); ((with_reducible show wpAny _ _ (call (.ref 194) _ _) _ _ _); (k_dflt (refine' around_spec (by k_in) (by wtm_at "T") (by first | exact rm1 hdp rfl rfl | wtm_at "D") (by first | exact um1 hun rfl rfl | wtm_at "U") ?sI9 ?sC9 ?sl9 ?_; (case sI9 => ktr_unf); (case sC9 => ktr_unf); (case sl9 => first | assumption | decide); k_whole); intros; wtm_at "PM"))) | ((fail_if_success fail_if_success with_reducible refine at_cmp ?_); (first | ((with_reducible show wpAny _ _ (compareOp CmpOp.NotEq (Value.ref _) (Value.ref _)) _ _ _); k_dflt (first | (refine' ne_nil_t ?a9 ?b9 ?c9 ?_; (case b9 => is_list); (case a9 => is_list); (case c9 => units_room); k_whole) | (refine' ne_nil_f ?a9 ?b9 ?c9 ?d9 ?_; (case b9 => is_list); (case a9 => is_list); (case c9 => units_room); (case d9 => first | exact rfl | (rw [List.size_toArray, List.length_append]; exact rfl)); k_whole) | (refine' ne_nil ?a9 ?b9 ?c9 ?_; (case b9 => is_list); (case a9 => is_list); (case c9 => units_room); k_whole))) | ((with_reducible show wpAny _ _ (compareOp CmpOp.Eq (Value.ref _) (Value.ref _)) _ _ _); k_dflt (first | (refine' eq_nil_t ?a9 ?b9 ?c9 ?_; (case b9 => is_list); (case a9 => is_list); (case c9 => units_room); k_whole) | (refine' eq_nil_f ?a9 ?b9 ?c9 ?d9 ?_; (case b9 => is_list); (case a9 => is_list); (case c9 => units_room); (case d9 => first | exact rfl | (rw [List.size_toArray, List.length_append]; exact rfl)); k_whole) | (refine' eq_nil ?a9 ?b9 ?c9 ?_; (case b9 => is_list); (case a9 => is_list); (case c9 => units_room); k_whole))))) | wtm_at "s2"))
        exact hQ _ _ (Fr.keep (by assumption))
      | cons _ _ => simp at hl
end
section
-- Q3
example : True := by
  w_top off
  trivial
local macro_rules | `(tactic| walk_at "call ref") => `(tactic| (k_dflt (refine' around_spec (by k_in) (by wtm_at "T") (by wtm_at "D") (by wtm_at "U") ?sI ?sC ?sl ?_; (case sI => ktr_unf); (case sC => ktr_unf); (case sl => first | assumption | decide); k_whole); intros; wtm_at "PM"))
theorem names_spec {x kl : Addr} {nm : Str} {par occ shp : Value} {ps : List (Addr × Str)} (X : (hd.heap_39 w.params).In s.heap) (T : Top V LS mean mg mb s.heap) (hdp : dp + 2 < 900) (hun : un + 20 < 9000) (I : It s.heap x nm par occ shp kl) (C : Chain s.heap par ps) (hl : ps.length ≤ 2) (hn : ∀ p ∈ ps, (p.2 != Str.ofString "FILLER") = true)
    (hQ : ∀ r n ts h' tk, Ext s.heap h' → h'.get? r = some (listOf ((ps.zip ts).map (fun p => Value.str p.1.2 p.2)).toArray n) → s.heap.get? r = none → ts.length = ps.length → Q (.ref r) { s with heap := h', toks := tk }) :
    wpAny (model PySem.Challenge.rw_og0093_01.row.prog w) (AT none dp fr gd un) (call (.ref 206) [.ref x]) Q E s := by
  have C0 := C
  cases C with
  | nil =>
    ((refine wpAny_call ?_; k_dflt (refine' code0 ?k19 ?k59 ?k69 ?k79 ?k89 ?k99 ?kB9 ?_ ?c29 ?c39 ?c49 ?c59; (case k19 => k_asm); (case k59 => k_asm); (case k69 => k_is); (case k79 => k_is); (case k89 => (simp only [recursionLimit]; omega)); (case k99 => first | exact BindsTo.of_eq rfl | exact binds_K (by k_in) rfl (by k_is) rfl rfl rfl); (case c59 => decide); (case kB9 => exact locs rfl); (case c29 => exact rfl); (case c39 => exact rfl); (case c49 => exact rfl); k_whole; intro L'9 h'9 F'9 N'9 X'9 T'9; (try dsimp only); (try k_fold))))
    k_steps
    refine' hQ _ _ [] _ _ ?e1 ?e2 ?e3 ?e4
    (case e1 => exact Fr.keep (by assumption))
    (case e2 => exact News.get (by assumption) (by k_mem))
    (case e3 => exact News.fresh (by assumption) (by k_mem))
    (case e4 => exact rfl)
  | cons I1 C =>
    have J1 := I1
    have f1 := hn _ List.mem_cons_self
    dsimp only at f1
    obtain ⟨dx1, es1, n1, tn1, b0, b1, b2, b3, b4, b5, b6⟩ := I1
    cases C with
    | nil =>
      ((refine wpAny_call ?_; k_dflt (refine' code0 ?k19 ?k59 ?k69 ?k79 ?k89 ?k99 ?kB9 ?_ ?c29 ?c39 ?c49 ?c59; (case k19 => k_asm); (case k59 => k_asm); (case k69 => k_is); (case k79 => k_is); (case k89 => (simp only [recursionLimit]; omega)); (case k99 => first | exact BindsTo.of_eq rfl | exact binds_K (by k_in) rfl (by k_is) rfl rfl rfl); (case c59 => decide); (case kB9 => exact locs rfl); (case c29 => exact rfl); (case c39 => exact rfl); (case c49 => exact rfl); k_whole; intro L'9 h'9 F'9 N'9 X'9 T'9; (try dsimp only); (try k_fold))))
      k_steps
      refine' hQ _ _ [tn1] _ _ ?e1 ?e2 ?e3 ?e4
      (case e1 => exact Fr.keep (by assumption))
      (case e2 => exact News.get (by assumption) (by k_mem))
      (case e3 => exact News.fresh (by assumption) (by k_mem))
      (case e4 => exact rfl)
    | cons I2 C =>
      have J2 := I2
      have f2 := hn _ (List.mem_cons_of_mem _ List.mem_cons_self)
      dsimp only at f2
      obtain ⟨dx2, es2, n2, tn2, c0, c1, c2, c3, c4, c5, c6⟩ := I2
      cases C with
      | nil =>
        ((refine wpAny_call ?_; k_dflt (refine' code0 ?k19 ?k59 ?k69 ?k79 ?k89 ?k99 ?kB9 ?_ ?c29 ?c39 ?c49 ?c59; (case k19 => k_asm); (case k59 => k_asm); (case k69 => k_is); (case k79 => k_is); (case k89 => (simp only [recursionLimit]; omega)); (case k99 => first | exact BindsTo.of_eq rfl | exact binds_K (by k_in) rfl (by k_is) rfl rfl rfl); (case c59 => decide); (case kB9 => exact locs rfl); (case c29 => exact rfl); (case c39 => exact rfl); (case c49 => exact rfl); k_whole; intro L'9 h'9 F'9 N'9 X'9 T'9; (try dsimp only); (try k_fold))))
        k_steps
        refine' hQ _ _ [tn1, tn2] _ _ ?e1 ?e2 ?e3 ?e4
        (case e1 => exact Fr.keep (by assumption))
        (case e2 => exact News.get (by assumption) (by k_mem))
        (case e3 => exact News.fresh (by assumption) (by k_mem))
        (case e4 => exact rfl)
      | cons _ _ => simp at hl
end
section
-- Q4
example : True := by
  w_top off
  trivial
--CELLS
section
theorem file_spec {x kl d dd fd : Addr} {nm : Str} {par occ shp : Value} {ps : List (Addr × Str)} {des : List DictEntry} {dn : Nat} (X : (hd.heap_39 w.params).In s.heap) (T : Top V LS mean mg mb s.heap) (hdp : dp + 3 < 900) (hun : un + 30 < 9000) (I : It s.heap x nm par occ shp kl) (C : Chain s.heap par ps) (hl : ps.length ≤ 2) (d0 : s.heap.get? d = some (instObj 162 dd)) (d1 : s.heap.get? dd = some (dictOf des dn)) (d2 : getL (Str.ofString "files") des = some (some (.ref fd))) (d4 : TabAt (PySem.strKind PySem.Challenge.rw_og0093_01.row.prog w) PyData.str s.heap fd [])
    (hQ : ∀ t h' tk, Ext s.heap h' → Q (.str (Str.ofString "") t) { s with heap := h', toks := tk }) :
    wpAny (model PySem.Challenge.rw_og0093_01.row.prog w) (AT none dp fr gd un) (call (.ref 216) [.ref d, .ref x]) Q E s := by
  ((first | (refine wpAny_call ?_; k_dflt (refine' code0 ?k19 ?k59 ?k69 ?k79 ?k89 ?k99 ?kB9 ?_ ?c29 ?c39 ?c49 ?c59; (case k19 => k_asm); (case k59 => k_asm); (case k69 => k_is); (case k79 => k_is); (case k89 => (simp only [recursionLimit]; omega)); (case k99 => first | exact BindsTo.of_eq rfl | exact binds_K (by k_in) rfl (by k_is) rfl rfl rfl); (case c59 => decide); (case kB9 => exact locs rfl); (case c29 => exact rfl); (case c39 => exact rfl); (case c49 => exact rfl); k_whole; intro L'9 h'9 F'9 N'9 X'9 T'9; (try dsimp only); (try k_fold))) | (refine wpAny_call ?_; k_dflt (refine' code0C ?k19 ?k59 ?k69 ?k79 ?k89 ?k99 ?kB9 ?kD9 ?_ ?c29 ?c39 ?c49; (case k19 => k_asm); (case k59 => k_asm); (case k69 => k_is); (case k79 => k_is); (case k89 => (simp only [recursionLimit]; omega)); (case k99 => first | exact BindsTo.of_eq rfl | exact binds_K (by k_in) rfl (by k_is) rfl rfl rfl); (case kB9 => exact rfl); (case kD9 => decide +kernel); (case c29 => exact rfl); (case c39 => exact rfl); (case c49 => exact rfl); k_whole; intro L'9 h'9 tk'9 cells'9 F'9 N'9 Y'9 X'9 T'9; k_cells Y'9; (try simp only [List.cons_append, List.nil_append] at N'9); (try dsimp only); (try k_fold)))))
  (repeat' (first | wtm_at "s1" | ((fail_if_success fail_if_success with_reducible refine at_call ?_); ((with_reducible show wpAny _ _ (call (.ref 201) _ _) _ _ _); (k_dflt (refine' root_spec (by k_in) (by wtm_at "T") (by first | exact rm1 hdp rfl rfl | wtm_at "D") (by first | exact um1 hun rfl rfl | wtm_at "U") ?sI9 ?sC9 ?sl9 ?_; (case sI9 => ktr_unf); (case sC9 => ktr_unf); (case sl9 => first | assumption | decide); k_whole); intros; wtm_at "PK"))) | ((fail_if_success fail_if_success with_reducible refine at_for ?_); (k_dflt (refine For_turns (by k_asm) ?_))) | wtm_at "s2"))
  refine turnsDict0 rfl (by k_asm) (by k_asm) d4 ?_
  intro h' tk' F' N'
  (repeat' (first | wtm_at "s1" | ((fail_if_success fail_if_success with_reducible refine at_call ?_); ((with_reducible show wpAny _ _ (call (.ref 201) _ _) _ _ _); (k_dflt (refine' root_spec (by k_in) (by wtm_at "T") (by first | exact rm1 hdp rfl rfl | wtm_at "D") (by first | exact um1 hun rfl rfl | wtm_at "U") ?sI9 ?sC9 ?sl9 ?_; (case sI9 => ktr_unf); (case sC9 => ktr_unf); (case sl9 => first | assumption | decide); k_whole); intros; wtm_at "PK"))) | ((fail_if_success fail_if_success with_reducible refine at_for ?_); (k_dflt (refine For_turns (by k_asm) ?_))) | wtm_at "s2"))
  exact hQ _ _ _ (Fr.keep (by assumption))
end
end
section
-- Q5
example : True := by
  w_top off
  trivial
section
theorem leads_spec {a q : Addr} {its : Array Value} (X : (hd.heap_39 w.params).In s.heap) (T : Top V LS mean mg mb s.heap) (hdp : dp + 2 < 900) (hun : un + 20 < 9000) (l1 : s.heap.IsList a its) (q1 : s.heap.IsTuple q #[])
    (hQ : ∀ h' tk, Ext s.heap h' → Q (.bool true) { s with heap := h', toks := tk }) :
    wpAny (model PySem.Challenge.rw_og0093_01.row.prog w) (AT none dp fr gd un) (call (.ref 223) [.ref a, .ref q]) Q E s := by
  ((refine wpAny_call ?_; k_dflt (refine' code0 ?k19 ?k59 ?k69 ?k79 ?k89 ?k99 ?kB9 ?_ ?c29 ?c39 ?c49 ?c59; (case k19 => k_asm); (case k59 => k_asm); (case k69 => k_is); (case k79 => k_is); (case k89 => (simp only [recursionLimit]; omega)); (case k99 => first | exact BindsTo.of_eq rfl | exact binds_K (by k_in) rfl (by k_is) rfl rfl rfl); (case c59 => decide); (case kB9 => exact locs rfl); (case c29 => exact rfl); (case c39 => exact rfl); (case c49 => exact rfl); k_whole; intro L'9 h'9 F'9 N'9 X'9 T'9; (try dsimp only); (try k_fold))))
  (repeat' (first | wtm_at "s1" | ((fail_if_success fail_if_success with_reducible refine at_for ?_); (k_dflt (refine For_turns (by k_asm) ?_))) | ((fail_if_success fail_if_success with_reducible refine at_name ?_); (k_dflt (refine' ld ?k19 ?k29 ?_; (case k19 => k_asm); (case k29 => first | assumption | (rw [if_neg (by decide)]; assumption)); k_whole))) | wtm_at "s2"))
  refine turnsList rfl (by k_asm) (by k_asm) l1 (fun _ m n => (∃ t, m (Str.ofString "at") = some (.int 0 t)) ∧ m (Str.ofString "qualifiers") = some (.ref q) ∧ n = []) ⟨⟨_, rfl⟩, rfl, rfl⟩ ?_ ?_
  · intro i v m₁ news₁ h₁ tk₁ I oI hv hJ ho F1 N1
    obtain ⟨⟨t, hm1⟩, hm2, rfl⟩ := hJ
    (repeat' (first | wtm_at "s1" | ((fail_if_success fail_if_success with_reducible refine at_for ?_); (k_dflt (refine For_turns (by k_asm) ?_))) | ((fail_if_success fail_if_success with_reducible refine at_name ?_); (k_dflt (refine' ld ?k19 ?k29 ?_; (case k19 => k_asm); (case k29 => first | assumption | (rw [if_neg (by decide)]; assumption)); k_whole))) | wtm_at "s2"))
    exact ⟨_, _, _, [], rfl, by assumption, by assumption, fun _ h9 => (nomatch h9), ⟨⟨_, by rw [if_neg (by decide)]; exact hm1⟩, by rw [if_neg (by decide)]; exact hm2, rfl⟩⟩
  · rintro h' tk' m' news' F1 N1 ⟨⟨t, hm1⟩, hm2, rfl⟩
    (repeat' (first | wtm_at "s1" | ((fail_if_success fail_if_success with_reducible refine at_for ?_); (k_dflt (refine For_turns (by k_asm) ?_))) | ((fail_if_success fail_if_success with_reducible refine at_name ?_); (k_dflt (refine' ld ?k19 ?k29 ?_; (case k19 => k_asm); (case k29 => first | assumption | (rw [if_neg (by decide)]; assumption)); k_whole))) | wtm_at "s2"))
    exact hQ _ _ (Fr.keep (by assumption))
end
end
section
-- Q6
example : True := by
  w_top off
  trivial
section
theorem records_spec {d dd fd wl ll : Addr} {des : List DictEntry} {dn wn ln : Nat} {ws : List Value} (X : (hd.heap_39 w.params).In s.heap) (T : Top V LS mean mg mb s.heap) (hdp : dp + 2 < 900) (hun : un + 20 < 9000) (d0 : s.heap.get? d = some (instObj 162 dd)) (d1 : s.heap.get? dd = some (dictOf des dn)) (d2 : getL (Str.ofString "files") des = some (some (.ref fd))) (d4 : TabAt (PySem.strKind PySem.Challenge.rw_og0093_01.row.prog w) PyData.str s.heap fd []) (d5 : getL (Str.ofString "working") des = some (some (.ref wl))) (d6 : getL (Str.ofString "linkage") des = some (some (.ref ll))) (w0 : s.heap.get? wl = some (listOf ws.toArray wn)) (l0 : s.heap.get? ll = some (listOf #[] ln)) (wz : ws.length ≤ 100)
    (hQ : ∀ r n h' tk, Ext s.heap h' → h'.get? r = some (listOf ws.toArray n) → s.heap.get? r = none → Q (.ref r) { s with heap := h', toks := tk }) :
    wpAny (model PySem.Challenge.rw_og0093_01.row.prog w) (AT none dp fr gd un) (call (.ref 173) [.ref d]) Q E s := by
  have w1 : s.heap.IsList wl ws.toArray := ⟨_, w0, rfl, _, rfl⟩
  have l1 : s.heap.IsList ll #[] := ⟨_, l0, rfl, _, rfl⟩
  ((refine wpAny_call ?_; k_dflt (refine' code0 ?k19 ?k59 ?k69 ?k79 ?k89 ?k99 ?kB9 ?_ ?c29 ?c39 ?c49 ?c59; (case k19 => k_asm); (case k59 => k_asm); (case k69 => k_is); (case k79 => k_is); (case k89 => (simp only [recursionLimit]; omega)); (case k99 => first | exact BindsTo.of_eq rfl | exact binds_K (by k_in) rfl (by k_is) rfl rfl rfl); (case c59 => decide); (case kB9 => exact locs rfl); (case c29 => exact rfl); (case c39 => exact rfl); (case c49 => exact rfl); k_whole; intro L'9 h'9 F'9 N'9 X'9 T'9; (try dsimp only); (try k_fold))))
  (repeat' (first | wtm_at "s1" | ((fail_if_success fail_if_success with_reducible refine at_for ?_); (k_dflt (refine For_turns (by k_asm) ?_))) | wtm_at "s2"))
  refine turnsDict0 rfl (by k_asm) (by k_asm) d4 ?_
  intro h' tk' F' N'
  (repeat' (first | wtm_at "s1" | ((fail_if_success fail_if_success with_reducible refine at_for ?_); (k_dflt (refine For_turns (by k_asm) ?_))) | wtm_at "s2"))
  rename News _ _ _ _ => N9
  simp only [List.nil_append, List.append_nil] at N9
  refine' hQ _ _ _ _ ?e1 ?e2 ?e3
  (case e1 => exact Fr.keep (by assumption))
  (case e2 => exact News.get (by assumption) (by k_mem))
  (case e3 => exact News.fresh (by assumption) (by k_mem))

end
end
section
-- Q7
example : True := by
  w_top off
  trivial
section
local macro_rules | `(tactic| walk_at "exec While Compare") => `(tactic| (k_here; refine hold ?_))
local macro_rules | `(tactic| walk_at "WhlRest") => `(tactic| (refine hold ?_))
theorem under_spec {x : Addr} {rs : List Value} (X : (hd.heap_39 w.params).In s.heap) (T : Top V LS mean mg mb s.heap) (hdp : dp + 1 < 900) (hun : un + 10 < 9000) (R0 : Run s.heap [.ref x] [] rs)
    (hQ : ∀ r n h' tk, Ext s.heap h' → h'.get? r = some (listOf rs.toArray n) → s.heap.get? r = none → Q (.ref r) { s with heap := h', toks := tk }) :
    wpAny (model PySem.Challenge.rw_og0093_01.row.prog w) (AT none dp fr gd un) (call (.ref 180) [.ref x]) Q E s := by
  ((refine wpAny_call ?_; k_dflt (refine' code0 ?k19 ?k59 ?k69 ?k79 ?k89 ?k99 ?kB9 ?_ ?c29 ?c39 ?c49 ?c59; (case k19 => k_asm); (case k59 => k_asm); (case k69 => k_is); (case k79 => k_is); (case k89 => (simp only [recursionLimit]; omega)); (case k99 => first | exact BindsTo.of_eq rfl | exact binds_K (by k_in) rfl (by k_is) rfl rfl rfl); (case c59 => decide); (case kB9 => exact locs rfl); (case c29 => exact rfl); (case c39 => exact rfl); (case c49 => exact rfl); k_whole; intro L'9 h'9 F'9 N'9 X'9 T'9; (try dsimp only); (try k_fold))))
  (repeat' (first | wtm_at "s1" | ((fail_if_success fail_if_success with_reducible refine at_ext ?_); (k_dflt (refine' ext_any ?F9 ?N9 ?b9 ?e9 ?U9 ?z9 ?_; (case F9 => k_asm); (case N9 => k_asm); (case b9 => k_mem); (case U9 => (intro k9; k_upd)); (case e9 => exact rfl); (case z9 => (simp only [List.size_toArray, List.length_reverse]; omega)); k_whole); intro h'9 k'9 F'9 N'9; (try k_sweep))) | ((fail_if_success fail_if_success with_reducible refine at_sub ?_); (k_dflt (refine' krv_lit ?F9 ?N9 ?l9 ?k9 ?e9 ?_ ?s9 ?t9 ?z9; (case F9 => k_asm); (case N9 => k_asm); (case l9 => exact Fr.lst (by k_asm) (by assumption)); (case k9 => exact IsPart.int _ _); (case e9 => exact rfl); (case s9 => with_unfolding_all rfl); (case t9 => kmk_pure); (case z9 => (show _ ≤ 16777216; simp only [List.size_toArray]; omega))); intro D'9 h'9 F'9 N'9 l1; (try k_lt l1); (try k_sweep))) | ((fail_if_success fail_if_success with_reducible refine at_app ?_); (k_dflt (refine' append_K ?F9 ?N9 ?U9 ?_ ?z9; (case F9 => k_asm); (case N9 => k_asm); (case U9 => k_upd); (case z9 => (show _ ≤ 16777216; simp only [List.size_toArray]; omega)); k_whole); intro h'9 F'9 N'9; (try simp only [List.push_toArray] at N'9); (try k_sweep))) | ((fail_if_success fail_if_success with_reducible refine at_pop ?_); (k_dflt (refine' kl_pop ?F9 ?N9 ?e9 ?U9 ?z9 ?_; (case F9 => k_asm); (case N9 => k_asm); (case U9 => k_upd); (case e9 => exact kpa_last _ _); (case z9 => (show _ ≤ 16777216; simp only [List.length_append, List.length_cons, List.length_nil]; omega)); k_whole); intro h'9 F'9 N'9; (try k_sweep))) | ((fail_if_success fail_if_success with_reducible refine at_name ?_); (k_dflt (refine' ld ?k19 ?k29 ?_; (case k19 => k_asm); (case k29 => first | assumption | (rw [if_neg (by decide)]; assumption)); k_whole))) | ((fail_if_success fail_if_success with_reducible refine at_cmp ?_); (first | ((with_reducible show wpAny _ _ (compareOp CmpOp.NotEq (Value.ref _) (Value.ref _)) _ _ _); k_dflt (first | (refine' ne_nil_t ?a9 ?b9 ?c9 ?_; (case b9 => is_list); (case a9 => is_list); (case c9 => units_room); k_whole) | (refine' ne_nil_f ?a9 ?b9 ?c9 ?d9 ?_; (case b9 => is_list); (case a9 => is_list); (case c9 => units_room); (case d9 => first | exact rfl | (rw [List.size_toArray, List.length_append]; exact rfl)); k_whole) | (refine' ne_nil ?a9 ?b9 ?c9 ?_; (case b9 => is_list); (case a9 => is_list); (case c9 => units_room); k_whole))) | ((with_reducible show wpAny _ _ (compareOp CmpOp.Eq (Value.ref _) (Value.ref _)) _ _ _); k_dflt (first | (refine' eq_nil_t ?a9 ?b9 ?c9 ?_; (case b9 => is_list); (case a9 => is_list); (case c9 => units_room); k_whole) | (refine' eq_nil_f ?a9 ?b9 ?c9 ?d9 ?_; (case b9 => is_list); (case a9 => is_list); (case c9 => units_room); (case d9 => first | exact rfl | (rw [List.size_toArray, List.length_append]; exact rfl)); k_whole) | (refine' eq_nil ?a9 ?b9 ?c9 ?_; (case b9 => is_list); (case a9 => is_list); (case c9 => units_room); k_whole))))) | wtm_at "s2"))
  unfold Hold
  refine whl_start 1 ?_
  rename Fr _ _ _ _ => F0
  rename News _ _ _ _ => N0
  rename _ < _ => l0
  obtain ⟨mm, F1, e1, e2⟩ := frGen (Str.ofString "line") (Str.ofString "found") F0 rfl rfl
  clear F0
  obtain ⟨ln, fd, n1, n2, R1, N1⟩ := runGen R0 N0
  clear R0 N0
  rename_i t1 f1 h1 la h2 t2 l1 h3 h4
  clear la
  induction R1 generalizing h4 tk mm n1 n2 with
  | done =>
    refine whl_turn ?hE ?_
    case hE => first | passes_own | with_unfolding_all passes_own
    (repeat' (first | wtm_at "s1" | ((fail_if_success fail_if_success with_reducible refine at_ext ?_); (k_dflt (refine' ext_any ?F9 ?N9 ?b9 ?e9 ?U9 ?z9 ?_; (case F9 => k_asm); (case N9 => k_asm); (case b9 => k_mem); (case U9 => (intro k9; k_upd)); (case e9 => exact rfl); (case z9 => (simp only [List.size_toArray, List.length_reverse]; omega)); k_whole); intro h'9 k'9 F'9 N'9; (try k_sweep))) | ((fail_if_success fail_if_success with_reducible refine at_sub ?_); (k_dflt (refine' krv_lit ?F9 ?N9 ?l9 ?k9 ?e9 ?_ ?s9 ?t9 ?z9; (case F9 => k_asm); (case N9 => k_asm); (case l9 => exact Fr.lst (by k_asm) (by assumption)); (case k9 => exact IsPart.int _ _); (case e9 => exact rfl); (case s9 => with_unfolding_all rfl); (case t9 => kmk_pure); (case z9 => (show _ ≤ 16777216; simp only [List.size_toArray]; omega))); intro D'9 h'9 F'9 N'9 l1; (try k_lt l1); (try k_sweep))) | ((fail_if_success fail_if_success with_reducible refine at_app ?_); (k_dflt (refine' append_K ?F9 ?N9 ?U9 ?_ ?z9; (case F9 => k_asm); (case N9 => k_asm); (case U9 => k_upd); (case z9 => (show _ ≤ 16777216; simp only [List.size_toArray]; omega)); k_whole); intro h'9 F'9 N'9; (try simp only [List.push_toArray] at N'9); (try k_sweep))) | ((fail_if_success fail_if_success with_reducible refine at_pop ?_); (k_dflt (refine' kl_pop ?F9 ?N9 ?e9 ?U9 ?z9 ?_; (case F9 => k_asm); (case N9 => k_asm); (case U9 => k_upd); (case e9 => exact kpa_last _ _); (case z9 => (show _ ≤ 16777216; simp only [List.length_append, List.length_cons, List.length_nil]; omega)); k_whole); intro h'9 F'9 N'9; (try k_sweep))) | ((fail_if_success fail_if_success with_reducible refine at_name ?_); (k_dflt (refine' ld ?k19 ?k29 ?_; (case k19 => k_asm); (case k29 => first | assumption | (rw [if_neg (by decide)]; assumption)); k_whole))) | ((fail_if_success fail_if_success with_reducible refine at_cmp ?_); (first | ((with_reducible show wpAny _ _ (compareOp CmpOp.NotEq (Value.ref _) (Value.ref _)) _ _ _); k_dflt (first | (refine' ne_nil_t ?a9 ?b9 ?c9 ?_; (case b9 => is_list); (case a9 => is_list); (case c9 => units_room); k_whole) | (refine' ne_nil_f ?a9 ?b9 ?c9 ?d9 ?_; (case b9 => is_list); (case a9 => is_list); (case c9 => units_room); (case d9 => first | exact rfl | (rw [List.size_toArray, List.length_append]; exact rfl)); k_whole) | (refine' ne_nil ?a9 ?b9 ?c9 ?_; (case b9 => is_list); (case a9 => is_list); (case c9 => units_room); k_whole))) | ((with_reducible show wpAny _ _ (compareOp CmpOp.Eq (Value.ref _) (Value.ref _)) _ _ _); k_dflt (first | (refine' eq_nil_t ?a9 ?b9 ?c9 ?_; (case b9 => is_list); (case a9 => is_list); (case c9 => units_room); k_whole) | (refine' eq_nil_f ?a9 ?b9 ?c9 ?d9 ?_; (case b9 => is_list); (case a9 => is_list); (case c9 => units_room); (case d9 => first | exact rfl | (rw [List.size_toArray, List.length_append]; exact rfl)); k_whole) | (refine' eq_nil ?a9 ?b9 ?c9 ?_; (case b9 => is_list); (case a9 => is_list); (case c9 => units_room); k_whole))))) | wtm_at "s2"))
    refine' hQ _ _ _ _ ?e1 ?e2 ?e3
    (case e1 => exact Fr.keep (by assumption))
    (case e2 => exact News.get (by assumption) (by k_mem))
    (case e3 => exact News.fresh (by assumption) (by k_mem))
  | step I K0 z1 z2 z3 R2 ih =>
    obtain ⟨dx, es, n, tn, a0, a1, a2, a3, a4, a5, a6⟩ := I
    have K1 : s.heap.IsList _ _ := ⟨_, K0, rfl, _, rfl⟩
    refine whl_turn ?hE ?_
    case hE => first | passes_own | with_unfolding_all passes_own
    (repeat' (first | wtm_at "s1" | ((fail_if_success fail_if_success with_reducible refine at_ext ?_); (k_dflt (refine' ext_any ?F9 ?N9 ?b9 ?e9 ?U9 ?z9 ?_; (case F9 => k_asm); (case N9 => k_asm); (case b9 => k_mem); (case U9 => (intro k9; k_upd)); (case e9 => exact rfl); (case z9 => (simp only [List.size_toArray, List.length_reverse]; omega)); k_whole); intro h'9 k'9 F'9 N'9; (try k_sweep))) | ((fail_if_success fail_if_success with_reducible refine at_sub ?_); (k_dflt (refine' krv_lit ?F9 ?N9 ?l9 ?k9 ?e9 ?_ ?s9 ?t9 ?z9; (case F9 => k_asm); (case N9 => k_asm); (case l9 => exact Fr.lst (by k_asm) (by assumption)); (case k9 => exact IsPart.int _ _); (case e9 => exact rfl); (case s9 => with_unfolding_all rfl); (case t9 => kmk_pure); (case z9 => (show _ ≤ 16777216; simp only [List.size_toArray]; omega))); intro D'9 h'9 F'9 N'9 l1; (try k_lt l1); (try k_sweep))) | ((fail_if_success fail_if_success with_reducible refine at_app ?_); (k_dflt (refine' append_K ?F9 ?N9 ?U9 ?_ ?z9; (case F9 => k_asm); (case N9 => k_asm); (case U9 => k_upd); (case z9 => (show _ ≤ 16777216; simp only [List.size_toArray]; omega)); k_whole); intro h'9 F'9 N'9; (try simp only [List.push_toArray] at N'9); (try k_sweep))) | ((fail_if_success fail_if_success with_reducible refine at_pop ?_); (k_dflt (refine' kl_pop ?F9 ?N9 ?e9 ?U9 ?z9 ?_; (case F9 => k_asm); (case N9 => k_asm); (case U9 => k_upd); (case e9 => exact kpa_last _ _); (case z9 => (show _ ≤ 16777216; simp only [List.length_append, List.length_cons, List.length_nil]; omega)); k_whole); intro h'9 F'9 N'9; (try k_sweep))) | ((fail_if_success fail_if_success with_reducible refine at_name ?_); (k_dflt (refine' ld ?k19 ?k29 ?_; (case k19 => k_asm); (case k29 => first | assumption | (rw [if_neg (by decide)]; assumption)); k_whole))) | ((fail_if_success fail_if_success with_reducible refine at_cmp ?_); (first | ((with_reducible show wpAny _ _ (compareOp CmpOp.NotEq (Value.ref _) (Value.ref _)) _ _ _); k_dflt (first | (refine' ne_nil_t ?a9 ?b9 ?c9 ?_; (case b9 => is_list); (case a9 => is_list); (case c9 => units_room); k_whole) | (refine' ne_nil_f ?a9 ?b9 ?c9 ?d9 ?_; (case b9 => is_list); (case a9 => is_list); (case c9 => units_room); (case d9 => first | exact rfl | (rw [List.size_toArray, List.length_append]; exact rfl)); k_whole) | (refine' ne_nil ?a9 ?b9 ?c9 ?_; (case b9 => is_list); (case a9 => is_list); (case c9 => units_room); k_whole))) | ((with_reducible show wpAny _ _ (compareOp CmpOp.Eq (Value.ref _) (Value.ref _)) _ _ _); k_dflt (first | (refine' eq_nil_t ?a9 ?b9 ?c9 ?_; (case b9 => is_list); (case a9 => is_list); (case c9 => units_room); k_whole) | (refine' eq_nil_f ?a9 ?b9 ?c9 ?d9 ?_; (case b9 => is_list); (case a9 => is_list); (case c9 => units_room); (case d9 => first | exact rfl | (rw [List.size_toArray, List.length_append]; exact rfl)); k_whole) | (refine' eq_nil ?a9 ?b9 ?c9 ?_; (case b9 => is_list); (case a9 => is_list); (case c9 => units_room); k_whole))))) | wtm_at "s2"))
    unfold Hold
    rename News _ _ _ _ => N2
    have N3 := newsLast N2
    exact ih hQ _ _ _ (by assumption) (by rw [if_neg (by decide)]; exact e1) (by rw [if_neg (by decide)]; exact e2) _ _ N3
end
end
section
-- Q8
example : True := by
  w_top off
  trivial
section
theorem all_spec {a : Ad} (X : (hd.heap_39 w.params).In s.heap) (T : Top V LS mean mg mb s.heap) (hdp : dp + 4 < 900) (hun : un + 40 < 9000) (D : Dat w s.heap a)
    (hQ : ∀ r n h' tk, Ext s.heap h' → h'.get? r = some (listOf a.all.toArray n) → s.heap.get? r = none → Q (.ref r) { s with heap := h', toks := tk }) :
    wpAny (model PySem.Challenge.rw_og0093_01.row.prog w) (AT none dp fr gd un) (call (.ref 187) [.ref a.d]) Q E s := by
  obtain ⟨dd, des, dn, fd, wl, wn, ll, ln, xd, p1, p2, p3, p4, p5, p6, p7, p8, p9, p11, p10⟩ := D.top
  have r1 := D.runR
  have r2 := D.runQ0
  have r3 := D.runQ1
  clear D
  ((refine wpAny_call ?_; k_dflt (refine' code0 ?k19 ?k59 ?k69 ?k79 ?k89 ?k99 ?kB9 ?_ ?c29 ?c39 ?c49 ?c59; (case k19 => k_asm); (case k59 => k_asm); (case k69 => k_is); (case k79 => k_is); (case k89 => (simp only [recursionLimit]; omega)); (case k99 => first | exact BindsTo.of_eq rfl | exact binds_K (by k_in) rfl (by k_is) rfl rfl rfl); (case c59 => decide); (case kB9 => exact locs rfl); (case c29 => exact rfl); (case c39 => exact rfl); (case c49 => exact rfl); k_whole; intro L'9 h'9 F'9 N'9 X'9 T'9; (try dsimp only); (try k_fold))))
  (repeat' (first | wtm_at "s1" | ((fail_if_success fail_if_success with_reducible refine at_ext ?_); (k_dflt (refine' ext_any ?F9 ?N9 ?b9 ?e9 ?U9 ?z9 ?_; (case F9 => k_asm); (case N9 => k_asm); (case b9 => k_mem); (case U9 => (intro k9; k_upd)); (case e9 => exact rfl); (case z9 => exact Nat.le_of_ble_eq_true rfl); k_whole); intro h'9 k'9 F'9 N'9; (try k_sweep))) | ((fail_if_success fail_if_success with_reducible refine at_call ?_); (first | ((with_reducible show wpAny _ _ (call (.ref 173) _ _) _ _ _); (k_dflt (refine' records_spec (by k_in) (by wtm_at "T") (by first | exact rm1 hdp rfl rfl | wtm_at "D") (by first | exact um1 hun rfl rfl | wtm_at "U") ?d09 ?d19 ?d29 ?d49 ?d59 ?d69 ?w09 ?l09 ?wz9 ?_; (case d09 => first | assumption | exact Fr.keep (by k_asm) _ _ (by assumption)); (case d19 => first | assumption | exact Fr.keep (by k_asm) _ _ (by assumption)); (case d29 => assumption); (case d49 => exact TabAt.keep (by assumption) (Fr.keep (by k_asm))); (case d59 => assumption); (case d69 => assumption); (case w09 => first | assumption | exact Fr.keep (by k_asm) _ _ (by assumption)); (case l09 => first | assumption | exact Fr.keep (by k_asm) _ _ (by assumption)); (case wz9 => exact Nat.le_of_ble_eq_true rfl); k_whole); intros; wtm_at "PM")) | ((with_reducible show wpAny _ _ (call (.ref 180) _ _) _ _ _); (k_dflt (refine' under_spec (by k_in) (by wtm_at "T") (by first | exact rm1 hdp rfl rfl | wtm_at "D") (by first | exact um1 hun rfl rfl | wtm_at "U") ?R09 ?_; (case R09 => exact Run.ext (by assumption) (Fr.keep (by k_asm))); k_whole); intros; wtm_at "PM")))) | wtm_at "s2"))
  refine' hQ _ _ _ _ ?e1 ?e2 ?e3
  (case e1 => exact Fr.keep (by assumption))
  (case e2 => exact News.get (by assumption) (by k_mem))
  (case e3 => exact News.fresh (by assumption) (by k_mem))
end
end
section
-- Q10
example : True := by
  w_top off
  trivial
theorem one_spec {l : Addr} {nm : Str} {t : Tok} {v : Value} (X : (hd.heap_39 w.params).In s.heap) (T : Top V LS mean mg mb s.heap) (hdp : dp + 1 < 900) (hun : un + 10 < 9000) (l1 : s.heap.IsList l #[v])
    (hQ : ∀ h' tk, Ext s.heap h' → Q v { s with heap := h', toks := tk }) :
    wpAny (model PySem.Challenge.rw_og0093_01.row.prog w) (AT hh dp fr gd un) (call (.ref 230) [.ref l, .str nm t]) Q E s := by
  ((refine wpAny_call ?_; k_dflt (refine' code0 ?k19 ?k59 ?k69 ?k79 ?k89 ?k99 ?kB9 ?_ ?c29 ?c39 ?c49 ?c59; (case k19 => k_asm); (case k59 => k_asm); (case k69 => k_is); (case k79 => k_is); (case k89 => (simp only [recursionLimit]; omega)); (case k99 => first | exact BindsTo.of_eq rfl | exact binds_K (by k_in) rfl (by k_is) rfl rfl rfl); (case c59 => decide); (case kB9 => exact locs rfl); (case c29 => exact rfl); (case c39 => exact rfl); (case c49 => exact rfl); k_whole; intro L'9 h'9 F'9 N'9 X'9 T'9; (try dsimp only); (try k_fold))))
  k_steps
  all_goals (have z1 : #[v].size = 1 := rfl)
  all_goals first | (exfalso; omega) | exact hQ _ _ (Fr.keep (by assumption))
end
section
-- E1
example : True := by
  w_top off
  trivial
noncomputable abbrev mro60 : List Value := [.ref 47, .type "Exception", .type "BaseException", .type "object"]
noncomputable def Is60 (h : Heap) : Prop := ∃ nm q bs sn sub ab col dd k0 k1 k2 k3 k5, h.get? 60 = some (excClassObj nm q 60 59 bs mro60 true sn sub ab col dd k0 k1 k2 k3 k5 "Exception.__new__")
theorem is60 {h : Heap} (X : (hd.heap_39 w.params).In h) : Is60 h := by
  have e : (hd.heap_39 w.params).lookup 60 = some (excClassObj (Str.ofString "CheckFault") (Str.ofString "CheckFault") 60 59 [.ref 47] mro60 true [] [] false none none (some (.ref 51)) none (some (.str (Str.ofString "CheckFault") 236)) (some (.str (Str.ofString "CheckFault") 244)) (some (.bool true)) "Exception.__new__") := by k_is
  exact ⟨_, _, _, _, _, _, _, _, _, _, _, _, _, X _ _ e⟩
theorem Is60.ext {h h' : Heap} (x : Is60 h) (e : Ext h h') : Is60 h' := by
  obtain ⟨nm, q, bs, sn, sub, ab, col, dd, k0, k1, k2, k3, k5, hC⟩ := x
  exact ⟨_, _, _, _, _, _, _, _, _, _, _, _, _, e _ _ hC⟩
theorem find_init : findIn (hd.heap_39 w.params) (.ref 60) (Str.ofString "__init__") = some (some (.ref 37)) := by k_is
theorem find_setattr : findIn (hd.heap_39 w.params) (.ref 60) (Str.ofString "__setattr__") = some (some (.builtin "object.__setattr__")) := by k_is
theorem find_getattr : findIn (hd.heap_39 w.params) (.ref 60) (Str.ofString "__getattribute__") = some (some (.builtin "BaseException.__getattribute__")) := by k_is
theorem find_what : findIn (hd.heap_39 w.params) (.ref 60) (Str.ofString "what") = some none := by k_is
theorem find_at : findIn (hd.heap_39 w.params) (.ref 60) (Str.ofString "at") = some none := by k_is
section
variable {prog : Program} {A : Around} {h : Heap} {g : Array GenState} {d : Drawn} {t : Nat} {os : OsState} {M : Model}
theorem new_check {rest : List Value} {Q : Unit → Shared → Prop} (hC : Is60 h)
    (hq : Q () ⟨h, g, d, t, os⟩) : wpAny M A (checkBuiltinCall "Exception.__new__" ⟨.ref 60 :: rest, []⟩) Q E ⟨h, g, d, t, os⟩ := by
  obtain ⟨nm, q, bs, sn, sub, ab, col, dd, k0, k1, k2, k3, k5, hC⟩ := hC
  have F := PySem.F.excBase_Exception
  have hcont : (Value.ref 60 :: mro60).contains (.type "Exception") = true := by decide +kernel
  have hstar := F.noStar
  simp only [checkBuiltinCall, F.newKind, F.newSplit, F.newRow]
  repeat (first | refine wpAny_loadPart_at hC ?_ | (refine wpAny_isSubtype_exc hC ?_; rw [hcont]) | refine wpAny_staticBase_exc hC ?_ | refine wpAny_madeBy_exc hC ?_ | simp only [bne_self_eq_false, Bool.false_eq_true, if_false] | wp_step)
  exact hq
theorem new_code {R : Result → Shared → Prop} {rest : List Value} (hC : Is60 h)
    (hq : R (.ok (.ret (.ref (h.objs.size + 1)))) ⟨(h.push { cls := .type "tuple", data := .seq rest.toArray }).push
      { cls := .ref 60, data := .fields #[.ref h.objs.size, .none, .none, .none, .bool false, .none] }, g, d, t, os⟩) (hrest : rest.length ≤ sizeLine) :
    codeAny (model prog w) A (.builtin "Exception.__new__" ⟨.ref 60 :: rest, []⟩) R ⟨h, g, d, t, os⟩ := by
  obtain ⟨nm, q, bs, sn, sub, ab, col, dd, k0, k1, k2, k3, k5, hC⟩ := hC
  have F := PySem.F.excBase_Exception
  have hends := F.ends
  have hcB : (Value.ref 60 :: mro60).contains (.type "Exception") = true := by decide +kernel
  have hcA : (Value.ref 60 :: mro60).contains (.type "AttributeError") = false := by decide +kernel
  have hcN : (Value.ref 60 :: mro60).contains (.type "NameError") = false := by decide +kernel
  refine codeAny_builtinAt F.entry ?_
  unfold Builtin.«BaseException.__new__»
  refine PySem.wpAt_bind ?_
  show PySem.wpAt _ _ _ (stack >>= _) _ _ _
  refine PySem.wpAt_bind (PySem.wpAt_stack fun p below => PySem.wpAt_of_wpAny ?_)
  wp_walk
  refine PySem.wpAt_of_wpAny ?_
  rw [F.owner]
  repeat (first | with_reducible refine wpAny_madeHere_exc F.canon hC ?_ | with_reducible refine wpAny_loadPart_at hC ?_ | (with_reducible refine wpAny_isSubtype_exc hC ?_; first | rw [hcB] | rw [hcA] | rw [hcN]) | wp_step)
  show R _ _
  rw [Heap.size_push]
  exact hq
theorem type_call60 {rest : List Value} {Q : PySem.Fin → Shared → Prop} (X : (hd.heap_39 w.params).In h)
    (hq : ∀ h' e, Heap.MadeExcOf h h' e (.ref 60) rest →
      wpAny (model prog w) A (call (.ref 37) (.ref e :: rest)) (fun r s' => r = .none ∧ Q (.done (.ret (.ref e))) s') E ⟨h', g, d, t, os⟩) (hrest : rest.length ≤ sizeLine) :
    wpAny (model prog w) A (Builtin.«type.__call__» ⟨.ref 60 :: rest, []⟩) Q E ⟨h, g, d, t, os⟩ := by
  have F := PySem.F.excBase_Exception
  obtain ⟨nm, q, bs, sn, sub, ab, col, dd, k0, k1, k2, k3, k5, hC⟩ := is60 X
  repeat (first | with_reducible refine wpAny_loadPart_at hC ?_ | with_reducible refine wpAny_madeBy_exc hC ?_ | wp_step)
  refine codeAny_call_builtin_code (Code.quiet_builtin _ F.quiet) (new_check (is60 X) ?_)
  refine new_code (is60 X) ?_ hrest
  show wpAny _ _ _ _ _ _
  have hC₁ := Heap.get?_push_of_some { cls := .ref 60, data := .fields #[.ref h.objs.size, .none, .none, .none, .bool false, .none] }
    (Heap.get?_push_of_some { cls := .type "tuple", data := .seq rest.toArray } hC)
  have X₁ : (hd.heap_39 w.params).In ((h.push { cls := .type "tuple", data := .seq rest.toArray }).push { cls := .ref 60, data := .fields #[.ref h.objs.size, .none, .none, .none, .bool false, .none] }) :=
    X.keeps fun b o e => Heap.get?_push_of_some _ (Heap.get?_push_of_some _ e)
  have hget : ((h.push { cls := .type "tuple", data := .seq rest.toArray }).push
      { cls := .ref 60, data := .fields #[.ref h.objs.size, .none, .none, .none, .bool false, .none] }).get? (h.objs.size + 1) = some
      { cls := .ref 60, data := .fields #[.ref h.objs.size, .none, .none, .none, .bool false, .none] } := by heap_get
  have hcC : (Value.ref 60 :: mro60).contains (.ref 60) = true := by decide +kernel
  obtain ⟨o37, h37, c37⟩ : ∃ o, h.get? 37 = some o ∧ o.cls = .type "function" := by
    have e : ∃ o, (hd.heap_39 w.params).lookup 37 = some o ∧ o.cls = .type "function" := ⟨_, by k_is, rfl⟩
    obtain ⟨o, e1, e2⟩ := e
    exact ⟨o, X _ _ e1, e2⟩
  have hfI₁ := Heap.get?_push_of_some { cls := .ref 60, data := .fields #[.ref h.objs.size, .none, .none, .none, .bool false, .none] }
    (Heap.get?_push_of_some { cls := .type "tuple", data := .seq rest.toArray } h37)
  unfold isInstance
  repeat (first | with_reducible refine wpAny_loadPart_at hget ?_ | (with_reducible refine wpAny_isSubtype_exc hC₁ ?_; rw [hcC]) | wp_step)
  show wpAny _ _ (typeLookup (.ref 60) _) _ _ _
  refine Looks.here (looks_findIn X₁ find_init) ?_
  refine wpAny_holding (wpAny_bind ?_)
  unfold bindSpecial
  refine wpAny_bind (wpAny_typeOf (T := "function") ⟨_, hfI₁, c37⟩ ?_)
  rw [if_pos (by decide)]
  refine wpAny_pure (wpAny_bind (wpAny_mono (hq _ (h.objs.size + 1) ⟨fun b o hb => Heap.get?_push_of_some _ (Heap.get?_push_of_some _ hb), Heap.get?_none_of_le (Nat.le_succ _), h.objs.size, hget, Heap.get?_none_of_le (Nat.le_refl _), ?_⟩) (fun r s' hr => ?_) fun _ _ x => x))
  · exact Heap.get?_push_of_some _ (Heap.get?_push_at rfl rfl)
  · obtain ⟨rfl, hQ⟩ := hr
    wp_walk
    exact hQ
theorem call60 {rest : List Value} {Q : Value → Shared → Prop} (X : (hd.heap_39 w.params).In h)
    (hq : ∀ h' e, Heap.MadeExcOf h h' e (.ref 60) rest →
      wpAny (model prog w) (A.under (.builtin "type.__call__" ⟨.ref 60 :: rest, []⟩)) (call (.ref 37) (.ref e :: rest)) (fun r s' => r = .none ∧ Q (.ref e) s') E ⟨h', g, d, t, os⟩) (hrest : rest.length ≤ sizeLine) :
    wpAny (model prog w) A (call (.ref 60) rest) Q E ⟨h, g, d, t, os⟩ := by
  have f1 := tc_lookup
  have f2 := tc_bind (.ref 60)
  obtain ⟨nm, q, bs, sn, sub, ab, col, dd, k0, k1, k2, k3, k5, hC⟩ := is60 X
  have hT : (⟨h, g, d, t, os⟩ : Shared).TypeIs (.ref 60) "type" := ⟨_, hC, rfl⟩
  refine wpAny_call (codeAny_of_tree ?_)
  show wpAny _ _ (callAny (.ref 60) _) _ _ _
  repeat (any_goals (first | assumption | with_reducible refine wpAny_loadPart_at hC ?_ | wp_step))
  refine ⟨rfl, ?_⟩
  refine codeAny_call_builtin_at (Code.quiet_builtin _ (by decide +kernel)) entry_typeCall (wpAny_check_type_call_sub hC (type_call60 (hrest := hrest) X fun h' e hm => ?_))
  exact hq h' e hm
end
end
section
-- E2
example : True := by
  w_top off
  trivial
section
variable {prog : Program} {A : Around} {h : Heap} {g : Array GenState} {d : Drawn} {t : Nat} {os : OsState} {M : Model}
theorem init_check {e : Addr} {oe : Obj} {rest : List Value} {Q : Unit → Shared → Prop}
    (hC : Is60 h) (he : h.get? e = some oe) (hcls : oe.cls = .ref 60) (hq : Q () ⟨h, g, d, t, os⟩) :
    wpAny M A (checkBuiltinCall "Exception.__init__" ⟨.ref e :: rest, []⟩) Q E ⟨h, g, d, t, os⟩ := by
  obtain ⟨nm, q, bs, sn, sub, ab, col, dd, k0, k1, k2, k3, k5, hC⟩ := hC
  have F := PySem.F.excBase_Exception
  have hcB : (Value.ref 60 :: mro60).contains (.type "Exception") = true := by decide +kernel
  have hshort := F.noStar
  simp only [checkBuiltinCall, F.initKind, F.initSplit, F.initRow]
  repeat (first | (with_reducible refine wpAny_loadPart_at he ?_; rw [hcls]) | with_reducible refine wpAny_loadPart_at hC ?_ | (with_reducible refine wpAny_isSubtype_exc hC ?_; rw [hcB]) | wp_step)
  refine wpAny_onRaise ?_
  rw [show ∀ (a b : String) (n : Nat), Bind.check ⟨.positional, "*", "Exception", .self, [⟨"args", .varPos, false⟩]⟩ a b n (List.map (fun x => x.fst) ({ pos := Value.ref e :: rest } : Args).kw) = pure () from
    fun a b n => check_star_args _ _ _ _ _ _]
  exact wpAny_pure hq
noncomputable abbrev excObj (a : Value) (dd : Option Addr) : Obj := { cls := .ref 60, dict := dd, data := .fields #[a, .none, .none, .none, .bool false, .none] }
theorem init_call {e ta : Addr} {vs : Array Value} {n : Nat} {x : Str} {tx : Tok} {Q : Value → Shared → Prop} (hC : Is60 h) (he : h.get? e = some (excObj (.ref ta) none)) (hta : h.get? ta = some { cls := .type "tuple", data := .seq vs n }) (hne : ta ≠ e)
    (hq : ∀ h' r, h'.get? e = some (excObj (.ref r) none) → h.get? r = none → (∀ b o, b ≠ e → h.get? b = some o → h'.get? b = some o) → Q .none ⟨h', g, d, t, os⟩) :
    wpAny (model prog w) A (call (.builtin "Exception.__init__") [.ref e, .str x tx]) Q E ⟨h, g, d, t, os⟩ := by
  have F := PySem.F.excBase_Exception
  refine wpAny_call (codeAny_call_builtin F.init.plain F.initEntry (init_check hC he rfl ?_))
  have he₁ := Heap.get?_push_of_some { cls := .type "tuple", data := .seq [Value.str x tx].toArray } he
  have hta₁ := Heap.get?_push_of_some { cls := .type "tuple", data := .seq [Value.str x tx].toArray } hta
  have hlt := Heap.lt_size he
  have hu := Heap.get?_update_self (fun (o : Obj) => o.mapFields (·.setIfInBounds 0 (.ref h.objs.size))) he₁ rfl
  have ho : ∀ b o, b ≠ e → h.get? b = some o → ((h.push { cls := .type "tuple", data := .seq [Value.str x tx].toArray }).update e (fun (o : Obj) => o.mapFields (·.setIfInBounds 0 (.ref h.objs.size)))).get? b = some o := fun b o hb hbo =>
    (Heap.get?_update_other _ _ (Ne.symm hb)).trans (Heap.get?_push_of_some _ hbo)
  have hta₂ := ho _ _ hne hta
  unfold Builtin.«BaseException.__init__»
  wp_walk
  refine hq _ h.objs.size hu (Heap.get?_none_of_le (Nat.le_refl _)) ho
theorem sa_check {o : Obj} {x : Addr} {nameV v : Value} {Q : Unit → Shared → Prop} (hC : Is60 h) (hx : h.get? x = some o) (hc : o.cls = .ref 60) (hq : Q () ⟨h, g, d, t, os⟩) :
    wpAny M A (checkBuiltinCall "object.__setattr__" ⟨[.ref x, nameV, v], []⟩) Q E ⟨h, g, d, t, os⟩ := by
  obtain ⟨nm, q, bs, sn, sub, ab, col, dd, k0, k1, k2, k3, k5, hC⟩ := hC
  have SF := PySem.F.store_Exception
  have hcB : (Value.ref 60 :: mro60).contains (.type "object") = true := by decide +kernel
  have ha := SF.args (.ref x) nameV v
  simp only [checkBuiltinCall, SF.kind, SF.split]
  refine wpAny_bind ?_
  unfold isInstance
  repeat (first | (with_reducible refine wpAny_loadPart_at hx ?_; rw [hc]) | (with_reducible refine wpAny_isSubtype_exc hC ?_; rw [hcB]) | wp_step)
  exact hq
open Builtin Builtin.ObjectAttr in
theorem sa_entry {e : Addr} {name : Str} {v : Value} {tk : Tok} {Q : PySem.Fin → Shared → Prop} {a0 : Value} {dd : Option Addr} {mA : Str → Option Value} (X : (hd.heap_39 w.params).In h) (hna : findIn (hd.heap_39 w.params) (.ref 60) name = some none)
    (he : h.get? e = some (excObj a0 dd)) (hd : (dd = none ∧ mA = fun _ => none) ∨ ∃ dx, dd = some dx ∧ dx ≠ e ∧ h.Ns1 dx mA) {ns : List Str} (hw : Within mA ns) (hsz : ns.length ≤ 1000)
    (hq : ∀ h' tk' dx, h'.get? e = some (excObj a0 (some dx)) → (dd = some dx ∨ dd = none ∧ h.get? dx = none) → dx ≠ e → h'.Ns1 dx (fun y => if y = name then some v else mA y) →
      (∀ b o, b ≠ e → b ≠ dx → h.get? b = some o → h'.get? b = some o) → Q (.done (.ret .none)) ⟨h', g, d, tk', os⟩) :
    wpAny (model prog w) A (Builtin.«object.__setattr__» ⟨[.ref e, .str name tk, v], []⟩) Q E ⟨h, g, d, t, os⟩ := by
  have hpass := PySem.F.store_Exception.passes (.ref e)
  obtain ⟨nm, q, bs, sn, sub, ab, col, dd', k0, k1, k2, k3, k5, hC⟩ := is60 X
  have hs : sizeLine = 16777216 := rfl
  unfold Builtin.«object.__setattr__»
  repeat (first | rw [refuse_eq] | (rw [refuseLoop_ref, refuseLoop_ref, hpass]) | with_reducible refine wpAny_loadPart_at he ?_ | with_reducible refine wpAny_mroOf_exc hC ?_ | (with_reducible refine Looks.here (looks_findIn X hna) ?_) | wp_step)
  rcases hd with ⟨rfl, rfl⟩ | ⟨dx, rfl, hne, hns⟩
  · rw [if_neg (by simp [typeHasDict])]
    have he₁ : (h.push { cls := .type "dict", data := .dict #[] }).get? e = some (excObj a0 none) := Heap.get?_push_of_some _ he
    have hxs : e ≠ h.objs.size := Nat.ne_of_lt (Heap.lt_size he)
    refine wpAny_bind (wpAny_alloc' ?_)
    refine wpAny_bind (wpAny_update' he₁ ?_)
    refine wpAny_pure ?_
    have hgd : ((h.push { cls := .type "dict", data := .dict #[] }).update e fun o => { cls := o.cls, dict := some h.objs.size, data := o.data, slots := o.slots }).get? h.objs.size
        = some { cls := .type "dict", data := .dict #[] } :=
      (Heap.get?_update_ne _ _ _ _ hxs.symm).trans (Heap.get?_push_at rfl rfl)
    have hnd : ((h.push { cls := .type "dict", data := .dict #[] }).update e fun o => { cls := o.cls, dict := some h.objs.size, data := o.data, slots := o.slots }).Ns h.objs.size (fun _ => none) :=
      ⟨_, #[], _, hgd, rfl, fun e he => absurd he (by simp), fun _ => rfl⟩
    show wpAny _ _ (storeInDict h.objs.size (.str name tk) name v) _ _ _
    unfold storeInDict newKeyGuard
    refine wpAny_bind (wpAny_pure (wpAny_bind (wpAny_nsSet1 (Heap.Ns1.of_empty hnd) fun h' hn' hs' => ?_)))
    obtain ⟨oD, esD, epD, hoD, hdD, hcD⟩ := hn'.count (Within.cons name v Within.nil)
    refine wpAny_bind (wpAny_lookBehind hoD (by rw [hdD]; exact pastItsLine_dict (Nat.le_trans hcD (by rw [List.length_cons, List.length_nil, sizeLine_eq]; omega))) ?_)
    wp_walk
    refine hq h' _ h.objs.size ?_ (.inr ⟨rfl, Heap.get?_none_of_le (Nat.le_refl _)⟩) hxs.symm hn' fun b ob hb1 hb2 hb => ?_
    · exact (hs'.2 e hxs).trans (Heap.get?_update_self _ he₁ rfl)
    · exact (hs'.2 b hb2).trans ((Heap.get?_update_ne _ _ _ _ hb1).trans (Heap.get?_push_of_some _ hb))
  · refine wpAny_pure ?_
    show wpAny _ _ (storeInDict dx (.str name tk) name v) _ _ _
    unfold storeInDict newKeyGuard
    refine wpAny_bind (wpAny_pure (wpAny_bind (wpAny_nsSet1 hns fun h' hn' hs' => ?_)))
    obtain ⟨oD, esD, epD, hoD, hdD, hcD⟩ := hn'.count (Within.cons name v hw)
    refine wpAny_bind (wpAny_lookBehind hoD (by rw [hdD]; exact pastItsLine_dict (Nat.le_trans hcD (by rw [List.length_cons]; omega))) ?_)
    wp_walk
    exact hq h' _ dx ((hs'.2 e hne.symm).trans he) (.inl rfl) hne hn' fun b ob hb1 hb2 hb => (hs'.2 b hb2).trans hb
theorem sa60 {e : Addr} {name : Str} {v : Value} {Q : Unit → Shared → Prop} {a0 : Value} {dd : Option Addr} {mA : Str → Option Value} (X : (hd.heap_39 w.params).In h) (hna : findIn (hd.heap_39 w.params) (.ref 60) name = some none)
    (he : h.get? e = some (excObj a0 dd)) (hd : (dd = none ∧ mA = fun _ => none) ∨ ∃ dx, dd = some dx ∧ dx ≠ e ∧ h.Ns1 dx mA) {ns : List Str} (hw : Within mA ns) (hsz : ns.length ≤ 1000)
    (hq : ∀ h' tk' dx, h'.get? e = some (excObj a0 (some dx)) → (dd = some dx ∨ dd = none ∧ h.get? dx = none) → dx ≠ e → h'.Ns1 dx (fun y => if y = name then some v else mA y) →
      (∀ b o, b ≠ e → b ≠ dx → h.get? b = some o → h'.get? b = some o) → Q () ⟨h', g, d, tk', os⟩) :
    wpAny (model prog w) A (setAttr (.ref e) name v) Q E ⟨h, g, d, t, os⟩ := by
  have SF := PySem.F.store_Exception
  have f3 := SF.slot.bind (.ref e)
  unfold setAttr callSpecial? specialOf
  repeat (any_goals (first | assumption | with_reducible refine wpAny_loadPart_at he ?_ | with_reducible refine Looks.here (looks_findIn X find_setattr) ?_ | wp_step))
  refine codeAny_call_builtin SF.slot.plain SF.entry (sa_check (is60 X) he rfl (sa_entry X hna he hd hw hsz fun h' tk' dx p1 p2 p3 p4 p5 => ?_))
  repeat (any_goals (first | assumption | wp_step))
  exact hq h' tk' dx p1 p2 p3 p4 p5
end
theorem frBut {b₀ h h' : Heap} {L : Addr} {m : Str → Option Value} {xs : List Addr} (F : Fr b₀ L h m) (k : ∀ b o, b ∉ xs → h.get? b = some o → h'.get? b = some o) (hx : ∀ x ∈ xs, x ≠ L ∧ b₀.get? x = none) : Fr b₀ L h' m := by
  obtain ⟨⟨o, es, ep, ho, r⟩, keep, above⟩ := F
  exact ⟨⟨o, es, ep, k _ _ (fun q => (hx _ q).1 rfl) ho, r⟩, fun b o e => k _ _ (fun q => by rw [(hx _ q).2] at e; cases e) (keep _ _ e), above⟩
theorem newsBut {b₀ h h' : Heap} {L : Addr} {news : List (Addr × Obj)} (N : ∀ p ∈ news, h'.get? p.1 = some p.2 ∧ p.1 ≠ L ∧ b₀.get? p.1 = none) : News b₀ L h' news := N
theorem noneOf {b₀ h : Heap} {L x : Addr} {m : Str → Option Value} (F : Fr b₀ L h m) (e : h.get? x = none) : x ≠ L ∧ b₀.get? x = none := by
  refine ⟨?_, ?_⟩
  · rintro rfl
    obtain ⟨⟨o, _, _, ho, _⟩, _, _⟩ := F
    rw [ho] at e; cases e
  · cases q : b₀.get? x with
    | none => rfl
    | some o => rw [F.keep _ _ q] at e; cases e
theorem init37 {b₀ : Heap} {A : Around} {e ta : Addr} {vs : Array Value} {nv : Nat} {x : Str} {t : Tok} (X : (hd.heap_39 w.params).In b₀) (T : Top V LS mean mg mb b₀) (S : Ext b₀ s.heap) (Z : b₀.objs.size ≤ s.heap.objs.size) (hdp : A.depth < 900) (hun : A.units < 9000) (hne : ta ≠ e)
    (Nn : ∀ p ∈ [(e, excObj (.ref ta) none), (ta, ({ cls := .type "tuple", data := .seq vs nv } : Obj))], s.heap.get? p.1 = some p.2 ∧ b₀.get? p.1 = none)
    (hQ : ∀ h' tk r dx mA, Ext b₀ h' → h'.get? e = some (excObj (.ref r) (some dx)) → b₀.get? dx = none → dx ≠ e → h'.Ns1 dx mA → mA (Str.ofString "what") = some (.str x t) → Q .none { s with heap := h', toks := tk }) :
    wpAny (model PySem.Challenge.rw_og0093_01.row.prog w) A (call (.ref 37) [.ref e, .str x t]) Q E s := by
  have X2 := X.keeps S
  ((refine wpAny_call ?_; k_dflt (refine' code0G ?kS9 ?kZ9 ?kN9 ?k19 ?k59 ?k69 ?k79 ?k89 ?k99 ?kB9 ?_ ?c29 ?c39 ?c49 ?c59; (case kS9 => assumption); (case kZ9 => assumption); (case kN9 => assumption); (case k19 => k_asm); (case k59 => k_asm); (case k69 => k_is); (case k79 => k_is); (case k89 => (simp only [recursionLimit]; omega)); (case k99 => first | exact BindsTo.of_eq rfl | exact binds_K (by assumption) rfl (by k_is) rfl rfl rfl); (case c59 => decide); (case kB9 => exact locs rfl); (case c29 => exact rfl); (case c39 => exact rfl); (case c49 => exact rfl); k_whole; intro L'9 h'9 F'9 N'9 X'9 T'9; (try dsimp only); (try k_fold))))
  (repeat' (first | wtm_at "s1" | ((with_reducible show wpAny _ _ (getMethod (.type _) _ _) _ _ _); refine' method_type ?F9 ?X9 ?m9 (by decide +kernel) ?e9 ?h9 ?_; (case F9 => k_asm); (case X9 => k_asm); (case m9 => kernel_rfl); (case e9 => k_dflt k_is); (case h9 => k_handed)) | wtm_at "s2"))
  rename Fr _ _ _ _ => F0
  rename News _ _ _ _ => N0
  refine init_call (is60 (X.keeps F0.keep)) (N0.get (.head _)) (N0.get (.tail _ (.head _))) hne ?_
  intro h1 r e1 r1 k1
  have q0 := N0 _ (.head _)
  have F1 := frBut (xs := [e]) F0 (fun b o hb => k1 b o (fun z => hb (by rw [z]; exact .head _))) (fun y hy => by rw [List.mem_singleton.mp hy]; exact q0.2)
  have N1 : News b₀ _ h1 [(e, excObj (.ref r) none)] := fun p hp => by rw [List.mem_singleton.mp hp]; exact ⟨e1, q0.2⟩
  clear F0 N0
  (repeat' (first | wtm_at "s1" | ((with_reducible show wpAny _ _ (getMethod (.type _) _ _) _ _ _); refine' method_type ?F9 ?X9 ?m9 (by decide +kernel) ?e9 ?h9 ?_; (case F9 => k_asm); (case X9 => k_asm); (case m9 => kernel_rfl); (case e9 => k_dflt k_is); (case h9 => k_handed)) | wtm_at "s2"))
  rename Fr _ _ _ _ => F2
  rename News _ _ _ _ => N2
  refine sa60 (X.keeps F2.keep) find_what (N2.get (.head _)) (.inl ⟨rfl, rfl⟩) Within.nil (by decide) ?_
  intro h3 tk3 dx e3 d3 ne3 n3 k3
  have d3' := noneOf F2 (d3.resolve_left nofun).2
  have F3 := frBut (xs := [e, dx]) F2 (fun b o hb => k3 b o (fun z => hb (by rw [z]; exact .head _)) (fun z => hb (by rw [z]; exact .tail _ (.head _)))) (fun y hy => by
    rcases List.mem_cons.mp hy with rfl | hy
    · exact q0.2
    · rw [List.mem_singleton.mp hy]; exact d3')
  have N3 : News b₀ _ h3 [(e, excObj (.ref r) (some dx))] := fun p hp => by rw [List.mem_singleton.mp hp]; exact ⟨e3, q0.2⟩
  clear F2 N2
  (repeat' (first | wtm_at "s1" | ((with_reducible show wpAny _ _ (getMethod (.type _) _ _) _ _ _); refine' method_type ?F9 ?X9 ?m9 (by decide +kernel) ?e9 ?h9 ?_; (case F9 => k_asm); (case X9 => k_asm); (case m9 => kernel_rfl); (case e9 => k_dflt k_is); (case h9 => k_handed)) | wtm_at "s2"))
  rename Fr _ _ _ _ => F4
  rename News _ _ _ _ => N4
  refine sa60 (X.keeps F4.keep) find_at (N4.get (.head _)) (.inr ⟨dx, rfl, ne3, n3⟩) (Within.cons _ _ Within.nil) (by decide) ?_
  intro h5 tk5 dx5 e5 d5 ne5 n5 k5
  obtain rfl : dx5 = dx := by
    rcases d5 with z | z
    · exact (Option.some.inj z).symm
    · exact nomatch z.1
  have F5 := frBut (xs := [e, dx5]) F4 (fun b o hb => k5 b o (fun z => hb (by rw [z]; exact .head _)) (fun z => hb (by rw [z]; exact .tail _ (.head _)))) (fun y hy => by
    rcases List.mem_cons.mp hy with rfl | hy
    · exact q0.2
    · rw [List.mem_singleton.mp hy]; exact d3')
  (repeat' (first | wtm_at "s1" | ((with_reducible show wpAny _ _ (getMethod (.type _) _ _) _ _ _); refine' method_type ?F9 ?X9 ?m9 (by decide +kernel) ?e9 ?h9 ?_; (case F9 => k_asm); (case X9 => k_asm); (case m9 => kernel_rfl); (case e9 => k_dflt k_is); (case h9 => k_handed)) | wtm_at "s2"))
  exact hQ _ _ _ _ _ F5.keep e5 d3'.2 ne5 n5 (by
    show (if Str.ofString "what" = Str.ofString "at" then _ else if Str.ofString "what" = Str.ofString "what" then _ else _) = _
    rw [if_neg (by decide), if_pos rfl])
end
section
-- E3
example : True := by
  w_top off
  trivial
/-- the own exception, as it flies: over a base that has neither it nor its entries -/
noncomputable def Exc (B h : Heap) (e dx : Addr) : Prop :=
  ∃ oe vs, h.get? e = some oe ∧ oe.cls = .ref 60 ∧ oe.dict = some dx ∧ oe.data = .fields vs ∧ 1 < vs.size ∧ vs[2]? = some .none ∧
    (vs[1]? = some .none ∨ ∃ T oT ts, vs[1]? = some (.ref T) ∧ B.get? T = none ∧ T ≠ e ∧ h.get? T = some oT ∧ oT.data = .fields ts ∧ ts[3]? = some .none)
theorem mapFields_dict (o : Obj) (f : Array Value → Array Value) : (Obj.mapFields f o).dict = o.dict := by
  obtain ⟨c, d, dt, sl⟩ := o
  cases dt <;> rfl
section
variable {M : Model} {A : Around} {B : Heap} {env : Env} {outer : List Env} {L e dx : Addr} {Q : Unit → Shared → Prop}
theorem exc_entry {oe : Obj} {vs : Array Value} {head : Value} {hadNext : Bool}
    (hfr : A.frames = some (env :: outer)) (hl : s.heap.FunFrames B (env :: outer)) (hf : env.frame = some L)
    (he : s.heap.get? e = some oe) (hkb : B.StaysIn s.heap) (hen : B.get? e = none) (hd : oe.data = .fields vs) (hsz : 1 < vs.size) (hs2 : vs[2]? = some .none) (hc : oe.cls = .ref 60) (hdx : oe.dict = some dx)
    (h : ∀ h', B.StaysIn h' → h'.FunFrames B (env :: outer) → Exc B h' e dx → s.heap.UpToSlots h' → Q () { s with heap := h' }) :
    wpAny M A (do let a ← frameOf env; let pl ← entryPlaceOf L hadNext; let b ← EntryCells.newEntry head a .none (rawInt L) .none pl; setField (.ref e) 1 b) (fun _ s' => wpAny M A (setFlight (.ref e) none) Q E s') E s := by
  have hene : e ∉ (env :: outer).filterMap (·.frame) := fun hm => by
    obtain ⟨_, o, ho, hnf⟩ := hl.mem hm
    rw [he] at ho; injection ho with ho; subst ho; exact hnf vs hd
  refine wpAny_bind (wpAny_frameOf_fun hfr hl hf fun h₁ hs₁ => ?_)
  refine wpAny_bind (wpAny_entryPlaceOf fun pl hpl => ?_)
  unfold EntryCells.newEntry newFields
  refine wpAny_bind (wpAny_newObj_type ?_ (hpl.sizeOk5 _ _ _ _ _))
  have he₁ : h₁.get? e = some oe := (hs₁.2.1 e hene).trans he
  have kb₁ : B.StaysIn h₁ := fun b o hbo => (hs₁.2.1 b fun hm => by rw [(hl.mem hm).1] at hbo; cases hbo).trans (hkb b o hbo)
  generalize hob : ({ cls := .type "traceback", dict := none, data := .fields ([head, .ref L, .none, rawInt L, .none] ++ (if pl.isEmpty then List.replicate 6 Value.none else pl)).toArray } : Obj) = ob
  have hobd : ob.data = .fields ([head, .ref L, .none, rawInt L, .none] ++ (if pl.isEmpty then List.replicate 6 Value.none else pl)).toArray := by rw [← hob]
  have hobf : ob.isFreed = false := by rw [← hob]; rfl
  have he₂ := Heap.get?_push_of_some (h := h₁) ob he₁
  refine wpAny_setField he₂ hd hsz ?_
  have hTe : h₁.objs.size ≠ e := Nat.ne_of_gt (Heap.lt_size he₁)
  have hd₃ := Obj.data_mapFields hd (·.setIfInBounds 1 (Value.ref h₁.objs.size))
  have he₃ := Heap.get?_update_self (Obj.mapFields (·.setIfInBounds 1 (Value.ref h₁.objs.size))) he₂ (Obj.isFreed_of_fields hd₃)
  have hT₃ := (Heap.get?_update_other (h₁.push ob) (Obj.mapFields (·.setIfInBounds 1 (Value.ref h₁.objs.size))) (Ne.symm hTe)).trans (Heap.get?_push_size h₁ hobf)
  unfold setFlight
  refine wpAny_bind (wpAny_field he₃ hd₃ (x := .ref h₁.objs.size) (by simp [hsz]) ?_)
  rw [if_pos (show (Value.ref h₁.objs.size != Value.none) = true from by simp)]
  refine wpAny_setField hT₃ hobd (by simp only [List.size_toArray, List.length_append, List.length_cons, List.length_nil] <;> omega) (h _ ?_ ?_ ?_ ?_)
  all_goals
    have keep : ∀ b o, b ≠ e → h₁.get? b = some o →
        (((h₁.push ob).update e (Obj.mapFields (·.setIfInBounds 1 (Value.ref h₁.objs.size)))).update h₁.objs.size
          (Obj.mapFields (·.setIfInBounds 3 ((none : Option Addr).elim Value.none fun f => rawInt f)))).get? b = some o := fun b o hbe hb => by
      have hbT : h₁.objs.size ≠ b := Nat.ne_of_gt (Heap.lt_size hb)
      rw [Heap.get?_update_other _ _ hbT, Heap.get?_update_other _ _ (Ne.symm hbe)]
      exact Heap.get?_push_of_some _ hb
  all_goals
    have noRecord : ∀ b o, s.heap.get? b = some o → (∀ vs, o.data ≠ .fields vs) → b ≠ e := fun b o hb hnf q => by
      rw [q, he] at hb; injection hb with hb; subst hb; exact hnf vs hd
  · exact fun b o hbo => keep b o (fun q => by rw [q, hen] at hbo; cases hbo) (kb₁ b o hbo)
  · refine hl.of_keeps fun b o hb hnf => ?_
    obtain ⟨sl, hs⟩ := hs₁.2.2 b o hb
    exact ⟨_, keep b _ (noRecord b o hb hnf) hs, rfl⟩
  · refine ⟨_, _, (Heap.get?_update_other _ _ hTe).trans he₃, (Obj.cls_mapFields _ _).trans hc, ?_, hd₃, by simp [hsz], by rw [Array.getElem?_setIfInBounds_ne (by decide)]; exact hs2, .inr ⟨h₁.objs.size, _, _, by simp [hsz], kb₁.fresh, hTe, Heap.get?_update_self _ hT₃ (Obj.isFreed_of_fields (Obj.data_mapFields hobd _)), Obj.data_mapFields hobd _, ?_⟩⟩
    · exact (mapFields_dict _ _).trans hdx
    · first | (simp; done) | (rcases hpl with rfl | ⟨_, _, _, _, _, _, _, rfl⟩ <;> simp)
  · intro b o hb hnf
    obtain ⟨sl, hs⟩ := hs₁.2.2 b o hb
    exact ⟨sl, keep b _ (noRecord b o hb hnf) hs⟩
theorem exc_note (hfr : A.frames = some (env :: outer)) (hl : s.heap.FunFrames B (env :: outer)) (hf : env.frame = some L) (hkb : B.StaysIn s.heap) (hen : B.get? e = none) (x : Exc B s.heap e dx)
    (h : ∀ h', B.StaysIn h' → h'.FunFrames B (env :: outer) → Exc B h' e dx → s.heap.UpToSlots h' → Q () { s with heap := h' }) :
    wpAny M A (noteFrame (.ref e) env) (fun _ s' => wpAny M A (setFlight (.ref e) none) Q E s') E s := by
  obtain ⟨oe, vs, he, hc, hdx, hd, hsz, hs2, h1 | ⟨T, oT, ts, h1, hnT, hTe, hT, hdT, h3⟩⟩ := x
  · unfold noteFrame
    simp only [hf]
    refine wpAny_bind (wpAny_field he hd h1 ?_)
    rw [if_neg (by decide)]
    exact exc_entry hfr hl hf he hkb hen hd hsz hs2 hc hdx h
  · unfold noteFrame
    simp only [hf]
    refine wpAny_bind (wpAny_field he hd h1 ?_)
    rw [if_pos (show (Value.ref T != Value.none) = true from by simp)]
    refine wpAny_bind (wpAny_field hT hdT h3 ?_)
    rw [if_neg (show ¬ ((Value.none == rawInt L) = true) from by simp [rawInt])]
    refine wpAny_bind (wpAny_setField hT hdT (Array.getElem?_eq_some_iff.mp h3).1 ?_)
    have other : ∀ b, b ≠ T → (s.heap.update T (Obj.mapFields (·.setIfInBounds 3 Value.none))).get? b = s.heap.get? b := fun b hb => Heap.get?_update_other _ _ (Ne.symm hb)
    have noRecord : ∀ b o, s.heap.get? b = some o → (∀ vs, o.data ≠ .fields vs) → b ≠ T := fun b o hb hnf q => by
      rw [q, hT] at hb; injection hb with hb; subst hb; exact hnf ts hdT
    exact exc_entry (s := { s with heap := _ }) hfr (hl.of_keeps fun b o hb hnf => ⟨o, (other b (noRecord b o hb hnf)).trans hb, rfl⟩) hf ((other e (Ne.symm hTe)).trans he)
      (fun b o hbo => (other b fun q => by rw [q, hnT] at hbo; cases hbo).trans (hkb b o hbo)) hen hd hsz hs2 hc hdx
      fun h' x1 x2 x3 x4 => h h' x1 x2 x3 fun b o hb hnf => x4 b o ((other b (noRecord b o hb hnf)).trans hb) hnf
theorem exc_leave (hfr : A.frames = some (env :: outer)) (hl : s.heap.FunFrames B (env :: outer)) (hf : env.frame = some L) (hkb : B.StaysIn s.heap) (hen : B.get? e = none) (x : Exc B s.heap e dx)
    (h : ∀ h', B.StaysIn h' → h'.FunFrames B (env :: outer) → Exc B h' e dx → s.heap.UpToSlots h' → Q () { s with heap := h' }) :
    wpAny M A (leaving env (.ref e)) Q E s := by
  unfold leaving
  exact wpAny_bind (exc_note hfr hl hf hkb hen x h)
theorem exc_land {l : List Env} (hl : s.heap.FunFrames B l) (hkb : B.StaysIn s.heap) (x : Exc B s.heap e dx)
    (h : ∀ h', B.StaysIn h' → h'.FunFrames B l → Exc B h' e dx → s.heap.UpToSlots h' → Q () { s with heap := h' }) :
    wpAny M A (setFlight (.ref e) none) Q E s := by
  have x0 := x
  obtain ⟨oe, vs, he, hc, hdx, hd, hsz, hs2, h1 | ⟨T, oT, ts, h1, hnT, hTe, hT, hdT, h3⟩⟩ := x
  · unfold setFlight
    refine wpAny_bind (wpAny_field he hd h1 ?_)
    rw [if_neg (by decide)]
    exact wpAny_pure (h s.heap hkb hl x0 (Heap.UpToSlots.refl _))
  · have hsz3 : 3 < ts.size := (Array.getElem?_eq_some_iff.mp h3).1
    have other : ∀ b, b ≠ T → (s.heap.update T (Obj.mapFields (·.setIfInBounds 3 ((none : Option Addr).elim Value.none fun f => rawInt f)))).get? b = s.heap.get? b :=
      fun b hb => Heap.get?_update_other _ _ (Ne.symm hb)
    have noRecord : ∀ b o, s.heap.get? b = some o → (∀ vs, o.data ≠ .fields vs) → b ≠ T := fun b o hb hnf q => by
      rw [q, hT] at hb; injection hb with hb; subst hb; exact hnf ts hdT
    unfold setFlight
    refine wpAny_bind (wpAny_field he hd h1 ?_)
    rw [if_pos (show (Value.ref T != Value.none) = true from by simp)]
    refine wpAny_setField hT hdT hsz3 (h _ (fun b o hbo => (other b fun q => by rw [q, hnT] at hbo; cases hbo).trans (hkb b o hbo))
      (hl.of_keeps fun b o hb hnf => ⟨o, (other b (noRecord b o hb hnf)).trans hb, rfl⟩) ?_ fun b o hb hnf => ⟨o.slots, (other b (noRecord b o hb hnf)).trans hb⟩)
    exact ⟨oe, vs, (other e (Ne.symm hTe)).trans he, hc, hdx, hd, hsz, hs2, .inr ⟨T, _, _, h1, hnT, hTe, Heap.get?_update_self _ hT (Obj.isFreed_of_fields (Obj.data_mapFields hdT _)), Obj.data_mapFields hdT _, by simp [hsz3]⟩⟩
/-- raise of an own exception just made -/
noncomputable def Rais (E : Value → Shared → Prop) (v : Value) (s₁ : Shared) : Prop :=
  ∃ e a dd, v = .ref e ∧ Is60 s₁.heap ∧ s₁.heap.get? e = some (excObj a dd) ∧ E (.ref e) s₁
theorem Raise_60 {x : Expr} {pos : Pos} {Q : Flow → Shared → Prop} (hh : A.handled = none)
    (h : wpAny M A (eval x env) (Rais E) E s) : wpAny M A (exec (.Raise (some x) none pos) env) Q E s := by
  show wpAny M A (do standAt pos; raiseStmt env (some (do let v ← eval x env; standAt pos; pure v)) none) Q E s
  refine wpAny_bind (wpAny_standAt ?_)
  unfold raiseStmt
  refine wpAny_bind (wpAny_bind (wpAny_mono h (fun v s₁ h₁ => wpAny_bind (wpAny_standAt (wpAny_pure ?_))) fun _ _ x => x))
  obtain ⟨e, a, dd, rfl, hC, he, hE⟩ := h₁
  obtain ⟨nm, q, bs, sn, sub, ab, col, dd', k0, k1, k2, k3, k5, hC⟩ := hC
  have hcB : (Value.ref 60 :: mro60).contains (.type "BaseException") = true := by decide +kernel
  obtain ⟨hp, g, d, tk, os⟩ := s₁
  repeat (first | with_reducible refine wpAny_loadPart_at he ?_ | with_reducible refine wpAny_loadPart_at hC ?_ | (with_reducible refine wpAny_isSubtype_exc hC ?_; rw [hcB]) | wp_step)
  exact wpAny_raiseNew_none hh hE
end
end
section
-- E4
example : True := by
  w_top off
  trivial
noncomputable abbrev frs (l : List Env) : List Addr := l.filterMap (·.frame)
theorem frames_re {h b₀ B : Heap} : ∀ {l : List Env}, h.FunFrames b₀ l → (∀ f ∈ frs l, B.get? f = none) → h.FunFrames B l
  | [], _, _ => trivial
  | env :: r, ⟨k, ⟨L, o, hf, _, ho, hd⟩, hr⟩, hB => by
    refine ⟨k, ⟨L, o, hf, hB L ?_, ho, hd⟩, frames_re hr fun f hf' => hB f ?_⟩
    · rw [frs, List.filterMap_cons, hf]; exact .head _
    · rw [frs, List.filterMap_cons, hf]; exact .tail _ hf'
theorem nsAt {h B : Heap} {a : Addr} {m : Str → Option Value} (x : h.Ns1 a m) (k : ∀ o, h.get? a = some o → B.get? a = some o) : B.Ns1 a m := x.at k
/-- how a raise leaves the heap -/
noncomputable def Flies (h₀ : Heap) (outer : List Env) (h' : Heap) (e dx : Addr) (what : Value) : Prop :=
  ∃ B mA, (∀ b o, h₀.get? b = some o → b ∉ frs outer → B.get? b = some o) ∧ B.StaysIn h' ∧ h'.FunFrames B outer ∧ B.get? e = none ∧ Exc B h' e dx ∧ B.Ns1 dx mA ∧ mA (Str.ofString "what") = some what ∧ h₀.UpToSlots h' ∧ h₀.get? e = none ∧ h₀.get? dx = none
theorem made60 {A : Around} {x : Str} {t : Tok} (X : (hd.heap_39 w.params).In s.heap) (T : Top V LS mean mg mb s.heap) (hdp : A.depth < 800) (hun : A.units < 8000)
    (hQ : ∀ e r dx mA h2 tk, Ext s.heap h2 → h2.get? e = some (excObj (.ref r) (some dx)) → s.heap.get? e = none → s.heap.get? dx = none → dx ≠ e → h2.Ns1 dx mA → mA (Str.ofString "what") = some (.str x t) → Q (.ref e) { s with heap := h2, toks := tk }) :
    wpAny (model PySem.Challenge.rw_og0093_01.row.prog w) A (call (.ref 60) [.str x t]) Q E s := by
  refine call60 X ?_ (Nat.le_of_ble_eq_true rfl)
  intro h1 e hm
  obtain ⟨ta, he, hta0, hta⟩ := hm.there
  have hne : ta ≠ e := fun z => by rw [z, he] at hta; cases hta
  have S0 : Ext s.heap (hideAll h1 [e, ta]) := fun b o q => hideAll_get _ (hm.keeps b o q) fun hb => by
    rcases List.mem_cons.mp hb with rfl | hb
    · rw [hm.new] at q; cases q
    · rw [List.mem_singleton.mp hb, hta0] at q; cases q
  refine init37 (s := ⟨h1, _, _, _, _⟩) (b₀ := hideAll h1 [e, ta]) (vs := #[.str x t]) (nv := 0) (X.keeps S0) (T.keeps S0) (fun b o q => of_hideAll _ q) (Nat.le_of_eq (hideAll_size _ _)) ?_ ?_ hne ?_ ?_
  · show A.depth + 1 < 900
    omega
  · rw [units_under_make]; omega
  · intro p hp
    rcases List.mem_cons.mp hp with rfl | hp
    · exact ⟨he, hideAll_none _ (.head _)⟩
    · rw [List.mem_singleton.mp hp]
      exact ⟨hta, hideAll_none _ (.tail _ (.head _))⟩
  · intro h2 tk2 r dx mA x2 g2 n2 ne2 ns2 w2
    refine ⟨rfl, hQ e r dx mA h2 tk2 (Ext.trans S0 x2) g2 hm.new ?_ ne2 ns2 w2⟩
    cases q : s.heap.get? dx with
    | none => rfl
    | some o => rw [S0 _ _ q] at n2; cases n2
noncomputable def Fra (h : Heap) (l : List Env) : Prop := ∃ b, h.FunFrames b l
theorem flies_made {h h2 : Heap} {l : List Env} {e r dx : Addr} {mA : Str → Option Value} {what : Value} (K : Ext h h2) (g : h2.get? e = some (excObj (.ref r) (some dx))) (n : h.get? e = none) (dn : h.get? dx = none) (ne : dx ≠ e)
    (ns : h2.Ns1 dx mA) (wh : mA (Str.ofString "what") = some what) (hF : Fra h l) : Flies h l h2 e dx what := by
  obtain ⟨b, hF⟩ := hF
  refine ⟨hideAll h2 (e :: frs l), mA, fun b o q nb => hideAll_get _ (K b o q) fun hb => ?_, fun b o q => of_hideAll _ q, frames_re (hF.of_keeps fun b o q _ => ⟨o, K b o q, rfl⟩) fun f hf => hideAll_none _ (.tail _ hf), hideAll_none _ (.head _),
    ⟨_, _, g, rfl, rfl, rfl, Nat.le_of_ble_eq_true rfl, rfl, .inl rfl⟩, ns.at fun o q => hideAll_get _ q fun hb => ?_, wh, Heap.UpToSlots.of_keeps K, n, dn⟩
  · rcases List.mem_cons.mp hb with rfl | hb
    · rw [n] at q; cases q
    · exact nb hb
  · rcases List.mem_cons.mp hb with z | hb
    · exact ne z
    · obtain ⟨_, o, ho, _⟩ := hF.mem hb
      rw [dn] at ho; cases ho
theorem mem_frs {env : Env} {L b : Addr} {outer : List Env} (hf : env.frame = some L) (hm : b ∈ frs (env :: outer)) : b = L ∨ b ∈ frs outer := by
  rw [frs, List.filterMap_cons, hf] at hm
  exact List.mem_cons.mp hm
theorem flies_leave {M : Model} {A : Around} {h₀ h : Heap} {env : Env} {outer : List Env} {L e dx : Addr} {m : Str → Option Value} {what : Value} {Q : Unit → Shared → Prop} (F : Fr h₀ L h m) (hf : env.frame = some L)
    (FL : Flies h (env :: outer) s.heap e dx what) (hA : A.frames = some outer) (hE : ∀ h', Flies h₀ outer h' e dx what → Q () { s with heap := h' }) :
    wpAny M (A.deeper env) (leaving env (.ref e)) Q E s := by
  obtain ⟨B, mA, p1, p2, p3, p4, p5, p6, p7, p8, p9, p10⟩ := FL
  refine exc_leave (Around.frames_deeper hA) p3 hf p2 p4 p5 fun h' q1 q2 q3 q4 => hE h' ⟨B, mA, fun b o q nb => p1 b o (F.keep _ _ q) fun hb => ?_, q1, q2.2.2, p4, q3, p6, p7, (Heap.UpToSlots.of_keeps F.keep).trans (p8.trans q4), (noneOf F p9).2, (noneOf F p10).2⟩
  rcases mem_frs hf hb with z | hb
  · exact absurd (Nat.lt_of_lt_of_le (Heap.lt_size q) F.above) (by rw [z]; exact Nat.lt_irrefl _)
  · exact nb hb
theorem frames_own {h₀ h : Heap} {env : Env} {outer : List Env} {L : Addr} {m : Str → Option Value} (F : Fr h₀ L h m) (hfr : Fra h₀ outer) (hf : env.frame = some L) (hk : env.scope.kind = .function) : Fra h (env :: outer) := by
  obtain ⟨b, hfr⟩ := hfr
  refine ⟨hideAll h (L :: frs outer), ?_⟩
  refine .cons (by rw [hk]; decide) hf F.ns (hideAll_none _ (.head _)) (frames_re (hfr.of_keeps fun b o q _ => ⟨o, F.keep b o q, rfl⟩) fun f hf => hideAll_none _ (.tail _ hf))
theorem one_no {l : Addr} {nm : Str} {t : Tok} {outer : List Env} (X : (hd.heap_39 w.params).In s.heap) (T : Top V LS mean mg mb s.heap) (hdp : dp + 3 < 700) (hun : un + 30 < 7000) (l1 : s.heap.IsList l #[]) (hnm : nm.length ≤ 100)
    (hfr : Fra s.heap outer) (hE : ∀ e dx x t' h' tk, Flies s.heap outer h' e dx (.str x t') → E (.ref e) { s with heap := h', toks := tk }) :
    wpAny (model PySem.Challenge.rw_og0093_01.row.prog w) (AT none dp (some outer) gd un) (call (.ref 230) [.ref l, .str nm t]) Q E s := by
  ((refine wpAny_call ?_; k_dflt (refine' code0 ?k19 ?k59 ?k69 ?k79 ?k89 ?k99 ?kB9 ?_ ?c29 ?c39 ?c49 ?c59; (case k19 => k_asm); (case k59 => k_asm); (case k69 => k_is); (case k79 => k_is); (case k89 => (simp only [recursionLimit]; omega)); (case k99 => first | exact BindsTo.of_eq rfl | exact binds_K (by k_in) rfl (by k_is) rfl rfl rfl); (case c59 => decide); (case kB9 => exact locs rfl); (case c29 => exact rfl); (case c39 => exact rfl); (case c49 => exact rfl); k_whole; intro L'9 h'9 F'9 N'9 X'9 T'9; (try dsimp only); (try k_fold))))
  (repeat' (first | wtm_at "s1" | ((with_reducible show wpAny _ _ (exec (.Raise _ _ _) _) _ _ _); k_dflt (refine Raise_60 rfl ?_)) | wtm_at "s2"))
  rename Fr _ _ _ _ => F0
  refine made60 (X.keeps F0.keep) (T.keeps F0.keep) ?_ ?_ ?_
  · simp only [depth_deeper]; omega
  · simp only [units_deeper]; omega
  intro e r dx mA h2 tk2 K2 g2 n2 dn2 ne2 ns2 w2
  refine ⟨e, .ref r, some dx, rfl, is60 ((X.keeps F0.keep).keeps K2), g2, ?_⟩
  exact flies_leave F0 (by exact rfl) (flies_made K2 g2 n2 dn2 ne2 ns2 w2 (frames_own F0 hfr (by exact rfl) (by exact rfl))) rfl fun h' z => hE _ _ _ _ _ _ z
end
section
-- Q9
example : True := by
  w_top off
  trivial
--CELLS
section
--KEEP
local macro_rules | `(tactic| walk_at "call ref") => `(tactic| first | (k_dflt (first | refine leads_spec (by k_in) (by wtm_at "T") (by wtm_at "D") (by wtm_at "U") (by is_list) (Fr.tup (by k_asm) (by assumption)) ?_ | refine file_spec (by k_in) (by wtm_at "T") (by wtm_at "D") (by wtm_at "U") (by ktr_unf) (by ktr_unf) (by first | assumption | decide) (by first | assumption | exact Fr.keep (by k_asm) _ _ (by assumption)) (by first | assumption | exact Fr.keep (by k_asm) _ _ (by assumption)) (by assumption) (TabAt.keep (by assumption) (Fr.keep (by k_asm))) ?_); intros; wtm_at "PK") | (k_dflt (first | refine names_spec (by k_in) (by wtm_at "T") (by wtm_at "D") (by wtm_at "U") (by ktr_unf) (by ktr_unf) (by first | assumption | decide) (by assumption) ?_ | refine all_spec (by k_in) (by wtm_at "T") (by wtm_at "D") (by wtm_at "U") (Dat.ext (by assumption) (Fr.keep (by k_asm))) ?_); intros; wtm_at "PM"))
--KEEP
local macro_rules | `(tactic| walk_at "binaryOp Add ref ref") => `(tactic| (k_here; (with_reducible show wpAny _ _ (binaryOp _ (Value.ref _) (Value.ref _)) _ _ _); k_dflt (refine' kmk_add_lit ?F ?N ?a ?b ?e ?_ ?z; (case F => k_asm); (case N => k_asm); (case a => is_list); (case b => is_list); (case e => exact rfl); (case z => (show _ ≤ 16777216; (try simp only [List.toList_toArray, List.length_map, List.length_zip, List.length_append, List.length_cons, List.length_nil]); omega))); intro D' h' F' N' l1; (try k_lt l1); (try k_sweep)))
local macro_rules | `(tactic| walk_at "CompSrcT") => `(tactic| (k_here; k_dflt (first
  | (refine LCt.CompSrcT.ledger (by rfl) (by k_asm) (by k_asm) (by k_mem) (by first | size_fits | exact Nat.le_of_ble_eq_true rfl) ?_; intro g'; lct_lit)
  | refine hold ?_)))
section
theorem find_spec {a : Ad} {x q kl : Addr} {nm : Str} {t : Tok} {par occ shp : Value} {ps : List (Addr × Str)} (X : (hd.heap_39 w.params).In s.heap) (T : Top V LS mean mg mb s.heap) (hdp : dp + 6 < 900) (hun : un + 60 < 9000) (D : Dat w s.heap a) (q1 : s.heap.IsTuple q #[]) (I : It s.heap x nm par occ shp kl) (C : Chain s.heap par ps) (hl : ps.length ≤ 2) (hn : ∀ p ∈ ps, (p.2 != Str.ofString "FILLER") = true) (hu : a.xs.filter (fun p => p.2 == nm) = [(x, nm)])
    (hQ : ∀ h' tk, Ext s.heap h' → Q (.ref x) { s with heap := h', toks := tk }) :
    wpAny (model PySem.Challenge.rw_og0093_01.row.prog w) (AT none dp fr gd un) (call (.ref 235) [.ref a.d, .str nm t, .ref q]) Q E s := by
  obtain ⟨dd, des, dn, fd, wl, wn, ll, ln, xd, p1, p2, p3, p4, p5, p6, p7, p8, p9, p11, p10⟩ := D.top
  have hits := D.its
  ((first | (refine wpAny_call ?_; k_dflt (refine' code0 ?k19 ?k59 ?k69 ?k79 ?k89 ?k99 ?kB9 ?_ ?c29 ?c39 ?c49 ?c59; (case k19 => k_asm); (case k59 => k_asm); (case k69 => k_is); (case k79 => k_is); (case k89 => (simp only [recursionLimit]; omega)); (case k99 => first | exact BindsTo.of_eq rfl | exact binds_K (by k_in) rfl (by k_is) rfl rfl rfl); (case c59 => decide); (case kB9 => exact locs rfl); (case c29 => exact rfl); (case c39 => exact rfl); (case c49 => exact rfl); k_whole; intro L'9 h'9 F'9 N'9 X'9 T'9; (try dsimp only); (try k_fold))) | (refine wpAny_call ?_; k_dflt (refine' code0C ?k19 ?k59 ?k69 ?k79 ?k89 ?k99 ?kB9 ?kD9 ?_ ?c29 ?c39 ?c49; (case k19 => k_asm); (case k59 => k_asm); (case k69 => k_is); (case k79 => k_is); (case k89 => (simp only [recursionLimit]; omega)); (case k99 => first | exact BindsTo.of_eq rfl | exact binds_K (by k_in) rfl (by k_is) rfl rfl rfl); (case kB9 => exact rfl); (case kD9 => decide +kernel); (case c29 => exact rfl); (case c39 => exact rfl); (case c49 => exact rfl); k_whole; intro L'9 h'9 tk'9 cells'9 F'9 N'9 Y'9 X'9 T'9; k_cells Y'9; (try simp only [List.cons_append, List.nil_append] at N'9); (try dsimp only); (try k_fold)))))
  (repeat' (first | wtm_at "s1" | ((fail_if_success fail_if_success with_reducible refine at_call ?_); ((with_reducible show wpAny _ _ (call (.ref 230) _ _) _ _ _); (k_dflt (refine' one_spec (by k_in) (by wtm_at "T") (by first | exact rm1 hdp rfl rfl | wtm_at "D") (by first | exact um1 hun rfl rfl | wtm_at "U") ?l19 ?_; (case l19 => is_list); k_whole); intros; wtm_at "PK"))) | wtm_at "s2"))
  unfold Hold
  refine LCt.CompSrcT.ledger (by rfl) (by k_asm) (by k_asm) (by k_mem) (Nat.le_of_ble_eq_true rfl) ?_
  intro g'
  refine restInd (fun i ys => ys = ((a.xs.take i).filter (fun p => p.2 == nm)).map (fun p => Value.ref p.1)) rfl ?_ ?_
  · intro k i ys hy ih
    refine LCt.CompRestT.succ ?_
    intro v' I' oI' C' oC' D' m' h' tk' E' hv' hC' hx' F' N' off' ne'
    obtain ⟨p, hp, rfl, par1, occ1, shp1, kl1, It1⟩ := allPick (xs := a.xs) hits hv'
    obtain ⟨dx1, es1, n1, tn1, b0, b1, b2, b3, b4, b5, b6⟩ := It1
    (try simp only [LCg.Off3, and_true] at off')
    (repeat' (first | wtm_at "s1" | ((fail_if_success fail_if_success with_reducible refine at_call ?_); ((with_reducible show wpAny _ _ (call (.ref 230) _ _) _ _ _); (k_dflt (refine' one_spec (by k_in) (by wtm_at "T") (by first | exact rm1 hdp rfl rfl | wtm_at "D") (by first | exact um1 hun rfl rfl | wtm_at "U") ?l19 ?_; (case l19 => is_list); k_whole); intros; wtm_at "PK"))) | wtm_at "s2"))
    all_goals (rename (p.2 == nm) = _ => he; refine ih _ ?_; simp only [takeSucc hp, he, Bool.false_eq_true, if_true, if_false, ite_true, ite_false, List.map_append, List.map_cons, List.map_nil, List.append_nil, hy])
  · intro ys hy
    have hy' : ys = [.ref x] := by
      rw [hy]
      show List.map _ (List.filter _ a.xs) = _
      rw [hu]; rfl
    subst hy'
    (repeat' (first | wtm_at "s1" | ((fail_if_success fail_if_success with_reducible refine at_call ?_); ((with_reducible show wpAny _ _ (call (.ref 230) _ _) _ _ _); (k_dflt (refine' one_spec (by k_in) (by wtm_at "T") (by first | exact rm1 hdp rfl rfl | wtm_at "D") (by first | exact um1 hun rfl rfl | wtm_at "U") ?l19 ?_; (case l19 => is_list); k_whole); intros; wtm_at "PK"))) | wtm_at "s2"))
    exact hQ _ _ (Fr.keep (by assumption))
end
section
theorem find_no {a : Ad} {q : Addr} {nm : Str} {t : Tok} {outer : List Env} (X : (hd.heap_39 w.params).In s.heap) (T : Top V LS mean mg mb s.heap) (hdp : dp + 6 < 600) (hun : un + 60 < 6000) (D : Dat w s.heap a) (q1 : s.heap.IsTuple q #[]) (hnm : nm.length ≤ 100) (hu : a.xs.filter (fun p => p.2 == nm) = [])
    (hfr : Fra s.heap outer) (hE : ∀ e dx x t' h' tk, Flies s.heap outer h' e dx (.str x t') → E (.ref e) { s with heap := h', toks := tk }) :
    wpAny (model PySem.Challenge.rw_og0093_01.row.prog w) (AT none dp (some outer) gd un) (call (.ref 235) [.ref a.d, .str nm t, .ref q]) Q E s := by
  obtain ⟨dd, des, dn, fd, wl, wn, ll, ln, xd, p1, p2, p3, p4, p5, p6, p7, p8, p9, p11, p10⟩ := D.top
  have hits := D.its
  ((first | (refine wpAny_call ?_; k_dflt (refine' code0 ?k19 ?k59 ?k69 ?k79 ?k89 ?k99 ?kB9 ?_ ?c29 ?c39 ?c49 ?c59; (case k19 => k_asm); (case k59 => k_asm); (case k69 => k_is); (case k79 => k_is); (case k89 => (simp only [recursionLimit]; omega)); (case k99 => first | exact BindsTo.of_eq rfl | exact binds_K (by k_in) rfl (by k_is) rfl rfl rfl); (case c59 => decide); (case kB9 => exact locs rfl); (case c29 => exact rfl); (case c39 => exact rfl); (case c49 => exact rfl); k_whole; intro L'9 h'9 F'9 N'9 X'9 T'9; (try dsimp only); (try k_fold))) | (refine wpAny_call ?_; k_dflt (refine' code0C ?k19 ?k59 ?k69 ?k79 ?k89 ?k99 ?kB9 ?kD9 ?_ ?c29 ?c39 ?c49; (case k19 => k_asm); (case k59 => k_asm); (case k69 => k_is); (case k79 => k_is); (case k89 => (simp only [recursionLimit]; omega)); (case k99 => first | exact BindsTo.of_eq rfl | exact binds_K (by k_in) rfl (by k_is) rfl rfl rfl); (case kB9 => exact rfl); (case kD9 => decide +kernel); (case c29 => exact rfl); (case c39 => exact rfl); (case c49 => exact rfl); k_whole; intro L'9 h'9 tk'9 cells'9 F'9 N'9 Y'9 X'9 T'9; k_cells Y'9; (try simp only [List.cons_append, List.nil_append] at N'9); (try dsimp only); (try k_fold)))))
  (repeat' (first | wtm_at "s1" | ((fail_if_success fail_if_success with_reducible refine at_call ?_); (with_reducible refine hold_at 230 ?_)) | wtm_at "s2"))
  unfold Hold
  refine LCt.CompSrcT.ledger (by rfl) (by k_asm) (by k_asm) (by k_mem) (Nat.le_of_ble_eq_true rfl) ?_
  intro g'
  refine restInd (fun i ys => ys = ((a.xs.take i).filter (fun p => p.2 == nm)).map (fun p => Value.ref p.1)) rfl ?_ ?_
  · intro k i ys hy ih
    refine LCt.CompRestT.succ ?_
    intro v' I' oI' C' oC' D' m' h' tk' E' hv' hC' hx' F' N' off' ne'
    obtain ⟨p, hp, rfl, par1, occ1, shp1, kl1, It1⟩ := allPick (xs := a.xs) hits hv'
    obtain ⟨dx1, es1, n1, tn1, b0, b1, b2, b3, b4, b5, b6⟩ := It1
    (try simp only [LCg.Off3, and_true] at off')
    (repeat' (first | wtm_at "s1" | ((fail_if_success fail_if_success with_reducible refine at_call ?_); (with_reducible refine hold_at 230 ?_)) | wtm_at "s2"))
    all_goals (rename (p.2 == nm) = _ => he; refine ih _ ?_; simp only [takeSucc hp, he, Bool.false_eq_true, if_true, if_false, ite_true, ite_false, List.map_append, List.map_cons, List.map_nil, List.append_nil, hy])
  · intro ys hy
    have hy' : ys = [] := by
      rw [hy]
      show List.map _ (List.filter _ a.xs) = _
      rw [hu]; rfl
    subst hy'
    (repeat' (first | wtm_at "s1" | ((fail_if_success fail_if_success with_reducible refine at_call ?_); (with_reducible refine hold_at 230 ?_)) | wtm_at "s2"))
    unfold Hold
    rename Fr _ _ _ _ => F0
    refine one_no (X.keeps F0.keep) (T.keeps F0.keep) (by simp only [depth_deeper]; omega) (by simp only [units_deeper]; omega) (by is_list) hnm (frames_own F0 hfr (by exact rfl) (by exact rfl)) ?_
    intro e dx x t' h' tk' FL
    exact flies_leave F0 (by exact rfl) FL rfl fun h' z => hE _ _ _ _ _ _ z
end
end
end
section
-- Q11
example : True := by
  w_top off
  trivial
section
theorem tables_spec {x : Addr} {k : Nat} (X : (hd.heap_39 w.params).In s.heap) (T : Top V LS mean mg mb s.heap) (hdp : dp + 3 < 900) (hun : un + 30 < 9000) (H : TabN s.heap x k)
    (hQ : ∀ r its n h' tk, Ext s.heap h' → h'.get? r = some (listOf its n) → s.heap.get? r = none → its.size = k → Q (.ref r) { s with heap := h', toks := tk }) :
    wpAny (model PySem.Challenge.rw_og0093_01.row.prog w) (AT none dp fr gd un) (call (.ref 211) [.ref x]) Q E s := by
  cases H with
  | top I =>
    have J := I
    obtain ⟨dx, es, n, tn, a0, a1, a2, a3, a4, a5, a6⟩ := I
    ((refine wpAny_call ?_; k_dflt (refine' code0 ?k19 ?k59 ?k69 ?k79 ?k89 ?k99 ?kB9 ?_ ?c29 ?c39 ?c49 ?c59; (case k19 => k_asm); (case k59 => k_asm); (case k69 => k_is); (case k79 => k_is); (case k89 => (simp only [recursionLimit]; omega)); (case k99 => first | exact BindsTo.of_eq rfl | exact binds_K (by k_in) rfl (by k_is) rfl rfl rfl); (case c59 => decide); (case kB9 => exact locs rfl); (case c29 => exact rfl); (case c39 => exact rfl); (case c49 => exact rfl); k_whole; intro L'9 h'9 F'9 N'9 X'9 T'9; (try dsimp only); (try k_fold))))
    (repeat' (first | wtm_at "s1" | ((fail_if_success fail_if_success with_reducible refine at_call ?_); ((with_reducible show wpAny _ _ (call (.ref 194) _ _) _ _ _); (k_dflt (refine' around_spec (by k_in) (by wtm_at "T") (by first | exact rm1 hdp rfl rfl | wtm_at "D") (by first | exact um1 hun rfl rfl | wtm_at "U") ?sI9 ?sC9 ?sl9 ?_; (case sI9 => ktr_unf); (case sC9 => ktr_unf); (case sl9 => first | assumption | exact Nat.le_of_ble_eq_true rfl); k_whole); intros; wtm_at "PM"))) | wtm_at "s2"))
    refine' hQ _ _ _ _ _ ?e1 ?e2 ?e3 ?e4
    (case e1 => exact Fr.keep (by assumption))
    (case e2 => exact News.get (by assumption) (by k_mem))
    (case e3 => exact News.fresh (by assumption) (by k_mem))
    (case e4 => exact rfl)
  | leaf I I1 =>
    have J := I
    have J1 := I1
    obtain ⟨dx, es, n, tn, a0, a1, a2, a3, a4, a5, a6⟩ := I
    obtain ⟨dx1, es1, n1, tn1, b0, b1, b2, b3, b4, b5, b6⟩ := I1
    ((refine wpAny_call ?_; k_dflt (refine' code0 ?k19 ?k59 ?k69 ?k79 ?k89 ?k99 ?kB9 ?_ ?c29 ?c39 ?c49 ?c59; (case k19 => k_asm); (case k59 => k_asm); (case k69 => k_is); (case k79 => k_is); (case k89 => (simp only [recursionLimit]; omega)); (case k99 => first | exact BindsTo.of_eq rfl | exact binds_K (by k_in) rfl (by k_is) rfl rfl rfl); (case c59 => decide); (case kB9 => exact locs rfl); (case c29 => exact rfl); (case c39 => exact rfl); (case c49 => exact rfl); k_whole; intro L'9 h'9 F'9 N'9 X'9 T'9; (try dsimp only); (try k_fold))))
    (repeat' (first | wtm_at "s1" | ((fail_if_success fail_if_success with_reducible refine at_call ?_); ((with_reducible show wpAny _ _ (call (.ref 194) _ _) _ _ _); (k_dflt (refine' around_spec (by k_in) (by wtm_at "T") (by first | exact rm1 hdp rfl rfl | wtm_at "D") (by first | exact um1 hun rfl rfl | wtm_at "U") ?sI9 ?sC9 ?sl9 ?_; (case sI9 => ktr_unf); (case sC9 => ktr_unf); (case sl9 => first | assumption | exact Nat.le_of_ble_eq_true rfl); k_whole); intros; wtm_at "PM"))) | wtm_at "s2"))
    refine' hQ _ _ _ _ _ ?e1 ?e2 ?e3 ?e4
    (case e1 => exact Fr.keep (by assumption))
    (case e2 => exact News.get (by assumption) (by k_mem))
    (case e3 => exact News.fresh (by assumption) (by k_mem))
    (case e4 => exact rfl)
  | deep I I1 I2 =>
    have J := I
    have J1 := I1
    have J2 := I2
    obtain ⟨dx, es, n, tn, a0, a1, a2, a3, a4, a5, a6⟩ := I
    obtain ⟨dx1, es1, n1, tn1, b0, b1, b2, b3, b4, b5, b6⟩ := I1
    obtain ⟨dx2, es2, n2, tn2, c0, c1, c2, c3, c4, c5, c6⟩ := I2
    ((refine wpAny_call ?_; k_dflt (refine' code0 ?k19 ?k59 ?k69 ?k79 ?k89 ?k99 ?kB9 ?_ ?c29 ?c39 ?c49 ?c59; (case k19 => k_asm); (case k59 => k_asm); (case k69 => k_is); (case k79 => k_is); (case k89 => (simp only [recursionLimit]; omega)); (case k99 => first | exact BindsTo.of_eq rfl | exact binds_K (by k_in) rfl (by k_is) rfl rfl rfl); (case c59 => decide); (case kB9 => exact locs rfl); (case c29 => exact rfl); (case c39 => exact rfl); (case c49 => exact rfl); k_whole; intro L'9 h'9 F'9 N'9 X'9 T'9; (try dsimp only); (try k_fold))))
    (repeat' (first | wtm_at "s1" | ((fail_if_success fail_if_success with_reducible refine at_call ?_); ((with_reducible show wpAny _ _ (call (.ref 194) _ _) _ _ _); (k_dflt (refine' around_spec (by k_in) (by wtm_at "T") (by first | exact rm1 hdp rfl rfl | wtm_at "D") (by first | exact um1 hun rfl rfl | wtm_at "U") ?sI9 ?sC9 ?sl9 ?_; (case sI9 => ktr_unf); (case sC9 => ktr_unf); (case sl9 => first | assumption | exact Nat.le_of_ble_eq_true rfl); k_whole); intros; wtm_at "PM"))) | wtm_at "s2"))
    refine' hQ _ _ _ _ _ ?e1 ?e2 ?e3 ?e4
    (case e1 => exact Fr.keep (by assumption))
    (case e2 => exact News.get (by assumption) (by k_mem))
    (case e3 => exact News.fresh (by assumption) (by k_mem))
    (case e4 => exact rfl)
end
end
section
-- Q12
example : True := by
  w_top off
  trivial
section
theorem isix_spec {a : Ad} {o sb : Addr} {nm : Str} (X : (hd.heap_39 w.params).In s.heap) (T : Top V LS mean mg mb s.heap) (hdp : dp + 2 < 900) (hun : un + 20 < 9000) (D : Dat w s.heap a) (R : RefT s.heap o nm sb)
    (hQ : ∀ h' tk, Ext s.heap h' → Q (.bool (valueAt a.ix nm).isSome) { s with heap := h', toks := tk }) :
    wpAny (model PySem.Challenge.rw_og0093_01.row.prog w) (AT hh dp fr gd un) (call (.ref 250) [.ref a.d, .ref o]) Q E s := by
  obtain ⟨dd, des, dn, fd, wl, wn, ll, ln, xd, p1, p2, p3, p4, p5, p6, p7, p8, p9, p11, p10⟩ := D.top
  obtain ⟨t0, t1, q, n, r0, r1⟩ := R
  have r2 : s.heap.IsTuple o #[.str (Str.ofString "ref") t0, .str nm t1, .ref q, .ref sb, .none] := ⟨_, r0, rfl, _, rfl⟩
  ((refine wpAny_call ?_; k_dflt (refine' code0 ?k19 ?k59 ?k69 ?k79 ?k89 ?k99 ?kB9 ?_ ?c29 ?c39 ?c49 ?c59; (case k19 => k_asm); (case k59 => k_asm); (case k69 => k_is); (case k79 => k_is); (case k89 => (simp only [recursionLimit]; omega)); (case k99 => first | exact BindsTo.of_eq rfl | exact binds_K (by k_in) rfl (by k_is) rfl rfl rfl); (case c59 => decide); (case kB9 => exact locs rfl); (case c29 => exact rfl); (case c39 => exact rfl); (case c49 => exact rfl); k_whole; intro L'9 h'9 F'9 N'9 X'9 T'9; (try dsimp only); (try k_fold))))
  (repeat' (first | wtm_at "s1" | ((fail_if_success fail_if_success with_reducible refine at_cmp ?_); ((with_reducible show wpAny _ _ (compareOp CmpOp.Eq (Value.ref _) (Value.ref _)) _ _ _); k_dflt (refine' eq_nilT ?a9 ?b9 ?c9 ?_; (case b9 => is_tup); (case a9 => is_tup); (case c9 => units_room); k_whole))) | ((with_reducible show wpAny _ _ (compareOp .In (.str _ _) (.ref _)) _ _ _); k_dflt (refine' in_dict ?k19 ?k29 ?_; (case k19 => assumption); (case k29 => exact Heap.DictOf.keep (by assumption) (Fr.keep (by k_asm))))) | wtm_at "s2"))
  all_goals exact hQ _ _ (Fr.keep (by assumption))
end
end
section
-- Q13
example : True := by
  w_top off
  trivial
section
theorem item_spec {a : Ad} {o sb x : Addr} {nm cat : Str} {k : Nat} (X : (hd.heap_39 w.params).In s.heap) (T : Top V LS mean mg mb s.heap) (hdp : dp + 7 < 900) (hun : un + 70 < 9000) (D : Dat w s.heap a) (R : RefT s.heap o nm sb) (H : Hit s.heap a nm x cat k)
    (hQ : ∀ h' tk, Ext s.heap h' → Q (.ref x) { s with heap := h', toks := tk }) :
    wpAny (model PySem.Challenge.rw_og0093_01.row.prog w) (AT none dp fr gd un) (call (.ref 243) [.ref a.d, .ref o]) Q E s := by
  obtain ⟨t0, t1, q, n, r0, r1⟩ := R
  have r2 : s.heap.IsTuple o #[.str (Str.ofString "ref") t0, .str nm t1, .ref q, .ref sb, .none] := ⟨_, r0, rfl, _, rfl⟩
  obtain ⟨par, occ, sh, kl, ps, i, j, c, l, f, u, nn⟩ := H
  ((refine wpAny_call ?_; k_dflt (refine' code0 ?k19 ?k59 ?k69 ?k79 ?k89 ?k99 ?kB9 ?_ ?c29 ?c39 ?c49 ?c59; (case k19 => k_asm); (case k59 => k_asm); (case k69 => k_is); (case k79 => k_is); (case k89 => (simp only [recursionLimit]; omega)); (case k99 => first | exact BindsTo.of_eq rfl | exact binds_K (by k_in) rfl (by k_is) rfl rfl rfl); (case c59 => decide); (case kB9 => exact locs rfl); (case c29 => exact rfl); (case c39 => exact rfl); (case c49 => exact rfl); k_whole; intro L'9 h'9 F'9 N'9 X'9 T'9; (try dsimp only); (try k_fold))))
  (repeat' (first | wtm_at "s1" | ((fail_if_success fail_if_success with_reducible refine at_call ?_); ((with_reducible show wpAny _ _ (call (.ref 235) _ _) _ _ _); (k_dflt (refine' find_spec (by k_in) (by wtm_at "T") (by first | exact rm1 hdp rfl rfl | wtm_at "D") (by first | exact um1 hun rfl rfl | wtm_at "U") ?sD9 ?q19 ?sI9 ?sC9 ?sl9 ?sn9 ?su29 ?_; (case sD9 => exact Dat.ext (by assumption) (Fr.keep (by k_asm))); (case q19 => exact Fr.tup (by k_asm) (by assumption)); (case sI9 => ktr_unf); (case sC9 => ktr_unf); (case sl9 => assumption); (case sn9 => assumption); (case su29 => assumption); k_whole); intros; wtm_at "PK"))) | wtm_at "s2"))
  exact hQ _ _ (Fr.keep (by assumption))
end
end
section
-- Q14
example : True := by
  w_top off
  trivial
section
theorem cat_ix {a : Ad} {o sb : Addr} {nm : Str} (X : (hd.heap_39 w.params).In s.heap) (T : Top V LS mean mg mb s.heap) (hdp : dp + 8 < 900) (hun : un + 80 < 9000) (D : Dat w s.heap a) (R0 : RefT s.heap o nm sb) (hi : (valueAt a.ix nm).isSome = true)
    (hQ : ∀ t h' tk, Ext s.heap h' → Q (.str (Str.ofString "index") t) { s with heap := h', toks := tk }) :
    wpAny (model PySem.Challenge.rw_og0093_01.row.prog w) (AT none dp fr gd un) (call (.ref 279) [.ref a.d, .ref o]) Q E s := by
  have R := R0
  obtain ⟨t0, t1, q, n, r0, r1⟩ := R0
  have r2 : s.heap.IsTuple o #[.str (Str.ofString "ref") t0, .str nm t1, .ref q, .ref sb, .none] := ⟨_, r0, rfl, _, rfl⟩
  ((refine wpAny_call ?_; k_dflt (refine' code0 ?k19 ?k59 ?k69 ?k79 ?k89 ?k99 ?kB9 ?_ ?c29 ?c39 ?c49 ?c59; (case k19 => k_asm); (case k59 => k_asm); (case k69 => k_is); (case k79 => k_is); (case k89 => (simp only [recursionLimit]; omega)); (case k99 => first | exact BindsTo.of_eq rfl | exact binds_K (by k_in) rfl (by k_is) rfl rfl rfl); (case c59 => decide); (case kB9 => exact locs rfl); (case c29 => exact rfl); (case c39 => exact rfl); (case c49 => exact rfl); k_whole; intro L'9 h'9 F'9 N'9 X'9 T'9; (try dsimp only); (try k_fold))))
  (repeat' (first | wtm_at "s1" | ((fail_if_success fail_if_success with_reducible refine at_call ?_); (first | ((with_reducible show wpAny _ _ (call (.ref 243) _ _) _ _ _); (k_dflt (refine' item_spec (by k_in) (by wtm_at "T") (by first | exact rm1 hdp rfl rfl | wtm_at "D") (by first | exact um1 hun rfl rfl | wtm_at "U") ?sD9 ?sR9 ?sH9 ?_; (case sD9 => exact Dat.ext (by assumption) (Fr.keep (by k_asm))); (case sR9 => exact RefT.ext (by assumption) (Fr.keep (by k_asm))); (case sH9 => exact Hit.ext (by assumption) (Fr.keep (by k_asm))); k_whole); intros; wtm_at "PK")) | ((with_reducible show wpAny _ _ (call (.ref 250) _ _) _ _ _); (k_dflt (refine' isix_spec (by k_in) (by wtm_at "T") (by first | exact rm1 hdp rfl rfl | wtm_at "D") (by first | exact um1 hun rfl rfl | wtm_at "U") ?sD9 ?sR9 ?_; (case sD9 => exact Dat.ext (by assumption) (Fr.keep (by k_asm))); (case sR9 => exact RefT.ext (by assumption) (Fr.keep (by k_asm))); k_whole); intros; wtm_at "PK")))) | wtm_at "s2"))
  exact hQ _ _ _ (Fr.keep (by assumption))
theorem cat_ref {a : Ad} {o sb x : Addr} {nm cat : Str} {k : Nat} (X : (hd.heap_39 w.params).In s.heap) (T : Top V LS mean mg mb s.heap) (hdp : dp + 8 < 900) (hun : un + 80 < 9000) (D : Dat w s.heap a) (R0 : RefT s.heap o nm sb) (H : Hit s.heap a nm x cat k) (hi : (valueAt a.ix nm).isSome = false)
    (hQ : ∀ t h' tk, Ext s.heap h' → Q (.str cat t) { s with heap := h', toks := tk }) :
    wpAny (model PySem.Challenge.rw_og0093_01.row.prog w) (AT none dp fr gd un) (call (.ref 279) [.ref a.d, .ref o]) Q E s := by
  have R := R0
  obtain ⟨t0, t1, q, n, r0, r1⟩ := R0
  have r2 : s.heap.IsTuple o #[.str (Str.ofString "ref") t0, .str nm t1, .ref q, .ref sb, .none] := ⟨_, r0, rfl, _, rfl⟩
  have H0 := H
  obtain ⟨par, occ, sh, kl, ps, i, j, c, l, f, u, nn⟩ := H
  obtain ⟨dx, es, n1, tn, a0, a1, a2, a3, a4, a5, a6⟩ := i
  obtain ⟨dy, es1, n2, ty, b0, b1, b2⟩ := j
  ((refine wpAny_call ?_; k_dflt (refine' code0 ?k19 ?k59 ?k69 ?k79 ?k89 ?k99 ?kB9 ?_ ?c29 ?c39 ?c49 ?c59; (case k19 => k_asm); (case k59 => k_asm); (case k69 => k_is); (case k79 => k_is); (case k89 => (simp only [recursionLimit]; omega)); (case k99 => first | exact BindsTo.of_eq rfl | exact binds_K (by k_in) rfl (by k_is) rfl rfl rfl); (case c59 => decide); (case kB9 => exact locs rfl); (case c29 => exact rfl); (case c39 => exact rfl); (case c49 => exact rfl); k_whole; intro L'9 h'9 F'9 N'9 X'9 T'9; (try dsimp only); (try k_fold))))
  (repeat' (first | wtm_at "s1" | ((fail_if_success fail_if_success with_reducible refine at_call ?_); (first | ((with_reducible show wpAny _ _ (call (.ref 243) _ _) _ _ _); (k_dflt (refine' item_spec (by k_in) (by wtm_at "T") (by first | exact rm1 hdp rfl rfl | wtm_at "D") (by first | exact um1 hun rfl rfl | wtm_at "U") ?sD9 ?sR9 ?sH9 ?_; (case sD9 => exact Dat.ext (by assumption) (Fr.keep (by k_asm))); (case sR9 => exact RefT.ext (by assumption) (Fr.keep (by k_asm))); (case sH9 => exact Hit.ext (by assumption) (Fr.keep (by k_asm))); k_whole); intros; wtm_at "PK")) | ((with_reducible show wpAny _ _ (call (.ref 250) _ _) _ _ _); (k_dflt (refine' isix_spec (by k_in) (by wtm_at "T") (by first | exact rm1 hdp rfl rfl | wtm_at "D") (by first | exact um1 hun rfl rfl | wtm_at "U") ?sD9 ?sR9 ?_; (case sD9 => exact Dat.ext (by assumption) (Fr.keep (by k_asm))); (case sR9 => exact RefT.ext (by assumption) (Fr.keep (by k_asm))); k_whole); intros; wtm_at "PK")))) | wtm_at "s2"))
  exact hQ _ _ _ (Fr.keep (by assumption))
theorem cat_number {a : Ad} {o : Addr} {n : Nat} {t0 : Tok} {x : Addr} (X : (hd.heap_39 w.params).In s.heap) (T : Top V LS mean mg mb s.heap) (hdp : dp + 8 < 900) (hun : un + 80 < 9000) (r0 : s.heap.get? o = some (tupOf #[.str (Str.ofString "number") t0, .ref x] n))
    (hQ : ∀ t h' tk, Ext s.heap h' → Q (.str (Str.ofString "numeric") t) { s with heap := h', toks := tk }) :
    wpAny (model PySem.Challenge.rw_og0093_01.row.prog w) (AT none dp fr gd un) (call (.ref 279) [.ref a.d, .ref o]) Q E s := by
  have r2 : s.heap.IsTuple o #[.str (Str.ofString "number") t0, .ref x] := ⟨_, r0, rfl, _, rfl⟩
  ((refine wpAny_call ?_; k_dflt (refine' code0 ?k19 ?k59 ?k69 ?k79 ?k89 ?k99 ?kB9 ?_ ?c29 ?c39 ?c49 ?c59; (case k19 => k_asm); (case k59 => k_asm); (case k69 => k_is); (case k79 => k_is); (case k89 => (simp only [recursionLimit]; omega)); (case k99 => first | exact BindsTo.of_eq rfl | exact binds_K (by k_in) rfl (by k_is) rfl rfl rfl); (case c59 => decide); (case kB9 => exact locs rfl); (case c29 => exact rfl); (case c39 => exact rfl); (case c49 => exact rfl); k_whole; intro L'9 h'9 F'9 N'9 X'9 T'9; (try dsimp only); (try k_fold))))
  (repeat' (first | wtm_at "s1" | ((fail_if_success fail_if_success with_reducible refine at_cmp ?_); (first | ((with_reducible show wpAny _ _ (compareOp CmpOp.Eq (Value.ref _) (Value.ref _)) _ _ _); k_dflt (refine eq_isZero (Fr.tup (by k_asm) (by assumption)) (News.isTup (by k_asm) (by k_mem)) (by units_room) ?_)) | ((with_reducible show wpAny _ _ (compareOp CmpOp.Eq (Value.ref _) (Value.ref _)) _ _ _); k_dflt (refine eq_isSpace (Fr.tup (by k_asm) (by assumption)) (News.isTup (by k_asm) (by k_mem)) (by units_room) ?_)) | ((with_reducible show wpAny _ _ (compareOp CmpOp.Eq (Value.ref _) (Value.ref _)) _ _ _); k_dflt (refine eq_isText (Fr.tup (by k_asm) (by assumption)) (News.isTup (by k_asm) (by k_mem)) (by units_room) ?_)))) | ((fail_if_success fail_if_success with_reducible refine at_call ?_); (first | ((with_reducible show wpAny _ _ (call (.ref 243) _ _) _ _ _); (k_dflt (refine' item_spec (by k_in) (by wtm_at "T") (by first | exact rm1 hdp rfl rfl | wtm_at "D") (by first | exact um1 hun rfl rfl | wtm_at "U") ?sD9 ?sR9 ?sH9 ?_; (case sD9 => exact Dat.ext (by assumption) (Fr.keep (by k_asm))); (case sR9 => exact RefT.ext (by assumption) (Fr.keep (by k_asm))); (case sH9 => exact Hit.ext (by assumption) (Fr.keep (by k_asm))); k_whole); intros; wtm_at "PK")) | ((with_reducible show wpAny _ _ (call (.ref 250) _ _) _ _ _); (k_dflt (refine' isix_spec (by k_in) (by wtm_at "T") (by first | exact rm1 hdp rfl rfl | wtm_at "D") (by first | exact um1 hun rfl rfl | wtm_at "U") ?sD9 ?sR9 ?_; (case sD9 => exact Dat.ext (by assumption) (Fr.keep (by k_asm))); (case sR9 => exact RefT.ext (by assumption) (Fr.keep (by k_asm))); k_whole); intros; wtm_at "PK")))) | wtm_at "s2"))
  all_goals exact hQ _ _ _ (Fr.keep (by assumption))
theorem cat_text {a : Ad} {o : Addr} {n : Nat} {t0 t1 : Tok} {b : Array UInt8} (X : (hd.heap_39 w.params).In s.heap) (T : Top V LS mean mg mb s.heap) (hdp : dp + 8 < 900) (hun : un + 80 < 9000) (r0 : s.heap.get? o = some (tupOf #[.str (Str.ofString "text") t0, .bytes b t1] n))
    (hQ : ∀ t h' tk, Ext s.heap h' → Q (.str (Str.ofString "alphanumeric") t) { s with heap := h', toks := tk }) :
    wpAny (model PySem.Challenge.rw_og0093_01.row.prog w) (AT none dp fr gd un) (call (.ref 279) [.ref a.d, .ref o]) Q E s := by
  have r2 : s.heap.IsTuple o #[.str (Str.ofString "text") t0, .bytes b t1] := ⟨_, r0, rfl, _, rfl⟩
  ((refine wpAny_call ?_; k_dflt (refine' code0 ?k19 ?k59 ?k69 ?k79 ?k89 ?k99 ?kB9 ?_ ?c29 ?c39 ?c49 ?c59; (case k19 => k_asm); (case k59 => k_asm); (case k69 => k_is); (case k79 => k_is); (case k89 => (simp only [recursionLimit]; omega)); (case k99 => first | exact BindsTo.of_eq rfl | exact binds_K (by k_in) rfl (by k_is) rfl rfl rfl); (case c59 => decide); (case kB9 => exact locs rfl); (case c29 => exact rfl); (case c39 => exact rfl); (case c49 => exact rfl); k_whole; intro L'9 h'9 F'9 N'9 X'9 T'9; (try dsimp only); (try k_fold))))
  (repeat' (first | wtm_at "s1" | ((fail_if_success fail_if_success with_reducible refine at_cmp ?_); (first | ((with_reducible show wpAny _ _ (compareOp CmpOp.Eq (Value.ref _) (Value.ref _)) _ _ _); k_dflt (refine eq_isZero (Fr.tup (by k_asm) (by assumption)) (News.isTup (by k_asm) (by k_mem)) (by units_room) ?_)) | ((with_reducible show wpAny _ _ (compareOp CmpOp.Eq (Value.ref _) (Value.ref _)) _ _ _); k_dflt (refine eq_isSpace (Fr.tup (by k_asm) (by assumption)) (News.isTup (by k_asm) (by k_mem)) (by units_room) ?_)) | ((with_reducible show wpAny _ _ (compareOp CmpOp.Eq (Value.ref _) (Value.ref _)) _ _ _); k_dflt (refine eq_isText (Fr.tup (by k_asm) (by assumption)) (News.isTup (by k_asm) (by k_mem)) (by units_room) ?_)))) | ((fail_if_success fail_if_success with_reducible refine at_call ?_); (first | ((with_reducible show wpAny _ _ (call (.ref 243) _ _) _ _ _); (k_dflt (refine' item_spec (by k_in) (by wtm_at "T") (by first | exact rm1 hdp rfl rfl | wtm_at "D") (by first | exact um1 hun rfl rfl | wtm_at "U") ?sD9 ?sR9 ?sH9 ?_; (case sD9 => exact Dat.ext (by assumption) (Fr.keep (by k_asm))); (case sR9 => exact RefT.ext (by assumption) (Fr.keep (by k_asm))); (case sH9 => exact Hit.ext (by assumption) (Fr.keep (by k_asm))); k_whole); intros; wtm_at "PK")) | ((with_reducible show wpAny _ _ (call (.ref 250) _ _) _ _ _); (k_dflt (refine' isix_spec (by k_in) (by wtm_at "T") (by first | exact rm1 hdp rfl rfl | wtm_at "D") (by first | exact um1 hun rfl rfl | wtm_at "U") ?sD9 ?sR9 ?_; (case sD9 => exact Dat.ext (by assumption) (Fr.keep (by k_asm))); (case sR9 => exact RefT.ext (by assumption) (Fr.keep (by k_asm))); k_whole); intros; wtm_at "PK")))) | wtm_at "s2"))
  all_goals exact hQ _ _ _ (Fr.keep (by assumption))
theorem cat_zero {a : Ad} {o : Addr} {n : Nat} {t0 t1 : Tok} (X : (hd.heap_39 w.params).In s.heap) (T : Top V LS mean mg mb s.heap) (hdp : dp + 8 < 900) (hun : un + 80 < 9000) (r0 : s.heap.get? o = some (tupOf #[.str (Str.ofString "figure") t0, .str (Str.ofString "ZERO") t1] n))
    (hQ : ∀ t h' tk, Ext s.heap h' → Q (.str (Str.ofString "numeric") t) { s with heap := h', toks := tk }) :
    wpAny (model PySem.Challenge.rw_og0093_01.row.prog w) (AT none dp fr gd un) (call (.ref 279) [.ref a.d, .ref o]) Q E s := by
  have r2 : s.heap.IsTuple o #[.str (Str.ofString "figure") t0, .str (Str.ofString "ZERO") t1] := ⟨_, r0, rfl, _, rfl⟩
  ((refine wpAny_call ?_; k_dflt (refine' code0 ?k19 ?k59 ?k69 ?k79 ?k89 ?k99 ?kB9 ?_ ?c29 ?c39 ?c49 ?c59; (case k19 => k_asm); (case k59 => k_asm); (case k69 => k_is); (case k79 => k_is); (case k89 => (simp only [recursionLimit]; omega)); (case k99 => first | exact BindsTo.of_eq rfl | exact binds_K (by k_in) rfl (by k_is) rfl rfl rfl); (case c59 => decide); (case kB9 => exact locs rfl); (case c29 => exact rfl); (case c39 => exact rfl); (case c49 => exact rfl); k_whole; intro L'9 h'9 F'9 N'9 X'9 T'9; (try dsimp only); (try k_fold))))
  (repeat' (first | wtm_at "s1" | ((fail_if_success fail_if_success with_reducible refine at_cmp ?_); (first | ((with_reducible show wpAny _ _ (compareOp CmpOp.Eq (Value.ref _) (Value.ref _)) _ _ _); k_dflt (refine eq_isZero (Fr.tup (by k_asm) (by assumption)) (News.isTup (by k_asm) (by k_mem)) (by units_room) ?_)) | ((with_reducible show wpAny _ _ (compareOp CmpOp.Eq (Value.ref _) (Value.ref _)) _ _ _); k_dflt (refine eq_isSpace (Fr.tup (by k_asm) (by assumption)) (News.isTup (by k_asm) (by k_mem)) (by units_room) ?_)) | ((with_reducible show wpAny _ _ (compareOp CmpOp.Eq (Value.ref _) (Value.ref _)) _ _ _); k_dflt (refine eq_isText (Fr.tup (by k_asm) (by assumption)) (News.isTup (by k_asm) (by k_mem)) (by units_room) ?_)))) | ((fail_if_success fail_if_success with_reducible refine at_call ?_); (first | ((with_reducible show wpAny _ _ (call (.ref 243) _ _) _ _ _); (k_dflt (refine' item_spec (by k_in) (by wtm_at "T") (by first | exact rm1 hdp rfl rfl | wtm_at "D") (by first | exact um1 hun rfl rfl | wtm_at "U") ?sD9 ?sR9 ?sH9 ?_; (case sD9 => exact Dat.ext (by assumption) (Fr.keep (by k_asm))); (case sR9 => exact RefT.ext (by assumption) (Fr.keep (by k_asm))); (case sH9 => exact Hit.ext (by assumption) (Fr.keep (by k_asm))); k_whole); intros; wtm_at "PK")) | ((with_reducible show wpAny _ _ (call (.ref 250) _ _) _ _ _); (k_dflt (refine' isix_spec (by k_in) (by wtm_at "T") (by first | exact rm1 hdp rfl rfl | wtm_at "D") (by first | exact um1 hun rfl rfl | wtm_at "U") ?sD9 ?sR9 ?_; (case sD9 => exact Dat.ext (by assumption) (Fr.keep (by k_asm))); (case sR9 => exact RefT.ext (by assumption) (Fr.keep (by k_asm))); k_whole); intros; wtm_at "PK")))) | wtm_at "s2"))
  all_goals exact hQ _ _ _ (Fr.keep (by assumption))
theorem cat_space {a : Ad} {o : Addr} {n : Nat} {t0 t1 : Tok} (X : (hd.heap_39 w.params).In s.heap) (T : Top V LS mean mg mb s.heap) (hdp : dp + 8 < 900) (hun : un + 80 < 9000) (r0 : s.heap.get? o = some (tupOf #[.str (Str.ofString "figure") t0, .str (Str.ofString "SPACE") t1] n))
    (hQ : ∀ t h' tk, Ext s.heap h' → Q (.str (Str.ofString "alphanumeric") t) { s with heap := h', toks := tk }) :
    wpAny (model PySem.Challenge.rw_og0093_01.row.prog w) (AT none dp fr gd un) (call (.ref 279) [.ref a.d, .ref o]) Q E s := by
  have r2 : s.heap.IsTuple o #[.str (Str.ofString "figure") t0, .str (Str.ofString "SPACE") t1] := ⟨_, r0, rfl, _, rfl⟩
  ((refine wpAny_call ?_; k_dflt (refine' code0 ?k19 ?k59 ?k69 ?k79 ?k89 ?k99 ?kB9 ?_ ?c29 ?c39 ?c49 ?c59; (case k19 => k_asm); (case k59 => k_asm); (case k69 => k_is); (case k79 => k_is); (case k89 => (simp only [recursionLimit]; omega)); (case k99 => first | exact BindsTo.of_eq rfl | exact binds_K (by k_in) rfl (by k_is) rfl rfl rfl); (case c59 => decide); (case kB9 => exact locs rfl); (case c29 => exact rfl); (case c39 => exact rfl); (case c49 => exact rfl); k_whole; intro L'9 h'9 F'9 N'9 X'9 T'9; (try dsimp only); (try k_fold))))
  (repeat' (first | wtm_at "s1" | ((fail_if_success fail_if_success with_reducible refine at_cmp ?_); (first | ((with_reducible show wpAny _ _ (compareOp CmpOp.Eq (Value.ref _) (Value.ref _)) _ _ _); k_dflt (refine eq_isZero (Fr.tup (by k_asm) (by assumption)) (News.isTup (by k_asm) (by k_mem)) (by units_room) ?_)) | ((with_reducible show wpAny _ _ (compareOp CmpOp.Eq (Value.ref _) (Value.ref _)) _ _ _); k_dflt (refine eq_isSpace (Fr.tup (by k_asm) (by assumption)) (News.isTup (by k_asm) (by k_mem)) (by units_room) ?_)) | ((with_reducible show wpAny _ _ (compareOp CmpOp.Eq (Value.ref _) (Value.ref _)) _ _ _); k_dflt (refine eq_isText (Fr.tup (by k_asm) (by assumption)) (News.isTup (by k_asm) (by k_mem)) (by units_room) ?_)))) | ((fail_if_success fail_if_success with_reducible refine at_call ?_); (first | ((with_reducible show wpAny _ _ (call (.ref 243) _ _) _ _ _); (k_dflt (refine' item_spec (by k_in) (by wtm_at "T") (by first | exact rm1 hdp rfl rfl | wtm_at "D") (by first | exact um1 hun rfl rfl | wtm_at "U") ?sD9 ?sR9 ?sH9 ?_; (case sD9 => exact Dat.ext (by assumption) (Fr.keep (by k_asm))); (case sR9 => exact RefT.ext (by assumption) (Fr.keep (by k_asm))); (case sH9 => exact Hit.ext (by assumption) (Fr.keep (by k_asm))); k_whole); intros; wtm_at "PK")) | ((with_reducible show wpAny _ _ (call (.ref 250) _ _) _ _ _); (k_dflt (refine' isix_spec (by k_in) (by wtm_at "T") (by first | exact rm1 hdp rfl rfl | wtm_at "D") (by first | exact um1 hun rfl rfl | wtm_at "U") ?sD9 ?sR9 ?_; (case sD9 => exact Dat.ext (by assumption) (Fr.keep (by k_asm))); (case sR9 => exact RefT.ext (by assumption) (Fr.keep (by k_asm))); k_whole); intros; wtm_at "PK")))) | wtm_at "s2"))
  all_goals exact hQ _ _ _ (Fr.keep (by assumption))
end
end
section
-- Q15
example : True := by
  w_top off
  trivial
section
theorem part0_spec {d o sb : Addr} {nm : Str} (X : (hd.heap_39 w.params).In s.heap) (T : Top V LS mean mg mb s.heap) (hdp : dp + 1 < 900) (hun : un + 10 < 9000) (R0 : RefT s.heap o nm sb) (S0 : s.heap.IsTuple sb #[])
    (hQ : ∀ r n h' tk, Ext s.heap h' → h'.get? r = some (listOf #[] n) → s.heap.get? r = none → Q (.ref r) { s with heap := h', toks := tk }) :
    wpAny (model PySem.Challenge.rw_og0093_01.row.prog w) (AT none dp fr gd un) (call (.ref 257) [.ref d, .ref o]) Q E s := by
  have R := R0
  obtain ⟨t0, t1, q, n, r0, r1⟩ := R0
  have r2 : s.heap.IsTuple o #[.str (Str.ofString "ref") t0, .str nm t1, .ref q, .ref sb, .none] := ⟨_, r0, rfl, _, rfl⟩
  ((refine wpAny_call ?_; k_dflt (refine' code0 ?k19 ?k59 ?k69 ?k79 ?k89 ?k99 ?kB9 ?_ ?c29 ?c39 ?c49 ?c59; (case k19 => k_asm); (case k59 => k_asm); (case k69 => k_is); (case k79 => k_is); (case k89 => (simp only [recursionLimit]; omega)); (case k99 => first | exact BindsTo.of_eq rfl | exact binds_K (by k_in) rfl (by k_is) rfl rfl rfl); (case c59 => decide); (case kB9 => exact locs rfl); (case c29 => exact rfl); (case c39 => exact rfl); (case c49 => exact rfl); k_whole; intro L'9 h'9 F'9 N'9 X'9 T'9; (try dsimp only); (try k_fold))))
  (repeat' (first | wtm_at "s1" | ((fail_if_success fail_if_success with_reducible refine at_iter ?_); (k_dflt (first | refine turnsTup0 rfl (by k_asm) (by k_asm) (Fr.tup (by k_asm) (by assumption)) (tupOff (by k_asm) (by assumption)) ?_ | refine turnsTup0 rfl (by k_asm) (by k_asm) (News.isTup (by k_asm) (by k_mem)) (Ne.symm (News.ne (by k_asm) (by k_mem))) ?_); intro h'9 tk'9 F'9 N'9; (try k_sweep))) | ((fail_if_success fail_if_success with_reducible refine at_for ?_); (k_dflt (refine For_turns (by k_asm) ?_))) | wtm_at "s2"))
  refine' hQ _ _ _ _ ?e1 ?e2 ?e3
  (case e1 => exact Fr.keep (by assumption))
  (case e2 => exact News.get (by assumption) (by k_mem))
  (case e3 => exact News.fresh (by assumption) (by k_mem))
end
end
section
-- Q16
example : True := by
  w_top off
  trivial
section
theorem ref_ix {a : Ad} {o sb : Addr} {nm : Str} (X : (hd.heap_39 w.params).In s.heap) (T : Top V LS mean mg mb s.heap) (hdp : dp + 8 < 900) (hun : un + 80 < 9000) (D : Dat w s.heap a) (R0 : RefT s.heap o nm sb) (S0 : s.heap.IsTuple sb #[]) (hi : (valueAt a.ix nm).isSome = true)
    (hQ : ∀ r n h' tk, Ext s.heap h' → h'.get? r = some (listOf #[] n) → s.heap.get? r = none → Q (.ref r) { s with heap := h', toks := tk }) :
    wpAny (model PySem.Challenge.rw_og0093_01.row.prog w) (AT none dp fr gd un) (call (.ref 265) [.ref a.d, .ref o]) Q E s := by
  have R := R0
  obtain ⟨t0, t1, q, n, r0, r1⟩ := R0
  have r2 : s.heap.IsTuple o #[.str (Str.ofString "ref") t0, .str nm t1, .ref q, .ref sb, .none] := ⟨_, r0, rfl, _, rfl⟩
  ((refine wpAny_call ?_; k_dflt (refine' code0 ?k19 ?k59 ?k69 ?k79 ?k89 ?k99 ?kB9 ?_ ?c29 ?c39 ?c49 ?c59; (case k19 => k_asm); (case k59 => k_asm); (case k69 => k_is); (case k79 => k_is); (case k89 => (simp only [recursionLimit]; omega)); (case k99 => first | exact BindsTo.of_eq rfl | exact binds_K (by k_in) rfl (by k_is) rfl rfl rfl); (case c59 => decide); (case kB9 => exact locs rfl); (case c29 => exact rfl); (case c39 => exact rfl); (case c49 => exact rfl); k_whole; intro L'9 h'9 F'9 N'9 X'9 T'9; (try dsimp only); (try k_fold))))
  (repeat' (first | wtm_at "s1" | ((fail_if_success fail_if_success with_reducible refine at_call ?_); ((with_reducible show wpAny _ _ (call (.ref 250) _ _) _ _ _); (k_dflt (refine' isix_spec (by k_in) (by wtm_at "T") (by first | exact rm1 hdp rfl rfl | wtm_at "D") (by first | exact um1 hun rfl rfl | wtm_at "U") ?sD9 ?sR9 ?_; (case sD9 => exact Dat.ext (by assumption) (Fr.keep (by k_asm))); (case sR9 => exact RefT.ext (by assumption) (Fr.keep (by k_asm))); k_whole); intros; wtm_at "PK"))) | ((fail_if_success fail_if_success with_reducible refine at_cmp ?_); ((with_reducible show wpAny _ _ (compareOp CmpOp.Eq (Value.ref _) (Value.ref _)) _ _ _); k_dflt (refine' eq_nilT ?a9 ?b9 ?c9 ?_; (case b9 => is_tup); (case a9 => is_tup); (case c9 => units_room); k_whole))) | wtm_at "s2"))
  refine' hQ _ _ _ _ ?e1 ?e2 ?e3
  (case e1 => exact Fr.keep (by assumption))
  (case e2 => exact News.get (by assumption) (by k_mem))
  (case e3 => exact News.fresh (by assumption) (by k_mem))
end
section
theorem ref0_spec {a : Ad} {o sb x : Addr} {nm cat : Str} (X : (hd.heap_39 w.params).In s.heap) (T : Top V LS mean mg mb s.heap) (hdp : dp + 8 < 900) (hun : un + 80 < 9000) (D : Dat w s.heap a) (R0 : RefT s.heap o nm sb) (S0 : s.heap.IsTuple sb #[]) (hi : (valueAt a.ix nm).isSome = false) (H : Hit s.heap a nm x cat 0)
    (hQ : ∀ r n h' tk, Ext s.heap h' → h'.get? r = some (listOf #[] n) → s.heap.get? r = none → Q (.ref r) { s with heap := h', toks := tk }) :
    wpAny (model PySem.Challenge.rw_og0093_01.row.prog w) (AT none dp fr gd un) (call (.ref 265) [.ref a.d, .ref o]) Q E s := by
  have R := R0
  obtain ⟨t0, t1, q, n, r0, r1⟩ := R0
  have r2 : s.heap.IsTuple o #[.str (Str.ofString "ref") t0, .str nm t1, .ref q, .ref sb, .none] := ⟨_, r0, rfl, _, rfl⟩
  obtain ⟨par, occ, sh, kl, ps, i, j, c, l, f, u, nn⟩ := H
  ((refine wpAny_call ?_; k_dflt (refine' code0 ?k19 ?k59 ?k69 ?k79 ?k89 ?k99 ?kB9 ?_ ?c29 ?c39 ?c49 ?c59; (case k19 => k_asm); (case k59 => k_asm); (case k69 => k_is); (case k79 => k_is); (case k89 => (simp only [recursionLimit]; omega)); (case k99 => first | exact BindsTo.of_eq rfl | exact binds_K (by k_in) rfl (by k_is) rfl rfl rfl); (case c59 => decide); (case kB9 => exact locs rfl); (case c29 => exact rfl); (case c39 => exact rfl); (case c49 => exact rfl); k_whole; intro L'9 h'9 F'9 N'9 X'9 T'9; (try dsimp only); (try k_fold))))
  (repeat' (first | wtm_at "s1" | ((fail_if_success fail_if_success with_reducible refine at_call ?_); (first | ((with_reducible show wpAny _ _ (call (.ref 211) _ _) _ _ _); (k_dflt (refine' tables_spec (by k_in) (by wtm_at "T") (by first | exact rm1 hdp rfl rfl | wtm_at "D") (by first | exact um1 hun rfl rfl | wtm_at "U") ?sH9 ?_; (case sH9 => exact TabN.ext (by assumption) (Fr.keep (by k_asm))); k_whole); intros; wtm_at "PM")) | ((with_reducible show wpAny _ _ (call (.ref 257) _ _) _ _ _); (k_dflt (refine' part0_spec (by k_in) (by wtm_at "T") (by first | exact rm1 hdp rfl rfl | wtm_at "D") (by first | exact um1 hun rfl rfl | wtm_at "U") ?sR9 ?sS9 ?_; (case sR9 => exact RefT.ext (by assumption) (Fr.keep (by k_asm))); (case sS9 => exact Fr.tup (by k_asm) (by assumption)); k_whole); intros; wtm_at "PM")) | ((with_reducible show wpAny _ _ (call (.ref 235) _ _) _ _ _); (k_dflt (refine' find_spec (by k_in) (by wtm_at "T") (by first | exact rm1 hdp rfl rfl | wtm_at "D") (by first | exact um1 hun rfl rfl | wtm_at "U") ?sD9 ?q19 ?sI9 ?sC9 ?sl9 ?sn9 ?su29 ?_; (case sD9 => exact Dat.ext (by assumption) (Fr.keep (by k_asm))); (case q19 => exact Fr.tup (by k_asm) (by assumption)); (case sI9 => ktr_unf); (case sC9 => ktr_unf); (case sl9 => assumption); (case sn9 => assumption); (case su29 => assumption); k_whole); intros; wtm_at "PK")) | ((with_reducible show wpAny _ _ (call (.ref 250) _ _) _ _ _); (k_dflt (refine' isix_spec (by k_in) (by wtm_at "T") (by first | exact rm1 hdp rfl rfl | wtm_at "D") (by first | exact um1 hun rfl rfl | wtm_at "U") ?sD9 ?sR9 ?_; (case sD9 => exact Dat.ext (by assumption) (Fr.keep (by k_asm))); (case sR9 => exact RefT.ext (by assumption) (Fr.keep (by k_asm))); k_whole); intros; wtm_at "PK")))) | wtm_at "s2"))
  all_goals first | (exfalso; (have z0 : (#[] : Array Value).size = 0 := rfl); omega) | skip
  refine' hQ _ _ _ _ ?e1 ?e2 ?e3
  (case e1 => exact Fr.keep (by assumption))
  (case e2 => exact News.get (by assumption) (by k_mem))
  (case e3 => exact News.fresh (by assumption) (by k_mem))
end
end
section
-- E7
example : True := by
  w_top off
  trivial
theorem find_ga : findIn (hd.heap_39 w.params) (.ref 60) (Str.ofString "__getattr__") = some none := by k_is
section
variable {prog : Program} {A : Around} {h : Heap} {g : Array GenState} {d : Drawn} {t : Nat} {os : OsState} {M : Model}
theorem ga_check {o : Obj} {x : Addr} {nameV : Value} {Q : Unit → Shared → Prop} (hC : Is60 h) (hx : h.get? x = some o) (hc : o.cls = .ref 60) (hq : Q () ⟨h, g, d, t, os⟩) :
    wpAny M A (checkBuiltinCall "BaseException.__getattribute__" ⟨[.ref x, nameV], []⟩) Q E ⟨h, g, d, t, os⟩ := by
  obtain ⟨nm, q, bs, sn, sub, ab, col, dd, k0, k1, k2, k3, k5, hC⟩ := hC
  have hk : builtinKind "BaseException.__getattribute__" = some .slot := by decide +kernel
  have hsplit : splitId "BaseException.__getattribute__" = some ("BaseException", "__getattribute__") := by decide +kernel
  have hcB : (Value.ref 60 :: mro60).contains (.type "BaseException") = true := by decide +kernel
  have ha := PySem.F.args_bexc_ga (.ref x) nameV
  simp only [checkBuiltinCall, hk, hsplit]
  refine wpAny_bind ?_
  unfold isInstance
  repeat (first | (with_reducible refine wpAny_loadPart_at hx ?_; rw [hc]) | (with_reducible refine wpAny_isSubtype_exc hC ?_; rw [hcB]) | wp_step)
  exact hq
open Builtin Builtin.ObjectAttr in
theorem ga_entry {e dx : Addr} {o : Obj} {vs : Array Value} {name : Str} {v : Value} {tk : Tok} {Q : PySem.Fin → Shared → Prop} {mA : Str → Option Value} (X : (hd.heap_39 w.params).In h) (hna : findIn (hd.heap_39 w.params) (.ref 60) name = some none)
    (he : h.get? e = some o) (hc : o.cls = .ref 60) (hd : o.data = .fields vs) (hdx : o.dict = some dx) (hns : h.Ns1 dx mA) (hv : mA name = some v) (hq : Q (.done (.ret v)) ⟨h, g, d, t, os⟩) :
    wpAny (model prog w) A (Builtin.«object.__getattribute__» ⟨[.ref e, .str name tk], []⟩) Q E ⟨h, g, d, t, os⟩ := by
  obtain ⟨nm, q, bs, sn, sub, ab, col, dd', k0, k1, k2, k3, k5, hC⟩ := is60 X
  unfold Builtin.«object.__getattribute__»
  repeat (first | (with_reducible refine wpAny_loadPart_at he ?_; rw [hc]) | (with_reducible refine Looks.here (looks_findIn X hna) ?_) | wp_step)
  rw [hd]
  unfold instanceDict
  repeat (first | (with_reducible refine wpAny_loadPart_at he ?_; rw [hc]) | with_reducible refine wpAny_loadPart_at hC ?_ | wp_step)
  rw [hdx]
  repeat (first | (with_reducible refine wpAny_nsGet hns.ns ?_; rw [hv]) | wp_step)
  exact hq
theorem what60 {e dx : Addr} {o : Obj} {vs : Array Value} {name : Str} {v : Value} {expr : Bool} {Q : Value → Shared → Prop} {mA : Str → Option Value} (X : (hd.heap_39 w.params).In h) (hna : findIn (hd.heap_39 w.params) (.ref 60) name = some none)
    (he : h.get? e = some o) (hc : o.cls = .ref 60) (hd : o.data = .fields vs) (hdx : o.dict = some dx) (hns : h.Ns1 dx mA) (hv : mA name = some v) (hh : handedOut v = pure v) (hq : Q v ⟨h, g, d, t + 1, os⟩) :
    wpAny (model prog w) A (getAttr (.ref e) name expr) Q E ⟨h, g, d, t, os⟩ := by
  have FB := PySem.F.attrBase_Exception
  have f3 := FB.ga.bind (.ref e)
  have hx0 : (expr && onTheHeap (Value.builtin "BaseException.__getattribute__")) = false := by cases expr <;> rfl
  have hx2 : (Value.builtin "BaseException.__getattribute__" == Value.builtin "object.__getattribute__") = false := by decide +kernel
  have hx1 : (onTheHeap (Value.ref 60) && Value.builtin "BaseException.__getattribute__" == Value.builtin "object.__getattribute__") = false := by rw [hx2]; rfl
  unfold getAttr getAttrBy
  repeat (any_goals (first | assumption | (with_reducible refine wpAny_loadPart_at he ?_; rw [hc]) | with_reducible refine Looks.here (looks_findIn X find_getattr) ?_ | with_reducible refine Looks.here (looks_findIn X find_ga) ?_ | wp_step))
  refine codeAny_call_builtin FB.ga.plain PySem.F.entry_bexc_ga (ga_check (is60 X) he hc (ga_entry X hna he hc hd hdx hns hv ?_))
  show wpAny _ _ (handedOut v) _ _ _
  rw [hh]
  exact wpAny_pure hq
end
end
section
-- E8
example : True := by
  w_top off
  trivial
/-- what a walk that may raise holds on to -/
structure Cx (w : World) (mean : ExcName → Option Value) (mg mb : Str → Option Value) (b₀ h₀ : Heap) (outer : List Env) (a : Ad) : Prop where
  st : Ext b₀ h₀
  fr : h₀.FunFrames b₀ outer
  X : (hd.heap_39 w.params).In b₀
  T : Top V LS mean mg mb b₀
  D : Dat w b₀ a
section
variable {b₀ h₀ : Heap} {outer : List Env} {a : Ad}
theorem Cx.turn {g' : Heap} (C : Cx w mean mg mb b₀ h₀ outer a) (K : KtsTurn (frs outer) h₀ g') : Cx w mean mg mb b₀ g' outer a := by
  refine ⟨fun b o e => K.other b o (C.st _ _ e) fun hb => ?_, C.fr.of_keeps fun b o e _ => ?_, C.X, C.T, C.D⟩
  · rw [(C.fr.mem hb).1] at e; cases e
  · obtain ⟨sl, h⟩ := K.up e
    exact ⟨_, h, rfl⟩
theorem Cx.fra (C : Cx w mean mg mb b₀ h₀ outer a) : Fra h₀ outer := ⟨_, C.fr⟩
theorem Cx.push {h : Heap} {env : Env} {L : Addr} {m : Str → Option Value} (C : Cx w mean mg mb b₀ h₀ outer a) (F : Fr h₀ L h m) (hf : env.frame = some L) (hk : env.scope.kind = .function) : Cx w mean mg mb b₀ h (env :: outer) a := by
  refine ⟨Ext.trans C.st F.keep, .cons (by rw [hk]; decide) hf F.ns ?_ (C.fr.of_keeps fun b o q _ => ⟨o, F.keep b o q, rfl⟩), C.X, C.T, C.D⟩
  cases q : b₀.get? L with
  | none => rfl
  | some o => exact absurd (Nat.lt_of_lt_of_le (Heap.lt_size (C.st _ _ q)) F.above) (Nat.lt_irrefl _)
/-- a heap grown, the frames' slots turned -/
noncomputable def ExtF (fs : List Addr) (h h' : Heap) : Prop := (∀ b o, h.get? b = some o → b ∉ fs → h'.get? b = some o) ∧ ∀ b o, h.get? b = some o → b ∈ fs → ∃ sl, h'.get? b = some { o with slots := sl }
theorem ExtF.of {fs : List Addr} {h h' : Heap} (e : Ext h h') : ExtF fs h h' := ⟨fun b o q _ => e b o q, fun b o q _ => ⟨o.slots, e b o q⟩⟩
theorem ExtF.turn {fs : List Addr} {h g' h' : Heap} (K : KtsTurn fs h g') (e : Ext g' h') : ExtF fs h h' := ⟨fun b o q n => e _ _ (K.other b o q n), fun b o q n => by
  obtain ⟨sl, hs⟩ := K.frame b o q n
  exact ⟨sl, e _ _ hs⟩⟩
/-- the base turned, as the heap has turned its frames -/
theorem turned {h' : Heap} {b : Heap} {fs : List Addr} (hfs : ∀ f ∈ fs, ∃ o, h₀.get? f = some o) (x : ExtF fs h₀ h') : ∃ g', KtsTurn fs h₀ g' ∧ Ext g' h' := by
  obtain ⟨x1, x2⟩ := x
  obtain ⟨y1, y2⟩ := kts_turn_at hfs x1 x2
  exact ⟨_, y1, y2⟩
theorem Cx.there (C : Cx w mean mg mb b₀ h₀ outer a) : ∀ f ∈ frs outer, ∃ o, h₀.get? f = some o := fun f hf => by
  obtain ⟨_, o, ho, _⟩ := C.fr.mem hf
  exact ⟨o, ho⟩
/-- behind a call that may have turned the frames' slots -/
theorem Cx.after {h h' : Heap} {env : Env} {L : Addr} {m : Str → Option Value} {news : List (Addr × Obj)} (C : Cx w mean mg mb b₀ h₀ outer a) (F : Fr h₀ L h m) (N : News h₀ L h news) (hf : env.frame = some L) (x : ExtF (frs (env :: outer)) h h') :
    ∃ g', KtsTurn (frs outer) h₀ g' ∧ Fr g' L h' m ∧ News g' L h' news ∧ Cx w mean mg mb b₀ g' outer a := by
  have hL : h₀.get? L = none := by
    cases q : h₀.get? L with
    | none => rfl
    | some o => exact absurd (Nat.lt_of_lt_of_le (Heap.lt_size q) F.above) (Nat.lt_irrefl _)
  have hno : ∀ b o, h₀.get? b = some o → b ∉ frs outer → b ∉ frs (env :: outer) := fun b o q n hb => by
    rcases mem_frs hf hb with rfl | hb
    · rw [hL] at q; cases q
    · exact n hb
  have hyes : ∀ b, b ∈ frs outer → b ∈ frs (env :: outer) := fun b hb => by
    rw [frs, List.filterMap_cons, hf]; exact .tail _ hb
  obtain ⟨g', K, S⟩ := turned (b := h) C.there (h' := h') ⟨fun b o q n => x.1 _ _ (F.keep _ _ q) (hno b o q n), fun b o q n => x.2 _ _ (F.keep _ _ q) (hyes b n)⟩
  refine ⟨g', K, ⟨?_, S, by rw [K.size]; exact F.above⟩, fun p hp => ?_, C.turn K⟩
  · obtain ⟨o, es, ep, ho, hd, r⟩ := F.ns
    obtain ⟨sl, hs⟩ := x.2 _ _ ho (by rw [frs, List.filterMap_cons, hf]; exact .head _)
    exact ⟨_, es, ep, hs, hd, r⟩
  · obtain ⟨n1, n2, n3⟩ := N p hp
    refine ⟨x.1 _ _ n1 fun hb => ?_, n2, K.none_ _ n3⟩
    rcases mem_frs hf hb with z | hb
    · exact n2 z
    · obtain ⟨o, ho⟩ := C.there _ hb
      rw [n3] at ho; cases ho
/-- what is known of the exception in the handler -/
noncomputable def Has (e dx : Addr) (oe od : Obj) (what : Value) : Prop :=
  oe.cls = .ref 60 ∧ oe.dict = some dx ∧ (∃ vs, oe.data = .fields vs ∧ vs[2]? = some .none) ∧ ∃ es ep, ∃ mA : Str → Option Value, od.data = .dict es ep ∧ StrKeys es ∧ UniqKeys es ∧ (∀ name, nsFind es name = mA name) ∧ mA (Str.ofString "what") = some what
theorem flies_extF {h h' : Heap} {l : List Env} {e dx : Addr} {what : Value} (FL : Flies h l h' e dx what) (hF : Fra h l) : ExtF (frs l) h h' := by
  obtain ⟨b, hF⟩ := hF
  obtain ⟨B, mA, p1, p2, p3, p4, p5, p6, p7, p8, p9, p10⟩ := FL
  refine ⟨fun b o q n => p2 _ _ (p1 _ _ q n), fun b o q n => ?_⟩
  obtain ⟨_, o', ho', hnf⟩ := hF.mem n
  rw [q] at ho'
  cases ho'
  exact p8 _ _ q hnf
theorem flies_has {h h' : Heap} {l : List Env} {e dx : Addr} {what : Value} (FL : Flies h l h' e dx what) : ∃ oe od, h'.get? e = some oe ∧ h'.get? dx = some od ∧ Has e dx oe od what ∧ h.get? e = none ∧ h.get? dx = none := by
  obtain ⟨B, mA, p1, p2, p3, p4, ⟨oe, vs, he, hc, hdx, hd, hsz, hs2, _⟩, ⟨od, es, ep, q1, q2, q3, q4, q5⟩, p7, p8, p9, p10⟩ := FL
  exact ⟨oe, od, he, p2 _ _ q1, ⟨hc, hdx, ⟨vs, hd, hs2⟩, es, ep, mA, q2, q3, q4, q5, p7⟩, p9, p10⟩
theorem has_what {prog : Program} {A : Around} {e dx : Addr} {oe od : Obj} {what : Value} {expr : Bool} {Q : Value → Shared → Prop} (H : Has e dx oe od what) (X : (hd.heap_39 w.params).In s.heap) (he : s.heap.get? e = some oe) (hdx : s.heap.get? dx = some od)
    (hh : handedOut what = pure what) (hq : Q what { s with toks := s.toks + 1 }) : wpAny (model prog w) A (getAttr (.ref e) (Str.ofString "what") expr) Q E s := by
  obtain ⟨c1, c2, ⟨vs, c3, _⟩, es, ep, mA, d1, d2, d3, d4, d5⟩ := H
  exact what60 X find_what he c1 c3 c2 ⟨_, es, ep, hdx, d1, d2, d3, d4⟩ d5 hh hq
end
section
variable {prog : Program} {b₀ h₀ : Heap} {outer : List Env} {a : Ad}
theorem flies_note {M : Model} {A : Around} {h : Heap} {env : Env} {L e dx : Addr} {what : Value} {Q : Unit → Shared → Prop} (hfr : A.frames = some (env :: outer)) (hf : env.frame = some L) (FL : Flies h (env :: outer) s.heap e dx what)
    (k : ∀ h', Flies h (env :: outer) h' e dx what → Q () { s with heap := h' }) : wpAny M A (noteFrame (.ref e) env) (fun _ s' => wpAny M A (setFlight (.ref e) none) Q E s') E s := by
  obtain ⟨B, mA, p1, p2, p3, p4, p5, p6, p7, p8, p9, p10⟩ := FL
  exact exc_note hfr p3 hf p2 p4 p5 fun h' q1 q2 q3 q4 => k h' ⟨B, mA, p1, q1, q2, p4, q3, p6, p7, p8.trans q4, p9, p10⟩
theorem flies_land {M : Model} {A : Around} {h : Heap} {l : List Env} {e dx : Addr} {what : Value} {Q : Unit → Shared → Prop} (FL : Flies h l s.heap e dx what)
    (k : ∀ h', Flies h l h' e dx what → Q () { s with heap := h' }) : wpAny M A (setFlight (.ref e) none) Q E s := by
  obtain ⟨B, mA, p1, p2, p3, p4, p5, p6, p7, p8, p9, p10⟩ := FL
  exact exc_land p3 p2 p5 fun h' q1 q2 q3 q4 => k h' ⟨B, mA, p1, q1, q2, p4, q3, p6, p7, p8.trans q4, p9, p10⟩
theorem caught60 {A₀ : Around} {h : Heap} {L f e dx : Addr} {m : Str → Option Value} {name : Str} {scope : Scope} {cd what : Value} {x n : Str} {bs : Stmt} {suite : List Stmt} {pos np : Pos} {rest : List ExceptHandler} {Q : Flow → Shared → Prop} {news : List (Addr × Obj)}
    (C : Cx w mean mg mb b₀ h₀ outer a) (hA : A₀.frames = some outer) (F : Fr h₀ L h m) (N : News h₀ L h news) (FL : Flies h (envOf name scope L f cd :: outer) s.heap e dx what)
    (ex : nsIn (Mine.hd.heap_39 w.params) mainGlobals x = some (some (.ref 60)))
    (k : ∀ g' h' tk oe od, KtsTurn (frs outer) h₀ g' → Cx w mean mg mb b₀ g' outer a → Has e dx oe od what → Fr g' L h' (fun y => if y = n then some (.ref e) else m y) → News g' L h' ((e, oe) :: (dx, od) :: news) →
      wpAny (model prog w) ((A₀.deeper (envOf name scope L f cd)).mark (some (.ref e))) (execs (bs :: suite) (envOf name scope L f cd))
        (fun fl s₄ => wpAny (model prog w) (A₀.deeper (envOf name scope L f cd)) (do bindName (envOf name scope L f cd) n .none; unbindBehindTheSuite (envOf name scope L f cd) n pos) (fun _ s₅ => Q fl s₅) E s₄)
        (AsSuiteRaised (model prog w) ((A₀.deeper (envOf name scope L f cd)).mark (some (.ref e))) (envOf name scope L f cd) n pos (notedBy (model prog w) ((A₀.deeper (envOf name scope L f cd)).mark (some (.ref e))) (envOf name scope L f cd) (cameBackBy (model prog w) (A₀.deeper (envOf name scope L f cd)) (envOf name scope L f cd) E)))
        { s with heap := h', toks := tk })
    (hk : scope.kind = .function) (hlo : (envOf name scope L f cd).kindOf n = some .local) (hx : (envOf name scope L f cd).kindOf x = some .globalImplicit) (hd : (x == ("__debug__" : Str)) = false) :
    wpAny (model prog w) (A₀.deeper (envOf name scope L f cd)) (noteFrame (.ref e) (envOf name scope L f cd))
      (fun _ s₂ => wpAny (model prog w) (A₀.deeper (envOf name scope L f cd)) (setFlight (.ref e) none) (fun _ s₃ =>
        wpAny (model prog w) (A₀.deeper (envOf name scope L f cd)) (handleBy (.ref e) (envOf name scope L f cd) (.ExceptHandler (some (.Name x np)) (some n) (bs :: suite) pos :: rest)) Q E s₃) E s₂) E s := by
  have hFh : Fra h (envOf name scope L f cd :: outer) := frames_own F C.fra rfl hk
  refine flies_note (Around.frames_deeper hA) rfl FL fun h₄ FL₄ => ?_
  obtain ⟨g₄, K₄, F₄, N₄, C₄⟩ := C.after F N rfl (flies_extF FL₄ hFh)
  obtain ⟨oe₄, od₄, he₄, _, H₄, _, _⟩ := flies_has FL₄
  refine wpAny_handleBy_cons (codeAny_handlers_test (name_K F₄ (C₄.X.keeps C₄.st) (topRead_of (C₄.T.keeps C₄.st)) ex ?_ hk hx hd)) (by intro q; cases q)
  obtain ⟨nm, q, bs9, sn, sub, ab, col, dd', k0, k1, k2, k3, k5, hC⟩ := is60 ((C₄.X.keeps C₄.st).keeps F₄.keep)
  refine wpAny_excMatches_sub_self hC he₄ H₄.1 (by decide +kernel) (codeAny_handlers_suite_as ?_)
  refine flies_land FL₄ fun h₆ FL₆ => ?_
  obtain ⟨g₆, K₆, F₆, N₆, C₆⟩ := C.after F N rfl (flies_extF FL₆ hFh)
  obtain ⟨oe, od, he, hdx, H, ne, nd⟩ := flies_has FL₆
  have ne' := noneOf F ne
  have nd' := noneOf F nd
  have N₇ : News g₆ L h₆ ((e, oe) :: (dx, od) :: news) := fun p hp => by
    rcases List.mem_cons.mp hp with rfl | hp
    · exact ⟨he, ne'.1, K₆.none_ _ ne'.2⟩
    rcases List.mem_cons.mp hp with rfl | hp
    · exact ⟨hdx, nd'.1, K₆.none_ _ nd'.2⟩
    exact N₆ p hp
  refine stN F₆ N₇ (fun h₇ F₇ N₈ => ?_) hk hlo
  exact k g₆ h₇ _ oe od K₆ C₆ H F₇ N₈
end
end
section
-- E9
example : True := by
  w_top off
  trivial
section
variable {prog : Program} {A : Around}
open Builtin in
theorem unchain60 {e : Addr} {oe : Obj} {vs : Array Value} {x : Value} {Q : Value → Shared → Prop} (he : s.heap.get? e = some oe) (hd : oe.data = .fields vs) (h2 : vs[2]? = some .none) (hq : Q .none s) :
    wpAny (model prog w) A (runValue (.builtin "proto.unchain" ⟨[x, .ref e, .ref e, .bool false], []⟩)) Q E s := by
  have hentry : entryFor table "proto.unchain" = some Builtin.«proto.unchain» := entryFor_of_tree (by kernel_rfl)
  refine wpAny_runValue (codeAny_builtin hentry ?_)
  unfold Builtin.«proto.unchain»
  refine wpAny_bind (wpAny_field he hd h2 ?_)
  rw [if_pos (by decide)]
  exact wpAny_pure hq
theorem tuple_end60 {it t e : Addr} {i : Nat} {items : Array Value} {oe : Obj} {vs : Array Value} {Q : Option Value → Shared → Prop} (hh : A.handled = some (.ref e)) (he : s.heap.get? e = some oe) (hed : oe.data = .fields vs) (h2 : vs[2]? = some .none) (hne : e ≠ it)
    (hit : s.heap.IsTupleIter it t i) (ht : s.heap.IsTuple t items) (hx : items[i]? = none)
    (hQ : ∀ h', Heap.ExtBut it s.heap h' → Q none { s with heap := h' }) : wpAny (model prog w) A (pyNext (.ref it)) Q E s := by
  obtain ⟨o, ho, hc, hd⟩ := id hit
  obtain ⟨ol, hol, _, nl, hdl⟩ := ht
  unfold pyNext
  refine wpAny_bind (wpAny_attempt (wpAny_callSpecial?_slot (name := Str.ofString "__next__") hit.typeIs PySem.F.slot_tuple_iterator_next
    (wpAny_call_entry PySem.F.slot_tuple_iterator_next hit.typeIs PySem.F.entry_tuple_iterator_next ?_ (PySem.F.args_tuple_iterator_next_1 _))))
  show wpAny _ _ (field (.ref it) 0 >>= _) _ _ s
  refine wpAny_bind (wpAny_field ho hd (x := .ref t) rfl ?_)
  show wpAny _ _ (if (Value.ref t == Value.none) = true then _ else _) _ _ s
  rw [if_neg (show ¬ ((Value.ref t == Value.none) = true) from Bool.false_ne_true)]
  show wpAny _ _ (field (.ref it) 1 >>= _) _ _ s
  refine wpAny_bind (wpAny_field ho hd (x := .int i 0) rfl ?_)
  show wpAny _ _ (seqItems? (.ref t) >>= _) _ _ s
  refine wpAny_bind (wpAny_seqItems hol hdl ?_)
  simp only [Int.toNat_natCast, hx]
  refine wpAny_bind (wpAny_rule (wpAny_bind (wpAny_setField ho hd (by simp) ?_)))
  show wpAny _ _ (newExc (.type "StopIteration") [] >>= _) _ _ _
  refine wpAny_bind ?_
  simp only [newExc, newTuple]
  refine wpAny_bind (wpAny_newObj_type ?_ (by size_fits))
  refine wpAny_bind (m := firstArgMember _ _) (wpAny_of_eq (a := Value.none) (by first | rfl | (simp only [firstArgMember]; rfl)) ?_)
  refine wpAny_newObj_type ?_ (by size_fits)
  simp only [raiseNew]
  refine wpAny_bind (wpAny_handled ?_)
  rw [show A.in1.handled = some (.ref e) from hh]
  generalize hH : (s.heap.update it (Obj.mapFields fun x => x.setIfInBounds 0 Value.none)).push { cls := .type "tuple", data := .seq #[] } = H
  have hsame : ∀ b o, b ≠ it → s.heap.get? b = some o → H.get? b = some o := fun b o hb q => by
    rw [← hH]; exact Heap.get?_push_of_some _ ((Heap.get?_update_other _ _ (Ne.symm hb)).trans q)
  have heH := hsame _ _ hne he
  have hlt := Heap.lt_size heH
  show wpAny _ _ (if (Value.ref e != Value.ref H.objs.size) = true then _ else _) _ _ _
  rw [if_pos (by simp only [bne_iff_ne, ne_eq, Value.ref.injEq]; exact fun z => absurd hlt (by rw [z]; exact Nat.lt_irrefl _))]
  refine wpAny_bind (wpAny_holding (unchain60 (Heap.get?_push_of_some _ heH) hed h2 ?_))
  show wpAny _ _ (setField (.ref H.objs.size) 2 (.ref e) >>= _) _ _ _
  refine wpAny_bind (wpAny_setField (Heap.get?_push_size _ rfl) rfl (by simp; omega) ?_)
  refine wpAny_throw ?_
  refine wpAny_bind (wpAny_isInstance (T := "StopIteration") (b := true) ⟨_, Heap.get?_update_self _ (Heap.get?_push_size _ rfl) (Obj.isFreed_of_fields (Obj.data_mapFields rfl _)), Obj.cls_mapFields _ _⟩ isSubtype_stop ?_)
  exact wpAny_pure (hQ _ fun b o hb q => (Heap.get?_update_other _ _ (Nat.ne_of_gt (Heap.lt_size (hsame b o hb q)))).trans (Heap.get?_push_of_some _ (hsame b o hb q)))
theorem walks60 {I ax e : Addr} {oe : Obj} {vs : Array Value} (hh : A.handled = some (.ref e)) (hed : oe.data = .fields vs) (h2 : vs[2]? = some .none) (hI : e ≠ I) :
    Walks prog w A I [I, ax, e] [I] 0 (fun _ _ => False) (fun i h => h.IsTupleIter I ax i ∧ h.IsTuple ax #[] ∧ h.get? e = some oe) where
  sub := fun b hb => by simp at hb; simp [hb]
  frame := fun _ _ _ st hk => ⟨st.1.at fun o e => hk I (by simp) o e, st.2.1.at fun o e => hk ax (by simp) o e, hk e (by simp) _ st.2.2⟩
  item := fun i s Q E hi => absurd hi (Nat.not_lt_zero _)
  done := fun s Q E st hQ => tuple_end60 hh st.2.2 hed h2 hI st.1 st.2.1 rfl fun h' he' => hQ h' s.toks fun b o hb e => he' b o (fun h => hb (by simp [h])) e
  self := fun _ _ _ _ st hQ => wpAny_pyIter_tupleiter st.1 hQ
theorem turnsTupH {env : Env} {h₀ : Heap} {target : Expr} {body : List Stmt} {Q : Flow → Shared → Prop} {E : Value → Shared → Prop} {ax e : Addr} {oe : Obj} {vs : Array Value} {m₀ : Str → Option Value} {news : List (Addr × Obj)} (hh : A.handled = some (.ref e)) (F : Fr h₀ env.locals s.heap m₀) (N : News h₀ env.locals s.heap news)
    (he : h₀.get? e = some oe) (hed : oe.data = .fields vs) (h2 : vs[2]? = some .none)
    (hl : s.heap.IsTuple ax #[]) (hL : env.locals ≠ ax) (fin : ∀ h' tk, Fr h₀ env.locals h' m₀ → News h₀ env.locals h' news → Q .next { s with heap := h', toks := tk }) :
    wpAny (model prog w) A (pyIter (.ref ax)) (fun it s₂ => TurnsAt prog w A h₀ env target body Q E it s₂) E s := by
  obtain ⟨lo, hlo, hrest⟩ := hl
  have hne : ax ≠ s.heap.objs.size := Nat.ne_of_lt (Heap.lt_size hlo)
  have he' := F.keep _ _ he
  have hes : e ≠ s.heap.objs.size := Nat.ne_of_lt (Heap.lt_size he')
  have hLe : env.locals ≠ e := fun z => absurd (Nat.lt_of_lt_of_le (Heap.lt_size he) F.above) (by rw [← z]; exact Nat.lt_irrefl _)
  refine wpAny_pyIter_tuple ⟨lo, hlo, hrest⟩ ?_
  refine ⟨s.heap.objs.size, _, _, 0, _, _, _, m₀, news, fun _ m n => m = m₀ ∧ n = news, rfl, KTurns.ofWalks (walks60 (I := s.heap.objs.size) (ax := ax) hh hed h2 hes) (fun i v s Q E st q => letGo_tupleiter st.1 q), ?_, ?_, ?_, ?_, F.push _, fun p hp => ⟨Heap.get?_push_of_some _ (N p hp).1, (N p hp).2⟩, ⟨rfl, rfl⟩, ?_, ?_⟩
  · intro hI
    rcases List.mem_cons.mp hI with q | hI
    · exact absurd F.ns.lt (q ▸ Nat.lt_irrefl _)
    · rcases List.mem_cons.mp hI with q | hI
      · exact hL q
      · exact hLe (List.mem_singleton.mp hI)
  · intro b hb
    rw [List.mem_singleton.mp hb]
    exact next_is_new F
  · intro p hp hI
    exact absurd (Heap.lt_size (N p hp).1) ((List.mem_singleton.mp hI) ▸ Nat.lt_irrefl _)
  · exact ⟨⟨_, Heap.get?_push_size _ rfl, rfl, rfl⟩, ⟨lo, Heap.get?_push_of_some _ hlo, hrest⟩, Heap.get?_push_of_some _ he'⟩
  · intro i v m₁ news₁ h₁ tk₁ own hi
    exact absurd hi (Nat.not_lt_zero _)
  · rintro h' tk m' news' F' N' _ ⟨rfl, rfl⟩
    exact fin h' tk F' N'
end
section
theorem part60 {d o sb e : Addr} {nm : Str} {oe : Obj} {vs : Array Value} (X : (hd.heap_39 w.params).In s.heap) (T : Top V LS mean mg mb s.heap) (hdp : dp + 1 < 900) (hun : un + 10 < 9000) (R0 : RefT s.heap o nm sb) (S0 : s.heap.IsTuple sb #[])
    (he : s.heap.get? e = some oe) (hed : oe.data = .fields vs) (h2 : vs[2]? = some .none)
    (hQ : ∀ r n h' tk, Ext s.heap h' → h'.get? r = some (listOf #[] n) → s.heap.get? r = none → Q (.ref r) { s with heap := h', toks := tk }) :
    wpAny (model PySem.Challenge.rw_og0093_01.row.prog w) (AT (some (.ref e)) dp fr gd un) (call (.ref 257) [.ref d, .ref o]) Q E s := by
  have R := R0
  obtain ⟨t0, t1, q, n, r0, r1⟩ := R0
  have r2 : s.heap.IsTuple o #[.str (Str.ofString "ref") t0, .str nm t1, .ref q, .ref sb, .none] := ⟨_, r0, rfl, _, rfl⟩
  ((refine wpAny_call ?_; k_dflt (refine' code0 ?k19 ?k59 ?k69 ?k79 ?k89 ?k99 ?kB9 ?_ ?c29 ?c39 ?c49 ?c59; (case k19 => k_asm); (case k59 => k_asm); (case k69 => k_is); (case k79 => k_is); (case k89 => (simp only [recursionLimit]; omega)); (case k99 => first | exact BindsTo.of_eq rfl | exact binds_K (by k_in) rfl (by k_is) rfl rfl rfl); (case c59 => decide); (case kB9 => exact locs rfl); (case c29 => exact rfl); (case c39 => exact rfl); (case c49 => exact rfl); k_whole; intro L'9 h'9 F'9 N'9 X'9 T'9; (try dsimp only); (try k_fold))))
  (repeat' (first | wtm_at "s1" | ((fail_if_success fail_if_success with_reducible refine at_iter ?_); (k_dflt (first | refine turnsTupH rfl (by k_asm) (by k_asm) (by assumption) (by assumption) (by assumption) (Fr.tup (by k_asm) (by assumption)) (tupOff (by k_asm) (by assumption)) ?_ | refine turnsTupH rfl (by k_asm) (by k_asm) (by assumption) (by assumption) (by assumption) (News.isTup (by k_asm) (by k_mem)) (Ne.symm (News.ne (by k_asm) (by k_mem))) ?_); intro h'9 tk'9 F'9 N'9; (try k_sweep))) | ((fail_if_success fail_if_success with_reducible refine at_for ?_); (k_dflt (refine For_turns (by k_asm) ?_))) | wtm_at "s2"))
  refine' hQ _ _ _ _ ?e1 ?e2 ?e3
  (case e1 => exact Fr.keep (by assumption))
  (case e2 => exact News.get (by assumption) (by k_mem))
  (case e3 => exact News.fresh (by assumption) (by k_mem))
end
end
section
-- E6
example : True := by
  w_top off
  trivial
theorem turn_none {fs : List Addr} {h g : Heap} {x : Addr} (K : KtsTurn fs h g) (e : g.get? x = none) : h.get? x = none := by
  cases q : h.get? x with
  | none => rfl
  | some o =>
    obtain ⟨sl, hs⟩ := K.up q
    rw [hs] at e; cases e
section
theorem ref_no {b₀ : Heap} {a : Ad} {o sb : Addr} {nm : Str} {outer : List Env} (C : Cx w mean mg mb b₀ s.heap outer a) (hdp : dp + 8 < 500) (hun : un + 80 < 5000) (R0 : RefT b₀ o nm sb) (S0 : b₀.IsTuple sb #[]) (hi : (valueAt a.ix nm).isSome = false) (hnm : nm.length ≤ 100) (hu : a.xs.filter (fun p => p.2 == nm) = [])
    (hQ : ∀ r n p wh t n2 h' tk, ExtF (frs outer) s.heap h' → h'.get? r = some (listOf #[.ref p] n) → s.heap.get? r = none → h'.get? p = some (tupOf #[wh, .str nm t] n2) → s.heap.get? p = none → Q (.ref r) { s with heap := h', toks := tk }) :
    wpAny (model PySem.Challenge.rw_og0093_01.row.prog w) (AT none dp (some outer) gd un) (call (.ref 265) [.ref a.d, .ref o]) Q E s := by
  have X := C.X.keeps C.st
  have T := C.T.keeps C.st
  have D := C.D.ext C.st
  have R := R0.ext C.st
  have S1 := isTuple_ext S0 C.st
  obtain ⟨t0, t1, q, n, r0, r1⟩ := R0
  have r2 : b₀.IsTuple o #[.str (Str.ofString "ref") t0, .str nm t1, .ref q, .ref sb, .none] := ⟨_, r0, rfl, _, rfl⟩
  have r3 := isTuple_ext r2 C.st
  have r4 := isTuple_ext r1 C.st
  ((refine wpAny_call ?_; k_dflt (refine' code0 ?k19 ?k59 ?k69 ?k79 ?k89 ?k99 ?kB9 ?_ ?c29 ?c39 ?c49 ?c59; (case k19 => k_asm); (case k59 => k_asm); (case k69 => k_is); (case k79 => k_is); (case k89 => (simp only [recursionLimit]; omega)); (case k99 => first | exact BindsTo.of_eq rfl | exact binds_K (by k_in) rfl (by k_is) rfl rfl rfl); (case c59 => decide); (case kB9 => exact locs rfl); (case c29 => exact rfl); (case c39 => exact rfl); (case c49 => exact rfl); k_whole; intro L'9 h'9 F'9 N'9 X'9 T'9; (try dsimp only); (try k_fold))))
  (repeat' (first | wtm_at "s1" | ((fail_if_success fail_if_success with_reducible refine at_bin ?_); ((with_reducible show wpAny _ _ (binaryOp _ (Value.ref _) (Value.ref _)) _ _ _); k_dflt (refine' kmk_add_lit ?F9 ?N9 ?a9 ?b9 ?e9 ?_ ?z9; (case F9 => k_asm); (case N9 => k_asm); (case a9 => is_list); (case b9 => is_list); (case e9 => exact rfl); (case z9 => (show _ ≤ 16777216; (try simp only [List.toList_toArray, List.length_map, List.length_zip, List.length_append, List.length_cons, List.length_nil]); omega))); intro D'9 h'9 F'9 N'9 l1; (try k_lt l1); (try k_sweep))) | ((fail_if_success fail_if_success with_reducible refine at_call ?_); (first | (with_reducible refine hold_at 235 ?_) | ((with_reducible show wpAny _ _ (call (.ref 257) _ _) _ _ _); (k_dflt (refine' part60 (by k_in) (by wtm_at "T") (by first | exact rm1 hdp rfl rfl | wtm_at "D") (by first | exact um1 hun rfl rfl | wtm_at "U") ?sR9 ?sS9 ?he9 ?hd9 ?h29 ?_; (case sR9 => exact RefT.ext (by assumption) (Fr.keep (by k_asm))); (case sS9 => exact Fr.tup (by k_asm) (by assumption)); (case he9 => exact News.get (by k_asm) (by k_mem)); (case hd9 => assumption); (case h29 => assumption); k_whole); intros; wtm_at "PM")) | ((with_reducible show wpAny _ _ (call (.ref 250) _ _) _ _ _); (k_dflt (refine' isix_spec (by k_in) (by wtm_at "T") (by first | exact rm1 hdp rfl rfl | wtm_at "D") (by first | exact um1 hun rfl rfl | wtm_at "U") ?sD9 ?sR9 ?_; (case sD9 => exact Dat.ext (by assumption) (Fr.keep (by k_asm))); (case sR9 => exact RefT.ext (by assumption) (Fr.keep (by k_asm))); k_whole); intros; wtm_at "PK")))) | ((fail_if_success fail_if_success with_reducible refine at_get ?_); ((with_reducible show wpAny _ _ (getAttr _ (Str.ofString "what") _) _ _ _); k_dflt (refine has_what (by assumption) (Frag.In.keeps (by k_asm) (Fr.keep (by k_asm))) (News.get (by k_asm) (by k_mem)) (News.get (by k_asm) (by k_mem)) rfl ?_))) | wtm_at "s2"))
  unfold Hold
  rename Fr _ _ _ _ => F0
  rename News _ _ _ _ => N0
  refine find_no (X.keeps F0.keep) (T.keeps F0.keep) (by simp only [depth_deeper]; omega) (by simp only [units_deeper]; omega) (D.ext F0.keep) (F0.tup r4) hnm hu (frames_own F0 C.fra (by exact rfl) (by exact rfl)) ?_
  intro e dx x t' h' tk' FL
  refine caught60 C (by exact rfl) F0 N0 FL (by k_is) ?_ (by exact rfl) (by exact rfl) (by exact rfl) (by decide)
  intro g' h'' tk'' oe od K' C' H' F' N'
  obtain ⟨vs, hv1, hv2⟩ := H'.2.2.1
  clear F0 N0 X T D R S1 r3 r4 FL
  rename Frag.In _ _ => Xo
  rename Top _ _ _ _ _ _ => To
  clear Xo To
  have X := C'.X.keeps C'.st
  have T := C'.T.keeps C'.st
  have R : RefT g' o nm sb := RefT.ext ⟨t0, t1, q, n, r0, r1⟩ C'.st
  have S1 := isTuple_ext S0 C'.st
  have r3 := isTuple_ext r2 C'.st
  (repeat' (first | wtm_at "s1" | ((fail_if_success fail_if_success with_reducible refine at_bin ?_); ((with_reducible show wpAny _ _ (binaryOp _ (Value.ref _) (Value.ref _)) _ _ _); k_dflt (refine' kmk_add_lit ?F9 ?N9 ?a9 ?b9 ?e9 ?_ ?z9; (case F9 => k_asm); (case N9 => k_asm); (case a9 => is_list); (case b9 => is_list); (case e9 => exact rfl); (case z9 => (show _ ≤ 16777216; (try simp only [List.toList_toArray, List.length_map, List.length_zip, List.length_append, List.length_cons, List.length_nil]); omega))); intro D'9 h'9 F'9 N'9 l1; (try k_lt l1); (try k_sweep))) | ((fail_if_success fail_if_success with_reducible refine at_call ?_); (first | (with_reducible refine hold_at 235 ?_) | ((with_reducible show wpAny _ _ (call (.ref 257) _ _) _ _ _); (k_dflt (refine' part60 (by k_in) (by wtm_at "T") (by first | exact rm1 hdp rfl rfl | wtm_at "D") (by first | exact um1 hun rfl rfl | wtm_at "U") ?sR9 ?sS9 ?he9 ?hd9 ?h29 ?_; (case sR9 => exact RefT.ext (by assumption) (Fr.keep (by k_asm))); (case sS9 => exact Fr.tup (by k_asm) (by assumption)); (case he9 => exact News.get (by k_asm) (by k_mem)); (case hd9 => assumption); (case h29 => assumption); k_whole); intros; wtm_at "PM")) | ((with_reducible show wpAny _ _ (call (.ref 250) _ _) _ _ _); (k_dflt (refine' isix_spec (by k_in) (by wtm_at "T") (by first | exact rm1 hdp rfl rfl | wtm_at "D") (by first | exact um1 hun rfl rfl | wtm_at "U") ?sD9 ?sR9 ?_; (case sD9 => exact Dat.ext (by assumption) (Fr.keep (by k_asm))); (case sR9 => exact RefT.ext (by assumption) (Fr.keep (by k_asm))); k_whole); intros; wtm_at "PK")))) | ((fail_if_success fail_if_success with_reducible refine at_get ?_); ((with_reducible show wpAny _ _ (getAttr _ (Str.ofString "what") _) _ _ _); k_dflt (refine has_what (by assumption) (Frag.In.keeps (by k_asm) (Fr.keep (by k_asm))) (News.get (by k_asm) (by k_mem)) (News.get (by k_asm) (by k_mem)) rfl ?_))) | wtm_at "s2"))
  rename News _ _ _ _ => N9
  rename Fr _ _ _ _ => F9
  refine name_goes_keeps F9 N9 ?_
  intro h1 tk1 F1 N1
  exact hQ _ _ _ _ _ _ _ _ (ExtF.turn K' F1.keep) (N1.get (.head _)) (turn_none K' (N1.fresh (.head _))) (N1.get (.tail _ (.tail _ (.tail _ (.head _))))) (turn_none K' (N1.fresh (.tail _ (.tail _ (.tail _ (.head _))))))
end
end
section
-- Q17
example : True := by
  w_top off
  trivial
/-- category_of, as it answers for an operand -/
noncomputable def CatIs (w : World) (a : Ad) (g : Heap) (o : Addr) (cat : Str) : Prop := ∀ (dp un : Nat) (gd : Option (List Code)) (fr : Option (List Env)) (s : Shared) (Q E : Value → Shared → Prop), Ext g s.heap → dp + 8 < 900 → un + 80 < 9000 →
  (∀ t h' tk, Ext s.heap h' → Q (.str cat t) { s with heap := h', toks := tk }) → wpAny (model PySem.Challenge.rw_og0093_01.row.prog w) (AT none dp fr gd un) (call (.ref 279) [.ref a.d, .ref o]) Q E s
theorem CatIs.use {a : Ad} {g : Heap} {o : Addr} {cat : Str} (c : CatIs w a g o cat) (e : Ext g s.heap) (hdp : dp + 8 < 900) (hun : un + 80 < 9000) (h : ∀ t h' tk, Ext s.heap h' → Q (.str cat t) { s with heap := h', toks := tk }) :
    wpAny (model PySem.Challenge.rw_og0093_01.row.prog w) (AT none dp fr gd un) (call (.ref 279) [.ref a.d, .ref o]) Q E s := c dp un gd fr s Q E e hdp hun h
noncomputable def OpNil (w : World) (a : Ad) (g : Heap) (o : Addr) (k : Nat) : Prop := ∀ (dp un : Nat) (gd : Option (List Code)) (fr : Option (List Env)) (s : Shared) (Q E : Value → Shared → Prop), Ext g s.heap → dp + k < 900 → un + 10 * k < 9000 →
  (∀ r n h' tk, Ext s.heap h' → h'.get? r = some (listOf #[] n) → s.heap.get? r = none → Q (.ref r) { s with heap := h', toks := tk }) → wpAny (model PySem.Challenge.rw_og0093_01.row.prog w) (AT none dp fr gd un) (call (.ref 272) [.ref a.d, .ref o]) Q E s
theorem OpNil.use {a : Ad} {g : Heap} {o : Addr} {k : Nat} (c : OpNil w a g o k) (e : Ext g s.heap) (hdp : dp + k < 900) (hun : un + 10 * k < 9000) (h : ∀ r n h' tk, Ext s.heap h' → h'.get? r = some (listOf #[] n) → s.heap.get? r = none → Q (.ref r) { s with heap := h', toks := tk }) :
    wpAny (model PySem.Challenge.rw_og0093_01.row.prog w) (AT none dp fr gd un) (call (.ref 272) [.ref a.d, .ref o]) Q E s := c dp un gd fr s Q E e hdp hun h
noncomputable def RefNil (w : World) (a : Ad) (g : Heap) (o : Addr) (k : Nat) : Prop := ∀ (dp un : Nat) (gd : Option (List Code)) (fr : Option (List Env)) (s : Shared) (Q E : Value → Shared → Prop), Ext g s.heap → dp + k < 900 → un + 10 * k < 9000 →
  (∀ r n h' tk, Ext s.heap h' → h'.get? r = some (listOf #[] n) → s.heap.get? r = none → Q (.ref r) { s with heap := h', toks := tk }) → wpAny (model PySem.Challenge.rw_og0093_01.row.prog w) (AT none dp fr gd un) (call (.ref 265) [.ref a.d, .ref o]) Q E s
theorem RefNil.use {a : Ad} {g : Heap} {o : Addr} {k : Nat} (c : RefNil w a g o k) (e : Ext g s.heap) (hdp : dp + k < 900) (hun : un + 10 * k < 9000) (h : ∀ r n h' tk, Ext s.heap h' → h'.get? r = some (listOf #[] n) → s.heap.get? r = none → Q (.ref r) { s with heap := h', toks := tk }) :
    wpAny (model PySem.Challenge.rw_og0093_01.row.prog w) (AT none dp fr gd un) (call (.ref 265) [.ref a.d, .ref o]) Q E s := c dp un gd fr s Q E e hdp hun h
noncomputable def NameIs (w : World) (g : Heap) (o : Addr) (nm : Str) : Prop := ∀ (dp un : Nat) (gd : Option (List Code)) (fr : Option (List Env)) (s : Shared) (Q E : Value → Shared → Prop), Ext g s.heap → dp + 2 < 900 → un + 20 < 9000 →
  (∀ t h' tk, Ext s.heap h' → Q (.str nm t) { s with heap := h', toks := tk }) → wpAny (model PySem.Challenge.rw_og0093_01.row.prog w) (AT none dp fr gd un) (call (.ref 300) [.ref o]) Q E s
theorem NameIs.use {g : Heap} {o : Addr} {nm : Str} (c : NameIs w g o nm) (e : Ext g s.heap) (hdp : dp + 2 < 900) (hun : un + 20 < 9000) (h : ∀ t h' tk, Ext s.heap h' → Q (.str nm t) { s with heap := h', toks := tk }) :
    wpAny (model PySem.Challenge.rw_og0093_01.row.prog w) (AT none dp fr gd un) (call (.ref 300) [.ref o]) Q E s := c dp un gd fr s Q E e hdp hun h
noncomputable def isNum (cat : Str) : Bool := [Str.ofString "numeric", Str.ofString "index", Str.ofString ""].any fun x => x == cat
noncomputable def NumIs (w : World) (a : Ad) (g : Heap) (o : Addr) (b : Bool) : Prop := ∀ (dp un : Nat) (gd : Option (List Code)) (fr : Option (List Env)) (s : Shared) (Q E : Value → Shared → Prop), Ext g s.heap → dp + 9 < 900 → un + 90 < 9000 →
  (∀ h' tk, Ext s.heap h' → Q (.bool b) { s with heap := h', toks := tk }) → wpAny (model PySem.Challenge.rw_og0093_01.row.prog w) (AT none dp fr gd un) (call (.ref 286) [.ref a.d, .ref o]) Q E s
theorem NumIs.use {a : Ad} {g : Heap} {o : Addr} {b : Bool} (c : NumIs w a g o b) (e : Ext g s.heap) (hdp : dp + 9 < 900) (hun : un + 90 < 9000) (h : ∀ h' tk, Ext s.heap h' → Q (.bool b) { s with heap := h', toks := tk }) :
    wpAny (model PySem.Challenge.rw_og0093_01.row.prog w) (AT none dp fr gd un) (call (.ref 286) [.ref a.d, .ref o]) Q E s := c dp un gd fr s Q E e hdp hun h
section
variable {prog : Program} {A : Around}
theorem seqIdx0 (n : Nat) : seqIndex? 0 (n + 1) = some 0 := by
  unfold seqIndex?
  simp
theorem seqIdx1 (n : Nat) : seqIndex? 1 (n + 1 + 1) = some 1 := by
  unfold seqIndex?
  simp
  omega
theorem tup_at0 {value slice : PySem.Expr} {t : Addr} {u : Tok} {v : Value} {rest : List Value} {Q : Value → Shared → Prop} (ht : s.heap.IsTuple t (v :: rest).toArray) (h : Q v s)
    (hs : subscripted slice false (.ref t) (.int 0 u) = operate [.ref t, .int 0 u] (getItem (.ref t) (.int 0 u))) : wpAny (model prog w) A (subscriptTail value slice (.ref t) (.int 0 u)) Q E s :=
  item_tupleT ht (by decide) (by decide) (seqIdx0 _) rfl h hs
theorem tup_at1 {value slice : PySem.Expr} {t : Addr} {u : Tok} {v0 v : Value} {rest : List Value} {Q : Value → Shared → Prop} (ht : s.heap.IsTuple t (v0 :: v :: rest).toArray) (h : Q v s)
    (hs : subscripted slice false (.ref t) (.int 1 u) = operate [.ref t, .int 1 u] (getItem (.ref t) (.int 1 u))) : wpAny (model prog w) A (subscriptTail value slice (.ref t) (.int 1 u)) Q E s :=
  item_tupleT ht (by decide) (by decide) (seqIdx1 _) rfl h hs
end
section
theorem num_spec {a : Ad} {g : Heap} {o : Addr} {cat : Str} (X : (hd.heap_39 w.params).In g) (T : Top V LS mean mg mb g) (c : CatIs w a g o cat) : NumIs w a g o (isNum cat) := by
  intro dp un gd fr s Q E eg hdp hun hQ
  replace X := X.keeps eg
  replace T := T.keeps eg
  replace c : CatIs w a s.heap o cat := fun dp un gd fr s' Q E e => c dp un gd fr s' Q E (Ext.trans eg e)
  clear eg
  ((refine wpAny_call ?_; k_dflt (refine' code0 ?k19 ?k59 ?k69 ?k79 ?k89 ?k99 ?kB9 ?_ ?c29 ?c39 ?c49 ?c59; (case k19 => k_asm); (case k59 => k_asm); (case k69 => k_is); (case k79 => k_is); (case k89 => (simp only [recursionLimit]; omega)); (case k99 => first | exact BindsTo.of_eq rfl | exact binds_K (by k_in) rfl (by k_is) rfl rfl rfl); (case c59 => decide); (case kB9 => exact locs rfl); (case c29 => exact rfl); (case c39 => exact rfl); (case c49 => exact rfl); k_whole; intro L'9 h'9 F'9 N'9 X'9 T'9; (try dsimp only); (try k_fold))))
  (repeat' (first | wtm_at "s1" | ((fail_if_success fail_if_success with_reducible refine at_call ?_); ((with_reducible show wpAny _ _ (call (Value.ref 279) _) _ _ _); k_dflt (refine' CatIs.use (by assumption) ?sX9 ?sd9 ?su9 ?_; (case sX9 => exact Fr.keep (by k_asm)); (case sd9 => first | exact rm1 hdp rfl rfl | wtm_at "D"); (case su9 => first | exact um1 hun rfl rfl | wtm_at "U"); k_whole); intro t'9 h'9 tk'9 hE'9; wtm_at "PK")) | ((fail_if_success fail_if_success with_reducible refine at_sub ?_); (first | ((with_reducible show wpAny _ _ (subscriptTail _ _ (Value.ref _) (Value.int 1 _)) _ _ _); refine tup_at1 (Fr.tup (by k_asm) (by assumption)) ?_ (by with_unfolding_all rfl)) | ((with_reducible show wpAny _ _ (subscriptTail _ _ (Value.ref _) (Value.int 0 _)) _ _ _); refine tup_at0 (Fr.tup (by k_asm) (by assumption)) ?_ (by with_unfolding_all rfl)))) | wtm_at "s2"))
  exact hQ _ _ (Fr.keep (by assumption))
end
section
theorem opnil_ref {a : Ad} {g : Heap} {o : Addr} {t0 : Tok} {rest : List Value} (X : (hd.heap_39 w.params).In g) (T : Top V LS mean mg mb g) {k : Nat} (c : RefNil w a g o k) (r0 : g.IsTuple o (.str (Str.ofString "ref") t0 :: rest).toArray) : OpNil w a g o (k + 1) := by
  intro dp un gd fr s Q E eg hdp hun hQ
  replace X := X.keeps eg
  replace T := T.keeps eg
  replace c : RefNil w a s.heap o k := fun dp un gd fr s' Q E e => c dp un gd fr s' Q E (Ext.trans eg e)
  replace r0 := isTuple_ext r0 eg
  clear eg
  ((refine wpAny_call ?_; k_dflt (refine' code0 ?k19 ?k59 ?k69 ?k79 ?k89 ?k99 ?kB9 ?_ ?c29 ?c39 ?c49 ?c59; (case k19 => k_asm); (case k59 => k_asm); (case k69 => k_is); (case k79 => k_is); (case k89 => (simp only [recursionLimit]; omega)); (case k99 => first | exact BindsTo.of_eq rfl | exact binds_K (by k_in) rfl (by k_is) rfl rfl rfl); (case c59 => decide); (case kB9 => exact locs rfl); (case c29 => exact rfl); (case c39 => exact rfl); (case c49 => exact rfl); k_whole; intro L'9 h'9 F'9 N'9 X'9 T'9; (try dsimp only); (try k_fold))))
  (repeat' (first | wtm_at "s1" | ((fail_if_success fail_if_success with_reducible refine at_call ?_); ((with_reducible show wpAny _ _ (call (Value.ref 265) _) _ _ _); k_dflt (refine' RefNil.use (by assumption) ?sX9 ?sd9 ?su9 ?_; (case sX9 => exact Fr.keep (by k_asm)); (case sd9 => first | exact rm1 hdp rfl rfl | wtm_at "D"); (case su9 => first | exact um1 hun rfl rfl | wtm_at "U"); k_whole); intro r'9 n'9 h'9 tk'9 hE'9 ho'9 hr'9; wtm_at "PA")) | ((fail_if_success fail_if_success with_reducible refine at_sub ?_); (first | ((with_reducible show wpAny _ _ (subscriptTail _ _ (Value.ref _) (Value.int 1 _)) _ _ _); refine tup_at1 (Fr.tup (by k_asm) (by assumption)) ?_ (by with_unfolding_all rfl)) | ((with_reducible show wpAny _ _ (subscriptTail _ _ (Value.ref _) (Value.int 0 _)) _ _ _); refine tup_at0 (Fr.tup (by k_asm) (by assumption)) ?_ (by with_unfolding_all rfl)))) | wtm_at "s2"))
  refine' hQ _ _ _ _ ?e1 ?e2 ?e3
  (case e1 => exact Fr.keep (by assumption))
  (case e2 => exact News.get (by assumption) (by k_mem))
  (case e3 => exact News.fresh (by assumption) (by k_mem))
theorem opnil_non {a : Ad} {g : Heap} {o : Addr} {t0 : Tok} {tag : Str} {rest : List Value} (X : (hd.heap_39 w.params).In g) (T : Top V LS mean mg mb g) (r0 : g.IsTuple o (.str tag t0 :: rest).toArray) (ht : (tag == Str.ofString "ref") = false) : OpNil w a g o 9 := by
  intro dp un gd fr s Q E eg hdp hun hQ
  replace X := X.keeps eg
  replace T := T.keeps eg
  replace r0 := isTuple_ext r0 eg
  clear eg
  ((refine wpAny_call ?_; k_dflt (refine' code0 ?k19 ?k59 ?k69 ?k79 ?k89 ?k99 ?kB9 ?_ ?c29 ?c39 ?c49 ?c59; (case k19 => k_asm); (case k59 => k_asm); (case k69 => k_is); (case k79 => k_is); (case k89 => (simp only [recursionLimit]; omega)); (case k99 => first | exact BindsTo.of_eq rfl | exact binds_K (by k_in) rfl (by k_is) rfl rfl rfl); (case c59 => decide); (case kB9 => exact locs rfl); (case c29 => exact rfl); (case c39 => exact rfl); (case c49 => exact rfl); k_whole; intro L'9 h'9 F'9 N'9 X'9 T'9; (try dsimp only); (try k_fold))))
  (repeat' (first | wtm_at "s1" | ((fail_if_success fail_if_success with_reducible refine at_call ?_); ((with_reducible show wpAny _ _ (call (Value.ref 265) _) _ _ _); k_dflt (refine' RefNil.use (by assumption) ?sX9 ?sd9 ?su9 ?_; (case sX9 => exact Fr.keep (by k_asm)); (case sd9 => first | exact rm1 hdp rfl rfl | wtm_at "D"); (case su9 => first | exact um1 hun rfl rfl | wtm_at "U"); k_whole); intro r'9 n'9 h'9 tk'9 hE'9 ho'9 hr'9; wtm_at "PA")) | ((fail_if_success fail_if_success with_reducible refine at_sub ?_); (first | ((with_reducible show wpAny _ _ (subscriptTail _ _ (Value.ref _) (Value.int 1 _)) _ _ _); refine tup_at1 (Fr.tup (by k_asm) (by assumption)) ?_ (by with_unfolding_all rfl)) | ((with_reducible show wpAny _ _ (subscriptTail _ _ (Value.ref _) (Value.int 0 _)) _ _ _); refine tup_at0 (Fr.tup (by k_asm) (by assumption)) ?_ (by with_unfolding_all rfl)))) | wtm_at "s2"))
  refine' hQ _ _ _ _ ?e1 ?e2 ?e3
  (case e1 => exact Fr.keep (by assumption))
  (case e2 => exact News.get (by assumption) (by k_mem))
  (case e3 => exact News.fresh (by assumption) (by k_mem))
theorem name_ref {g : Heap} {o : Addr} {nm : Str} {t0 t1 : Tok} {rest : List Value} (X : (hd.heap_39 w.params).In g) (T : Top V LS mean mg mb g) (r0 : g.IsTuple o (.str (Str.ofString "ref") t0 :: .str nm t1 :: rest).toArray) : NameIs w g o nm := by
  intro dp un gd fr s Q E eg hdp hun hQ
  replace X := X.keeps eg
  replace T := T.keeps eg
  replace r0 := isTuple_ext r0 eg
  clear eg
  ((refine wpAny_call ?_; k_dflt (refine' code0 ?k19 ?k59 ?k69 ?k79 ?k89 ?k99 ?kB9 ?_ ?c29 ?c39 ?c49 ?c59; (case k19 => k_asm); (case k59 => k_asm); (case k69 => k_is); (case k79 => k_is); (case k89 => (simp only [recursionLimit]; omega)); (case k99 => first | exact BindsTo.of_eq rfl | exact binds_K (by k_in) rfl (by k_is) rfl rfl rfl); (case c59 => decide); (case kB9 => exact locs rfl); (case c29 => exact rfl); (case c39 => exact rfl); (case c49 => exact rfl); k_whole; intro L'9 h'9 F'9 N'9 X'9 T'9; (try dsimp only); (try k_fold))))
  (repeat' (first | wtm_at "s1" | ((fail_if_success fail_if_success with_reducible refine at_call ?_); ((with_reducible show wpAny _ _ (call (Value.ref 265) _) _ _ _); k_dflt (refine' RefNil.use (by assumption) ?sX9 ?sd9 ?su9 ?_; (case sX9 => exact Fr.keep (by k_asm)); (case sd9 => first | exact rm1 hdp rfl rfl | wtm_at "D"); (case su9 => first | exact um1 hun rfl rfl | wtm_at "U"); k_whole); intro r'9 n'9 h'9 tk'9 hE'9 ho'9 hr'9; wtm_at "PA")) | ((fail_if_success fail_if_success with_reducible refine at_sub ?_); (first | ((with_reducible show wpAny _ _ (subscriptTail _ _ (Value.ref _) (Value.int 1 _)) _ _ _); refine tup_at1 (Fr.tup (by k_asm) (by assumption)) ?_ (by with_unfolding_all rfl)) | ((with_reducible show wpAny _ _ (subscriptTail _ _ (Value.ref _) (Value.int 0 _)) _ _ _); refine tup_at0 (Fr.tup (by k_asm) (by assumption)) ?_ (by with_unfolding_all rfl)))) | wtm_at "s2"))
  exact hQ _ _ _ (Fr.keep (by assumption))
theorem name_non {g : Heap} {o : Addr} {tag : Str} {t0 : Tok} {rest : List Value} (X : (hd.heap_39 w.params).In g) (T : Top V LS mean mg mb g) (r0 : g.IsTuple o (.str tag t0 :: rest).toArray) (ht : (tag == Str.ofString "ref") = false) : NameIs w g o (if [Str.ofString "text", Str.ofString "number"].any fun x => x == tag then Str.ofString "a literal" else Str.ofString "a figure") := by
  intro dp un gd fr s Q E eg hdp hun hQ
  replace X := X.keeps eg
  replace T := T.keeps eg
  replace r0 := isTuple_ext r0 eg
  clear eg
  ((refine wpAny_call ?_; k_dflt (refine' code0 ?k19 ?k59 ?k69 ?k79 ?k89 ?k99 ?kB9 ?_ ?c29 ?c39 ?c49 ?c59; (case k19 => k_asm); (case k59 => k_asm); (case k69 => k_is); (case k79 => k_is); (case k89 => (simp only [recursionLimit]; omega)); (case k99 => first | exact BindsTo.of_eq rfl | exact binds_K (by k_in) rfl (by k_is) rfl rfl rfl); (case c59 => decide); (case kB9 => exact locs rfl); (case c29 => exact rfl); (case c39 => exact rfl); (case c49 => exact rfl); k_whole; intro L'9 h'9 F'9 N'9 X'9 T'9; (try dsimp only); (try k_fold))))
  (repeat' (first | wtm_at "s1" | ((fail_if_success fail_if_success with_reducible refine at_call ?_); ((with_reducible show wpAny _ _ (call (Value.ref 265) _) _ _ _); k_dflt (refine' RefNil.use (by assumption) ?sX9 ?sd9 ?su9 ?_; (case sX9 => exact Fr.keep (by k_asm)); (case sd9 => first | exact rm1 hdp rfl rfl | wtm_at "D"); (case su9 => first | exact um1 hun rfl rfl | wtm_at "U"); k_whole); intro r'9 n'9 h'9 tk'9 hE'9 ho'9 hr'9; wtm_at "PA")) | ((fail_if_success fail_if_success with_reducible refine at_sub ?_); (first | ((with_reducible show wpAny _ _ (subscriptTail _ _ (Value.ref _) (Value.int 1 _)) _ _ _); refine tup_at1 (Fr.tup (by k_asm) (by assumption)) ?_ (by with_unfolding_all rfl)) | ((with_reducible show wpAny _ _ (subscriptTail _ _ (Value.ref _) (Value.int 0 _)) _ _ _); refine tup_at0 (Fr.tup (by k_asm) (by assumption)) ?_ (by with_unfolding_all rfl)))) | wtm_at "s2"))
  all_goals (rename (_ = _) => hb; rw [hb] at hQ; exact hQ _ _ _ (Fr.keep (by assumption)))
end
end
section
-- Q18
example : True := by
  w_top off
  trivial
noncomputable abbrev ops : List Str := [⟨#[43]⟩, ⟨#[45]⟩, ⟨#[42]⟩, ⟨#[47]⟩, ⟨#[42, 42]⟩]
noncomputable def NfNil (w : World) (a : Ad) (g : Heap) (o : Addr) (k : Nat) : Prop := ∀ (dp un : Nat) (gd : Option (List Code)) (fr : Option (List Env)) (s : Shared) (Q E : Value → Shared → Prop), Ext g s.heap → dp + k < 900 → un + 10 * k < 9000 →
  (∀ r n h' tk, Ext s.heap h' → h'.get? r = some (listOf #[] n) → s.heap.get? r = none → Q (.ref r) { s with heap := h', toks := tk }) → wpAny (model PySem.Challenge.rw_og0093_01.row.prog w) (AT none dp fr gd un) (call (.ref 293) [.ref a.d, .ref o]) Q E s
theorem NfNil.use {a : Ad} {g : Heap} {o : Addr} {k : Nat} (c : NfNil w a g o k) (e : Ext g s.heap) (hdp : dp + k < 900) (hun : un + 10 * k < 9000) (h : ∀ r n h' tk, Ext s.heap h' → h'.get? r = some (listOf #[] n) → s.heap.get? r = none → Q (.ref r) { s with heap := h', toks := tk }) :
    wpAny (model PySem.Challenge.rw_og0093_01.row.prog w) (AT none dp fr gd un) (call (.ref 293) [.ref a.d, .ref o]) Q E s := c dp un gd fr s Q E e hdp hun h
noncomputable def NfOne (w : World) (a : Ad) (g : Heap) (o : Addr) (nm : Str) (k : Nat) : Prop := ∀ (dp un : Nat) (gd : Option (List Code)) (fr : Option (List Env)) (s : Shared) (Q E : Value → Shared → Prop), Ext g s.heap → dp + k < 900 → un + 10 * k < 9000 →
  (∀ r n p wh t n2 h' tk, Ext s.heap h' → h'.get? r = some (listOf #[.ref p] n) → s.heap.get? r = none → h'.get? p = some (tupOf #[wh, .str nm t] n2) → s.heap.get? p = none → Q (.ref r) { s with heap := h', toks := tk }) → wpAny (model PySem.Challenge.rw_og0093_01.row.prog w) (AT none dp fr gd un) (call (.ref 293) [.ref a.d, .ref o]) Q E s
theorem NfOne.use {a : Ad} {g : Heap} {o : Addr} {k : Nat} {nm : Str} (c : NfOne w a g o nm k) (e : Ext g s.heap) (hdp : dp + k < 900) (hun : un + 10 * k < 9000) (h : ∀ r n p wh t n2 h' tk, Ext s.heap h' → h'.get? r = some (listOf #[.ref p] n) → s.heap.get? r = none → h'.get? p = some (tupOf #[wh, .str nm t] n2) → s.heap.get? p = none → Q (.ref r) { s with heap := h', toks := tk }) :
    wpAny (model PySem.Challenge.rw_og0093_01.row.prog w) (AT none dp fr gd un) (call (.ref 293) [.ref a.d, .ref o]) Q E s := c dp un gd fr s Q E e hdp hun h
section
theorem nf_ok {a : Ad} {g : Heap} {o : Addr} {tag : Str} {t0 : Tok} {rest : List Value} (X : (hd.heap_39 w.params).In g) (T : Top V LS mean mg mb g) (r0 : g.IsTuple o (.str tag t0 :: rest).toArray) (h1 : (tag == Str.ofString "neg") = false) (h2 : (ops.any fun x => x == tag) = false) {k : Nat} (hk : 9 ≤ k) (c : OpNil w a g o k) (c2 : NumIs w a g o true) : NfNil w a g o (k + 1) := by
  intro dp un gd fr s Q E eg hdp hun hQ
  replace X := X.keeps eg
  replace T := T.keeps eg
  replace r0 := isTuple_ext r0 eg
  replace c : OpNil w a s.heap o k := fun dp un gd fr s' Q E e => c dp un gd fr s' Q E (Ext.trans eg e)
  replace c2 : NumIs w a s.heap o true := fun dp un gd fr s' Q E e => c2 dp un gd fr s' Q E (Ext.trans eg e)
  clear eg
  ((refine wpAny_call ?_; k_dflt (refine' code0 ?k19 ?k59 ?k69 ?k79 ?k89 ?k99 ?kB9 ?_ ?c29 ?c39 ?c49 ?c59; (case k19 => k_asm); (case k59 => k_asm); (case k69 => k_is); (case k79 => k_is); (case k89 => (simp only [recursionLimit]; omega)); (case k99 => first | exact BindsTo.of_eq rfl | exact binds_K (by k_in) rfl (by k_is) rfl rfl rfl); (case c59 => decide); (case kB9 => exact locs rfl); (case c29 => exact rfl); (case c39 => exact rfl); (case c49 => exact rfl); k_whole; intro L'9 h'9 F'9 N'9 X'9 T'9; (try dsimp only); (try k_fold))))
  (repeat' (first | wtm_at "s1" | ((fail_if_success fail_if_success with_reducible refine at_call ?_); (first | ((with_reducible show wpAny _ _ (call (Value.ref 300) _) _ _ _); k_dflt (refine' NameIs.use (by assumption) ?sX9 ?sd9 ?su9 ?_; (case sX9 => exact Fr.keep (by k_asm)); (case sd9 => first | exact rm1 hdp rfl rfl | wtm_at "D"); (case su9 => first | exact um1 hun rfl rfl | wtm_at "U"); k_whole); intro t'9 h'9 tk'9 hE'9; wtm_at "PK") | ((with_reducible show wpAny _ _ (call (Value.ref 286) _) _ _ _); k_dflt (refine' NumIs.use (by assumption) ?sX9 ?sd9 ?su9 ?_; (case sX9 => exact Fr.keep (by k_asm)); (case sd9 => first | exact rm1 hdp rfl rfl | wtm_at "D"); (case su9 => first | exact um1 hun rfl rfl | wtm_at "U"); k_whole); intro h'9 tk'9 hE'9; wtm_at "PK") | ((with_reducible show wpAny _ _ (call (Value.ref 272) _) _ _ _); k_dflt (refine' OpNil.use (by assumption) ?sX9 ?sd9 ?su9 ?_; (case sX9 => exact Fr.keep (by k_asm)); (case sd9 => first | exact rm1 hdp rfl rfl | wtm_at "D"); (case su9 => first | exact um1 hun rfl rfl | wtm_at "U"); k_whole); intro r'9 n'9 h'9 tk'9 hE'9 ho'9 hr'9; wtm_at "PA"))) | ((fail_if_success fail_if_success with_reducible refine at_sub ?_); (first | ((with_reducible show wpAny _ _ (subscriptTail _ _ (Value.ref _) (Value.int 1 _)) _ _ _); refine tup_at1 (Fr.tup (by k_asm) (by assumption)) ?_ (by with_unfolding_all rfl)) | ((with_reducible show wpAny _ _ (subscriptTail _ _ (Value.ref _) (Value.int 0 _)) _ _ _); refine tup_at0 (Fr.tup (by k_asm) (by assumption)) ?_ (by with_unfolding_all rfl)))) | wtm_at "s2"))
  all_goals first | exact absurd (by assumption : (ops.any fun x => x == tag) = true) (by rw [h2]; exact Bool.false_ne_true) | skip
  refine' hQ _ _ _ _ ?e1 ?e2 ?e3
  (case e1 => exact Fr.keep (by assumption))
  (case e2 => exact News.get (by assumption) (by k_mem))
  (case e3 => exact News.fresh (by assumption) (by k_mem))
theorem nf_bad {a : Ad} {g : Heap} {o : Addr} {tag nm : Str} {t0 : Tok} {rest : List Value} (X : (hd.heap_39 w.params).In g) (T : Top V LS mean mg mb g) (r0 : g.IsTuple o (.str tag t0 :: rest).toArray) (h1 : (tag == Str.ofString "neg") = false) (h2 : (ops.any fun x => x == tag) = false) {k : Nat} (hk : 9 ≤ k) (c : OpNil w a g o k) (c2 : NumIs w a g o false) (c3 : NameIs w g o nm) : NfOne w a g o nm (k + 1) := by
  intro dp un gd fr s Q E eg hdp hun hQ
  replace X := X.keeps eg
  replace T := T.keeps eg
  replace r0 := isTuple_ext r0 eg
  replace c : OpNil w a s.heap o k := fun dp un gd fr s' Q E e => c dp un gd fr s' Q E (Ext.trans eg e)
  replace c2 : NumIs w a s.heap o false := fun dp un gd fr s' Q E e => c2 dp un gd fr s' Q E (Ext.trans eg e)
  replace c3 : NameIs w s.heap o nm := fun dp un gd fr s' Q E e => c3 dp un gd fr s' Q E (Ext.trans eg e)
  clear eg
  ((refine wpAny_call ?_; k_dflt (refine' code0 ?k19 ?k59 ?k69 ?k79 ?k89 ?k99 ?kB9 ?_ ?c29 ?c39 ?c49 ?c59; (case k19 => k_asm); (case k59 => k_asm); (case k69 => k_is); (case k79 => k_is); (case k89 => (simp only [recursionLimit]; omega)); (case k99 => first | exact BindsTo.of_eq rfl | exact binds_K (by k_in) rfl (by k_is) rfl rfl rfl); (case c59 => decide); (case kB9 => exact locs rfl); (case c29 => exact rfl); (case c39 => exact rfl); (case c49 => exact rfl); k_whole; intro L'9 h'9 F'9 N'9 X'9 T'9; (try dsimp only); (try k_fold))))
  (repeat' (first | wtm_at "s1" | ((fail_if_success fail_if_success with_reducible refine at_call ?_); (first | ((with_reducible show wpAny _ _ (call (Value.ref 300) _) _ _ _); k_dflt (refine' NameIs.use (by assumption) ?sX9 ?sd9 ?su9 ?_; (case sX9 => exact Fr.keep (by k_asm)); (case sd9 => first | exact rm1 hdp rfl rfl | wtm_at "D"); (case su9 => first | exact um1 hun rfl rfl | wtm_at "U"); k_whole); intro t'9 h'9 tk'9 hE'9; wtm_at "PK") | ((with_reducible show wpAny _ _ (call (Value.ref 286) _) _ _ _); k_dflt (refine' NumIs.use (by assumption) ?sX9 ?sd9 ?su9 ?_; (case sX9 => exact Fr.keep (by k_asm)); (case sd9 => first | exact rm1 hdp rfl rfl | wtm_at "D"); (case su9 => first | exact um1 hun rfl rfl | wtm_at "U"); k_whole); intro h'9 tk'9 hE'9; wtm_at "PK") | ((with_reducible show wpAny _ _ (call (Value.ref 272) _) _ _ _); k_dflt (refine' OpNil.use (by assumption) ?sX9 ?sd9 ?su9 ?_; (case sX9 => exact Fr.keep (by k_asm)); (case sd9 => first | exact rm1 hdp rfl rfl | wtm_at "D"); (case su9 => first | exact um1 hun rfl rfl | wtm_at "U"); k_whole); intro r'9 n'9 h'9 tk'9 hE'9 ho'9 hr'9; wtm_at "PA"))) | ((fail_if_success fail_if_success with_reducible refine at_sub ?_); (first | ((with_reducible show wpAny _ _ (subscriptTail _ _ (Value.ref _) (Value.int 1 _)) _ _ _); refine tup_at1 (Fr.tup (by k_asm) (by assumption)) ?_ (by with_unfolding_all rfl)) | ((with_reducible show wpAny _ _ (subscriptTail _ _ (Value.ref _) (Value.int 0 _)) _ _ _); refine tup_at0 (Fr.tup (by k_asm) (by assumption)) ?_ (by with_unfolding_all rfl)))) | wtm_at "s2"))
  all_goals first | exact absurd (by assumption : (ops.any fun x => x == tag) = true) (by rw [h2]; exact Bool.false_ne_true) | skip
  rename News _ _ _ _ => N9
  rename Fr _ _ _ _ => F9
  exact hQ _ _ _ _ _ _ _ _ F9.keep (N9.get (.tail _ (.tail _ (.head _)))) (N9.fresh (.tail _ (.tail _ (.head _)))) (N9.get (.head _)) (N9.fresh (.head _))
end
end
section
-- Q19
example : True := by
  w_top off
  trivial
theorem newsAddF {h₀ h h' g' : Heap} {L r : Addr} {m : Str → Option Value} {ob : Obj} {news : List (Addr × Obj)} {fs : List Addr} (F : Fr h₀ L h m) (K : KtsTurn fs h₀ g') (ho : h'.get? r = some ob) (hr : h.get? r = none) (N : News g' L h' news) : News g' L h' ((r, ob) :: news) := by
  intro p hp
  rcases List.mem_cons.mp hp with rfl | hp
  · exact ⟨ho, (noneOf F hr).1, K.none_ _ (noneOf F hr).2⟩
  · exact N p hp
section
theorem op_no {b₀ : Heap} {a : Ad} {o sb : Addr} {nm : Str} {outer : List Env} (C : Cx w mean mg mb b₀ s.heap outer a) (hdp : dp + 9 < 500) (hun : un + 90 < 5000) (R0 : RefT b₀ o nm sb) (S0 : b₀.IsTuple sb #[]) (hi : (valueAt a.ix nm).isSome = false) (hnm : nm.length ≤ 100) (hu : a.xs.filter (fun p => p.2 == nm) = [])
    (hQ : ∀ r n p wh t n2 h' tk, ExtF (frs outer) s.heap h' → h'.get? r = some (listOf #[.ref p] n) → s.heap.get? r = none → h'.get? p = some (tupOf #[wh, .str nm t] n2) → s.heap.get? p = none → Q (.ref r) { s with heap := h', toks := tk }) :
    wpAny (model PySem.Challenge.rw_og0093_01.row.prog w) (AT none dp (some outer) gd un) (call (.ref 272) [.ref a.d, .ref o]) Q E s := by
  have X := C.X.keeps C.st
  have T := C.T.keeps C.st
  obtain ⟨t0, t1, q, n, r0, r1⟩ := id R0
  have r2 : s.heap.IsTuple o #[.str (Str.ofString "ref") t0, .str nm t1, .ref q, .ref sb, .none] := isTuple_ext ⟨_, r0, rfl, _, rfl⟩ C.st
  ((refine wpAny_call ?_; k_dflt (refine' code0 ?k19 ?k59 ?k69 ?k79 ?k89 ?k99 ?kB9 ?_ ?c29 ?c39 ?c49 ?c59; (case k19 => k_asm); (case k59 => k_asm); (case k69 => k_is); (case k79 => k_is); (case k89 => (simp only [recursionLimit]; omega)); (case k99 => first | exact BindsTo.of_eq rfl | exact binds_K (by k_in) rfl (by k_is) rfl rfl rfl); (case c59 => decide); (case kB9 => exact locs rfl); (case c29 => exact rfl); (case c39 => exact rfl); (case c49 => exact rfl); k_whole; intro L'9 h'9 F'9 N'9 X'9 T'9; (try dsimp only); (try k_fold))))
  (repeat' (first | wtm_at "s1" | ((fail_if_success fail_if_success with_reducible refine at_call ?_); (with_reducible refine hold_at 265 ?_)) | ((fail_if_success fail_if_success with_reducible refine at_cmp ?_); ((with_reducible show wpAny _ _ (compareOp CmpOp.Eq (Value.ref _) (Value.ref _)) _ _ _); k_dflt (first | (refine' eq_nil_t ?a9 ?b9 ?c9 ?_; (case b9 => is_list); (case a9 => is_list); (case c9 => units_room); k_whole) | (refine' eq_nil_f ?a9 ?b9 ?c9 ?d9 ?_; (case b9 => is_list); (case a9 => is_list); (case c9 => units_room); (case d9 => first | exact rfl | (rw [List.size_toArray, List.length_append]; exact rfl)); k_whole) | (refine' eq_nil ?a9 ?b9 ?c9 ?_; (case b9 => is_list); (case a9 => is_list); (case c9 => units_room); k_whole)))) | wtm_at "s2"))
  unfold Hold
  rename Fr _ _ _ _ => F0
  rename News _ _ _ _ => N0
  refine ref_no (C.push F0 (by exact rfl) (by exact rfl)) (by simp only [depth_deeper]; omega) (by simp only [units_deeper]; omega) R0 S0 hi hnm hu ?_
  intro r n1 p wh t n2 h' tk' x1 x2 x3 x4 x5
  obtain ⟨g', K', F1, N1, C'⟩ := C.after F0 N0 rfl x1
  have N2 := newsAddF F0 K' x2 x3 (newsAddF F0 K' x4 x5 N1)
  exact hQ _ _ _ _ _ _ _ _ (ExtF.turn K' F1.keep) (N2.get (.head _)) (turn_none K' (N2.fresh (.head _))) (N2.get (.tail _ (.head _))) (turn_none K' (N2.fresh (.tail _ (.head _))))
end
section
theorem nf_no {b₀ : Heap} {a : Ad} {o sb : Addr} {nm : Str} {outer : List Env} (C : Cx w mean mg mb b₀ s.heap outer a) (hdp : dp + 10 < 500) (hun : un + 100 < 5000) (R0 : RefT b₀ o nm sb) (S0 : b₀.IsTuple sb #[]) (hi : (valueAt a.ix nm).isSome = false) (hnm : nm.length ≤ 100) (hu : a.xs.filter (fun p => p.2 == nm) = [])
    (hQ : ∀ r n p wh t n2 h' tk, ExtF (frs outer) s.heap h' → h'.get? r = some (listOf #[.ref p] n) → s.heap.get? r = none → h'.get? p = some (tupOf #[wh, .str nm t] n2) → s.heap.get? p = none → Q (.ref r) { s with heap := h', toks := tk }) :
    wpAny (model PySem.Challenge.rw_og0093_01.row.prog w) (AT none dp (some outer) gd un) (call (.ref 293) [.ref a.d, .ref o]) Q E s := by
  have X := C.X.keeps C.st
  have T := C.T.keeps C.st
  obtain ⟨t0, t1, q, n, r0, r1⟩ := id R0
  have r2 : s.heap.IsTuple o #[.str (Str.ofString "ref") t0, .str nm t1, .ref q, .ref sb, .none] := isTuple_ext ⟨_, r0, rfl, _, rfl⟩ C.st
  ((refine wpAny_call ?_; k_dflt (refine' code0 ?k19 ?k59 ?k69 ?k79 ?k89 ?k99 ?kB9 ?_ ?c29 ?c39 ?c49 ?c59; (case k19 => k_asm); (case k59 => k_asm); (case k69 => k_is); (case k79 => k_is); (case k89 => (simp only [recursionLimit]; omega)); (case k99 => first | exact BindsTo.of_eq rfl | exact binds_K (by k_in) rfl (by k_is) rfl rfl rfl); (case c59 => decide); (case kB9 => exact locs rfl); (case c29 => exact rfl); (case c39 => exact rfl); (case c49 => exact rfl); k_whole; intro L'9 h'9 F'9 N'9 X'9 T'9; (try dsimp only); (try k_fold))))
  (repeat' (first | wtm_at "s1" | ((fail_if_success fail_if_success with_reducible refine at_call ?_); (with_reducible refine hold_at 272 ?_)) | ((fail_if_success fail_if_success with_reducible refine at_cmp ?_); ((with_reducible show wpAny _ _ (compareOp CmpOp.Eq (Value.ref _) (Value.ref _)) _ _ _); k_dflt (first | (refine' eq_nil_t ?a9 ?b9 ?c9 ?_; (case b9 => is_list); (case a9 => is_list); (case c9 => units_room); k_whole) | (refine' eq_nil_f ?a9 ?b9 ?c9 ?d9 ?_; (case b9 => is_list); (case a9 => is_list); (case c9 => units_room); (case d9 => first | exact rfl | (rw [List.size_toArray, List.length_append]; exact rfl)); k_whole) | (refine' eq_nil ?a9 ?b9 ?c9 ?_; (case b9 => is_list); (case a9 => is_list); (case c9 => units_room); k_whole)))) | wtm_at "s2"))
  unfold Hold
  rename Fr _ _ _ _ => F0
  rename News _ _ _ _ => N0
  refine op_no (C.push F0 (by exact rfl) (by exact rfl)) (by simp only [depth_deeper]; omega) (by simp only [units_deeper]; omega) R0 S0 hi hnm hu ?_
  intro r n1 p wh t n2 h' tk' x1 x2 x3 x4 x5
  obtain ⟨g', K', F1, N1, C'⟩ := C.after F0 N0 rfl x1
  have N2 := newsAddF F0 K' x2 x3 (newsAddF F0 K' x4 x5 N1)
  clear F0 N0 N1 X T
  rename Frag.In _ _ => Xo
  rename Top _ _ _ _ _ _ => To
  clear Xo To
  have X := C'.X.keeps C'.st
  have T := C'.T.keeps C'.st
  (repeat' (first | wtm_at "s1" | ((fail_if_success fail_if_success with_reducible refine at_call ?_); (with_reducible refine hold_at 272 ?_)) | ((fail_if_success fail_if_success with_reducible refine at_cmp ?_); ((with_reducible show wpAny _ _ (compareOp CmpOp.Eq (Value.ref _) (Value.ref _)) _ _ _); k_dflt (first | (refine' eq_nil_t ?a9 ?b9 ?c9 ?_; (case b9 => is_list); (case a9 => is_list); (case c9 => units_room); k_whole) | (refine' eq_nil_f ?a9 ?b9 ?c9 ?d9 ?_; (case b9 => is_list); (case a9 => is_list); (case c9 => units_room); (case d9 => first | exact rfl | (rw [List.size_toArray, List.length_append]; exact rfl)); k_whole) | (refine' eq_nil ?a9 ?b9 ?c9 ?_; (case b9 => is_list); (case a9 => is_list); (case c9 => units_room); k_whole)))) | wtm_at "s2"))
  rename News _ _ _ _ => N9
  rename Fr _ _ _ _ => F9
  exact hQ _ _ _ _ _ _ _ _ (ExtF.turn K' F9.keep) (N9.get (.tail _ (.head _))) (turn_none K' (N9.fresh (.tail _ (.head _)))) (N9.get (.tail _ (.tail _ (.head _)))) (turn_none K' (N9.fresh (.tail _ (.tail _ (.head _)))))
end
end
section
-- Q20
example : True := by
  w_top off
  trivial
section
theorem partK_spec {a : Ad} {o sb oi : Addr} {nm : Str} (X : (hd.heap_39 w.params).In s.heap) (T : Top V LS mean mg mb s.heap) {k : Nat} (hdp : dp + (k + 1) < 900) (hun : un + 10 * (k + 1) < 9000) (R0 : RefT s.heap o nm sb) (S0 : s.heap.IsTuple sb #[.ref oi]) (c : NfNil w a s.heap oi k)
    (hQ : ∀ r n h' tk, Ext s.heap h' → h'.get? r = some (listOf #[] n) → s.heap.get? r = none → Q (.ref r) { s with heap := h', toks := tk }) :
    wpAny (model PySem.Challenge.rw_og0093_01.row.prog w) (AT none dp fr gd un) (call (.ref 257) [.ref a.d, .ref o]) Q E s := by
  have R := R0
  obtain ⟨t0, t1, q, n, r0, r1⟩ := R0
  have r2 : s.heap.IsTuple o #[.str (Str.ofString "ref") t0, .str nm t1, .ref q, .ref sb, .none] := ⟨_, r0, rfl, _, rfl⟩
  ((refine wpAny_call ?_; k_dflt (refine' code0 ?k19 ?k59 ?k69 ?k79 ?k89 ?k99 ?kB9 ?_ ?c29 ?c39 ?c49 ?c59; (case k19 => k_asm); (case k59 => k_asm); (case k69 => k_is); (case k79 => k_is); (case k89 => (simp only [recursionLimit]; omega)); (case k99 => first | exact BindsTo.of_eq rfl | exact binds_K (by k_in) rfl (by k_is) rfl rfl rfl); (case c59 => decide); (case kB9 => exact locs rfl); (case c29 => exact rfl); (case c39 => exact rfl); (case c49 => exact rfl); k_whole; intro L'9 h'9 F'9 N'9 X'9 T'9; (try dsimp only); (try k_fold))))
  (repeat' (first | wtm_at "s1" | ((fail_if_success fail_if_success with_reducible refine at_call ?_); ((with_reducible show wpAny _ _ (call (Value.ref 293) _) _ _ _); k_dflt (refine' NfNil.use (by assumption) ?sX9 ?sd9 ?su9 ?_; (case sX9 => exact Fr.keep (by k_asm)); (case sd9 => first | exact rm1 hdp rfl rfl | wtm_at "D"); (case su9 => first | exact um1 hun rfl rfl | wtm_at "U"); k_whole); intro r'9 n'9 h'9 tk'9 hE'9 ho'9 hr'9; wtm_at "PA")) | ((fail_if_success fail_if_success with_reducible refine at_iter ?_); (refine hold ?_)) | ((fail_if_success fail_if_success with_reducible refine at_for ?_); (k_dflt (refine For_turns (by k_asm) ?_))) | ((fail_if_success fail_if_success with_reducible refine at_ext ?_); (k_dflt (refine' ext_any ?F9 ?N9 ?b9 ?e9 ?U9 ?z9 ?_; (case F9 => k_asm); (case N9 => k_asm); (case b9 => k_mem); (case U9 => (intro k9; k_upd)); (case e9 => exact rfl); (case z9 => exact Nat.le_of_ble_eq_true rfl); k_whole); intro h'9 k'9 F'9 N'9; (try k_sweep))) | ((fail_if_success fail_if_success with_reducible refine at_name ?_); (k_dflt (refine' ld ?k19 ?k29 ?_; (case k19 => k_asm); (case k29 => first | assumption | (rw [if_neg (by decide)]; assumption)); k_whole))) | wtm_at "s2"))
  unfold Hold
  rename Fr _ _ _ _ => F0
  rename News _ _ _ _ => N0
  refine turnsTup rfl F0 N0 S0 (fun _ m n => m (Str.ofString "data") = some (.ref a.d) ∧ m (Str.ofString "ref") = some (.ref o) ∧ m (Str.ofString "found") = some (.ref _) ∧ ∃ k, n = [(_, listOf #[] k)]) ⟨rfl, rfl, rfl, _, rfl⟩ ?_ ?_
  · intro i v m₁ news₁ h₁ tk₁ I oI hv hJ ho F1 N1
    obtain ⟨hm1, hm2, hm3, k1, rfl⟩ := hJ
    obtain rfl : v = .ref oi := by
      match i with
      | 0 => exact (Option.some.inj hv).symm
      | k + 1 => simp at hv
    simp only [List.forall_mem_cons, List.not_mem_nil, false_imp_iff, implies_true, and_true] at ho
    clear F0 N0
    (repeat' (first | wtm_at "s1" | ((fail_if_success fail_if_success with_reducible refine at_call ?_); ((with_reducible show wpAny _ _ (call (Value.ref 293) _) _ _ _); k_dflt (refine' NfNil.use (by assumption) ?sX9 ?sd9 ?su9 ?_; (case sX9 => exact Fr.keep (by k_asm)); (case sd9 => first | exact rm1 hdp rfl rfl | wtm_at "D"); (case su9 => first | exact um1 hun rfl rfl | wtm_at "U"); k_whole); intro r'9 n'9 h'9 tk'9 hE'9 ho'9 hr'9; wtm_at "PA")) | ((fail_if_success fail_if_success with_reducible refine at_iter ?_); (refine hold ?_)) | ((fail_if_success fail_if_success with_reducible refine at_for ?_); (k_dflt (refine For_turns (by k_asm) ?_))) | ((fail_if_success fail_if_success with_reducible refine at_ext ?_); (k_dflt (refine' ext_any ?F9 ?N9 ?b9 ?e9 ?U9 ?z9 ?_; (case F9 => k_asm); (case N9 => k_asm); (case b9 => k_mem); (case U9 => (intro k9; k_upd)); (case e9 => exact rfl); (case z9 => exact Nat.le_of_ble_eq_true rfl); k_whole); intro h'9 k'9 F'9 N'9; (try k_sweep))) | ((fail_if_success fail_if_success with_reducible refine at_name ?_); (k_dflt (refine' ld ?k19 ?k29 ?_; (case k19 => k_asm); (case k29 => first | assumption | (rw [if_neg (by decide)]; assumption)); k_whole))) | wtm_at "s2"))
    rename Fr _ _ _ _ => F2
    rename News _ _ _ _ => N2
    exact ⟨_, _, _, [(_, listOf #[] _)], rfl, F2, newsDrop N2 (fun p hp => .tail _ hp), fun p hp => by rw [List.mem_singleton.mp hp]; exact ho, (if_neg (by decide)).trans hm1, (if_neg (by decide)).trans hm2, (if_neg (by decide)).trans hm3, _, rfl⟩
  · rintro h' tk' m' news' F1 N1 ⟨hm1, hm2, hm3, k1, rfl⟩
    clear F0 N0
    (repeat' (first | wtm_at "s1" | ((fail_if_success fail_if_success with_reducible refine at_call ?_); ((with_reducible show wpAny _ _ (call (Value.ref 293) _) _ _ _); k_dflt (refine' NfNil.use (by assumption) ?sX9 ?sd9 ?su9 ?_; (case sX9 => exact Fr.keep (by k_asm)); (case sd9 => first | exact rm1 hdp rfl rfl | wtm_at "D"); (case su9 => first | exact um1 hun rfl rfl | wtm_at "U"); k_whole); intro r'9 n'9 h'9 tk'9 hE'9 ho'9 hr'9; wtm_at "PA")) | ((fail_if_success fail_if_success with_reducible refine at_iter ?_); (refine hold ?_)) | ((fail_if_success fail_if_success with_reducible refine at_for ?_); (k_dflt (refine For_turns (by k_asm) ?_))) | ((fail_if_success fail_if_success with_reducible refine at_ext ?_); (k_dflt (refine' ext_any ?F9 ?N9 ?b9 ?e9 ?U9 ?z9 ?_; (case F9 => k_asm); (case N9 => k_asm); (case b9 => k_mem); (case U9 => (intro k9; k_upd)); (case e9 => exact rfl); (case z9 => exact Nat.le_of_ble_eq_true rfl); k_whole); intro h'9 k'9 F'9 N'9; (try k_sweep))) | ((fail_if_success fail_if_success with_reducible refine at_name ?_); (k_dflt (refine' ld ?k19 ?k29 ?_; (case k19 => k_asm); (case k29 => first | assumption | (rw [if_neg (by decide)]; assumption)); k_whole))) | wtm_at "s2"))
    unfold Hold
    refine turnsTup0 rfl (by k_asm) (by k_asm) (News.isTup (by k_asm) (by k_mem)) (Ne.symm (News.ne (by k_asm) (by k_mem))) ?_
    intro h9 tk9 F9 N9
    (repeat' (first | wtm_at "s1" | ((fail_if_success fail_if_success with_reducible refine at_call ?_); ((with_reducible show wpAny _ _ (call (Value.ref 293) _) _ _ _); k_dflt (refine' NfNil.use (by assumption) ?sX9 ?sd9 ?su9 ?_; (case sX9 => exact Fr.keep (by k_asm)); (case sd9 => first | exact rm1 hdp rfl rfl | wtm_at "D"); (case su9 => first | exact um1 hun rfl rfl | wtm_at "U"); k_whole); intro r'9 n'9 h'9 tk'9 hE'9 ho'9 hr'9; wtm_at "PA")) | ((fail_if_success fail_if_success with_reducible refine at_iter ?_); (refine hold ?_)) | ((fail_if_success fail_if_success with_reducible refine at_for ?_); (k_dflt (refine For_turns (by k_asm) ?_))) | ((fail_if_success fail_if_success with_reducible refine at_ext ?_); (k_dflt (refine' ext_any ?F9 ?N9 ?b9 ?e9 ?U9 ?z9 ?_; (case F9 => k_asm); (case N9 => k_asm); (case b9 => k_mem); (case U9 => (intro k9; k_upd)); (case e9 => exact rfl); (case z9 => exact Nat.le_of_ble_eq_true rfl); k_whole); intro h'9 k'9 F'9 N'9; (try k_sweep))) | ((fail_if_success fail_if_success with_reducible refine at_name ?_); (k_dflt (refine' ld ?k19 ?k29 ?_; (case k19 => k_asm); (case k29 => first | assumption | (rw [if_neg (by decide)]; assumption)); k_whole))) | wtm_at "s2"))
    refine' hQ _ _ _ _ ?e1 ?e2 ?e3
    (case e1 => exact Fr.keep (by assumption))
    (case e2 => exact News.get (by assumption) (by k_mem))
    (case e3 => exact News.fresh (by assumption) (by k_mem))
end
noncomputable def PartNil (w : World) (a : Ad) (g : Heap) (o : Addr) (k : Nat) : Prop := ∀ (dp un : Nat) (gd : Option (List Code)) (fr : Option (List Env)) (s : Shared) (Q E : Value → Shared → Prop), Ext g s.heap → dp + k < 900 → un + 10 * k < 9000 →
  (∀ r n h' tk, Ext s.heap h' → h'.get? r = some (listOf #[] n) → s.heap.get? r = none → Q (.ref r) { s with heap := h', toks := tk }) → wpAny (model PySem.Challenge.rw_og0093_01.row.prog w) (AT none dp fr gd un) (call (.ref 257) [.ref a.d, .ref o]) Q E s
theorem PartNil.use {a : Ad} {g : Heap} {o : Addr} {k : Nat} (c : PartNil w a g o k) (e : Ext g s.heap) (hdp : dp + k < 900) (hun : un + 10 * k < 9000) (h : ∀ r n h' tk, Ext s.heap h' → h'.get? r = some (listOf #[] n) → s.heap.get? r = none → Q (.ref r) { s with heap := h', toks := tk }) :
    wpAny (model PySem.Challenge.rw_og0093_01.row.prog w) (AT none dp fr gd un) (call (.ref 257) [.ref a.d, .ref o]) Q E s := c dp un gd fr s Q E e hdp hun h
theorem NfNil.ext {a : Ad} {g g' : Heap} {o : Addr} {k : Nat} (c : NfNil w a g o k) (e : Ext g g') : NfNil w a g' o k := fun dp un gd fr s' Q E x => c dp un gd fr s' Q E (Ext.trans e x)
theorem PartNil.ext {a : Ad} {g g' : Heap} {o : Addr} {k : Nat} (c : PartNil w a g o k) (e : Ext g g') : PartNil w a g' o k := fun dp un gd fr s' Q E x => c dp un gd fr s' Q E (Ext.trans e x)
theorem part_nil {a : Ad} {g : Heap} {o sb oi : Addr} {nm : Str} (X : (hd.heap_39 w.params).In g) (T : Top V LS mean mg mb g) (R0 : RefT g o nm sb) (S0 : g.IsTuple sb #[.ref oi]) {k : Nat} (c : NfNil w a g oi k) : PartNil w a g o (k + 1) :=
  fun dp un gd fr s Q E eg hdp hun hQ => partK_spec (X.keeps eg) (T.keeps eg) hdp hun (R0.ext eg) (isTuple_ext S0 eg) (c.ext eg) hQ
end
section
-- Q21
example : True := by
  w_top off
  trivial
section
theorem ref_deep {a : Ad} {g : Heap} {o sb x oi : Addr} {nm cat : Str} (X0 : (hd.heap_39 w.params).In g) (T0 : Top V LS mean mg mb g) (D0 : Dat w g a) (R1 : RefT g o nm sb) (S1 : g.IsTuple sb #[.ref oi]) (hi : (valueAt a.ix nm).isSome = false) (H0 : Hit g a nm x cat 1) {kk : Nat} (hkk : 8 ≤ kk) (c0 : PartNil w a g o kk) : RefNil w a g o (kk + 1) := by
  intro dp un gd fr s Q E eg hdp hun hQ
  have X := X0.keeps eg
  have T := T0.keeps eg
  have D := D0.ext eg
  have R0 := R1.ext eg
  have S0 := isTuple_ext S1 eg
  have H := H0.ext eg
  have c := c0.ext eg
  clear X0 T0 D0 R1 S1 H0 c0 eg
  have R := R0
  obtain ⟨t0, t1, q, n, r0, r1⟩ := R0
  have r2 : s.heap.IsTuple o #[.str (Str.ofString "ref") t0, .str nm t1, .ref q, .ref sb, .none] := ⟨_, r0, rfl, _, rfl⟩
  obtain ⟨par, occ, sh, kl, ps, i, j, c9, l, f, u, nn⟩ := H
  ((refine wpAny_call ?_; k_dflt (refine' code0 ?k19 ?k59 ?k69 ?k79 ?k89 ?k99 ?kB9 ?_ ?c29 ?c39 ?c49 ?c59; (case k19 => k_asm); (case k59 => k_asm); (case k69 => k_is); (case k79 => k_is); (case k89 => (simp only [recursionLimit]; omega)); (case k99 => first | exact BindsTo.of_eq rfl | exact binds_K (by k_in) rfl (by k_is) rfl rfl rfl); (case c59 => decide); (case kB9 => exact locs rfl); (case c29 => exact rfl); (case c39 => exact rfl); (case c49 => exact rfl); k_whole; intro L'9 h'9 F'9 N'9 X'9 T'9; (try dsimp only); (try k_fold))))
  (repeat' (first | wtm_at "s1" | ((fail_if_success fail_if_success with_reducible refine at_call ?_); (first | ((with_reducible show wpAny _ _ (call (.ref 211) _ _) _ _ _); (k_dflt (refine' tables_spec (by k_in) (by wtm_at "T") (by first | exact rm1 hdp rfl rfl | wtm_at "D") (by first | exact um1 hun rfl rfl | wtm_at "U") ?sH9 ?_; (case sH9 => exact TabN.ext (by assumption) (Fr.keep (by k_asm))); k_whole); intros; wtm_at "PM")) | ((with_reducible show wpAny _ _ (call (Value.ref 257) _) _ _ _); k_dflt (refine' PartNil.use (by assumption) ?sX9 ?sd9 ?su9 ?_; (case sX9 => exact Fr.keep (by k_asm)); (case sd9 => first | exact rm1 hdp rfl rfl | wtm_at "D"); (case su9 => first | exact um1 hun rfl rfl | wtm_at "U"); k_whole); intro r'9 n'9 h'9 tk'9 hE'9 ho'9 hr'9; wtm_at "PA") | ((with_reducible show wpAny _ _ (call (.ref 235) _ _) _ _ _); (k_dflt (refine' find_spec (by k_in) (by wtm_at "T") (by first | exact rm1 hdp rfl rfl | wtm_at "D") (by first | exact um1 hun rfl rfl | wtm_at "U") ?sD9 ?q19 ?sI9 ?sC9 ?sl9 ?sn9 ?su29 ?_; (case sD9 => exact Dat.ext (by assumption) (Fr.keep (by k_asm))); (case q19 => exact Fr.tup (by k_asm) (by assumption)); (case sI9 => ktr_unf); (case sC9 => ktr_unf); (case sl9 => assumption); (case sn9 => assumption); (case su29 => assumption); k_whole); intros; wtm_at "PK")) | ((with_reducible show wpAny _ _ (call (.ref 250) _ _) _ _ _); (k_dflt (refine' isix_spec (by k_in) (by wtm_at "T") (by first | exact rm1 hdp rfl rfl | wtm_at "D") (by first | exact um1 hun rfl rfl | wtm_at "U") ?sD9 ?sR9 ?_; (case sD9 => exact Dat.ext (by assumption) (Fr.keep (by k_asm))); (case sR9 => exact RefT.ext (by assumption) (Fr.keep (by k_asm))); k_whole); intros; wtm_at "PK")))) | wtm_at "s2"))
  all_goals first | (exfalso; (have z0 : (#[Value.ref oi] : Array Value).size = 1 := rfl); omega) | skip
  refine' hQ _ _ _ _ ?e1 ?e2 ?e3
  (case e1 => exact Fr.keep (by assumption))
  (case e2 => exact News.get (by assumption) (by k_mem))
  (case e3 => exact News.fresh (by assumption) (by k_mem))
end
end
section
-- Q22
example : True := by
  w_top off
  trivial
theorem nonOps {tag : Str} (h : tag = Str.ofString "ref" ∨ tag = Str.ofString "number" ∨ tag = Str.ofString "text" ∨ tag = Str.ofString "figure") : (tag == Str.ofString "neg") = false ∧ (ops.any fun x => x == tag) = false := by
  rcases h with rfl | rfl | rfl | rfl <;> exact ⟨by decide, by decide⟩
theorem ref_ix_nil {a : Ad} {g : Heap} {o sb : Addr} {nm : Str} (X : (hd.heap_39 w.params).In g) (T : Top V LS mean mg mb g) (D : Dat w g a)(R : RefT g o nm sb) (S0 : g.IsTuple sb #[]) (hi : (valueAt a.ix nm).isSome = true) : RefNil w a g o 8 :=
  fun dp un gd fr s Q E eg hdp hun hQ => ref_ix (X.keeps eg) (T.keeps eg) (by omega) (by omega) (D.ext eg) (R.ext eg) (isTuple_ext S0 eg) hi hQ
theorem ref_hit_nil {a : Ad} {g : Heap} {o sb x : Addr} {nm cat : Str} (X : (hd.heap_39 w.params).In g) (T : Top V LS mean mg mb g) (D : Dat w g a)(R : RefT g o nm sb) (S0 : g.IsTuple sb #[]) (hi : (valueAt a.ix nm).isSome = false) (H : Hit g a nm x cat 0) : RefNil w a g o 8 :=
  fun dp un gd fr s Q E eg hdp hun hQ => ref0_spec (X.keeps eg) (T.keeps eg) (by omega) (by omega) (D.ext eg) (R.ext eg) (isTuple_ext S0 eg) hi (H.ext eg) hQ
theorem cat_ix_is {a : Ad} {g : Heap} {o sb : Addr} {nm : Str} (X : (hd.heap_39 w.params).In g) (T : Top V LS mean mg mb g) (D : Dat w g a)(R : RefT g o nm sb) (hi : (valueAt a.ix nm).isSome = true) : CatIs w a g o (Str.ofString "index") :=
  fun dp un gd fr s Q E eg hdp hun hQ => cat_ix (X.keeps eg) (T.keeps eg) (by omega) (by omega) (D.ext eg) (R.ext eg) hi hQ
theorem cat_hit_is {a : Ad} {g : Heap} {o sb x : Addr} {nm cat : Str} (X : (hd.heap_39 w.params).In g) (T : Top V LS mean mg mb g) (D : Dat w g a)(R : RefT g o nm sb) (hi : (valueAt a.ix nm).isSome = false) {k : Nat} (H : Hit g a nm x cat k) : CatIs w a g o cat :=
  fun dp un gd fr s Q E eg hdp hun hQ => cat_ref (X.keeps eg) (T.keeps eg) (by omega) (by omega) (D.ext eg) (R.ext eg) (H.ext eg) hi hQ
theorem refTup {g : Heap} {o sb : Addr} {nm : Str} (R : RefT g o nm sb) : ∃ t0 t1 q, g.IsTuple o (.str (Str.ofString "ref") t0 :: .str nm t1 :: [.ref q, .ref sb, .none]).toArray := by
  obtain ⟨t0, t1, q, n, r0, r1⟩ := R
  exact ⟨t0, t1, q, _, r0, rfl, _, rfl⟩
theorem NfNil.le {a : Ad} {g : Heap} {o : Addr} {j k : Nat} (c : NfNil w a g o j) (h : j ≤ k) : NfNil w a g o k := fun dp un gd fr s Q E e h1 h2 hQ => c dp un gd fr s Q E e (by omega) (by omega) hQ
theorem OpNil.le {a : Ad} {g : Heap} {o : Addr} {j k : Nat} (c : OpNil w a g o j) (h : j ≤ k) : OpNil w a g o k := fun dp un gd fr s Q E e h1 h2 hQ => c dp un gd fr s Q E e (by omega) (by omega) hQ
theorem NfOne.le {a : Ad} {g : Heap} {o : Addr} {nm : Str} {j k : Nat} (c : NfOne w a g o nm j) (h : j ≤ k) : NfOne w a g o nm k := fun dp un gd fr s Q E e h1 h2 hQ => c dp un gd fr s Q E e (by omega) (by omega) hQ
theorem NfOne.ext {a : Ad} {g g' : Heap} {o : Addr} {nm : Str} {k : Nat} (c : NfOne w a g o nm k) (e : Ext g g') : NfOne w a g' o nm k := fun dp un gd fr s' Q E x => c dp un gd fr s' Q E (Ext.trans e x)
theorem NumIs.of {a : Ad} {g : Heap} {o : Addr} {b b' : Bool} (c : NumIs w a g o b) (h : b = b') : NumIs w a g o b' := h ▸ c
theorem leaf_ix {a : Ad} {g : Heap} {o sb : Addr} {nm : Str} (X : (hd.heap_39 w.params).In g) (T : Top V LS mean mg mb g) (D : Dat w g a)(R : RefT g o nm sb) (S0 : g.IsTuple sb #[]) (hi : (valueAt a.ix nm).isSome = true) : NfNil w a g o 10 := by
  obtain ⟨t0, t1, q, r⟩ := refTup R
  obtain ⟨h1, h2⟩ := nonOps (.inl rfl)
  exact nf_ok X T r h1 h2 (by decide) (opnil_ref X T (ref_ix_nil X T D R S0 hi) r) (NumIs.of (num_spec X T (cat_ix_is X T D R hi)) (by decide))
theorem leaf_hit {a : Ad} {g : Heap} {o sb x : Addr} {nm cat : Str} (X : (hd.heap_39 w.params).In g) (T : Top V LS mean mg mb g) (D : Dat w g a)(R : RefT g o nm sb) (S0 : g.IsTuple sb #[]) (hi : (valueAt a.ix nm).isSome = false) (H : Hit g a nm x cat 0) (hc : isNum cat = true) : NfNil w a g o 10 := by
  obtain ⟨t0, t1, q, r⟩ := refTup R
  obtain ⟨h1, h2⟩ := nonOps (.inl rfl)
  exact nf_ok X T r h1 h2 (by decide) (opnil_ref X T (ref_hit_nil X T D R S0 hi H) r) (NumIs.of (num_spec X T (cat_hit_is X T D R hi H)) hc)
theorem leaf_bad {a : Ad} {g : Heap} {o sb x : Addr} {nm cat : Str} (X : (hd.heap_39 w.params).In g) (T : Top V LS mean mg mb g) (D : Dat w g a)(R : RefT g o nm sb) (S0 : g.IsTuple sb #[]) (hi : (valueAt a.ix nm).isSome = false) (H : Hit g a nm x cat 0) (hc : isNum cat = false) : NfOne w a g o nm 10 := by
  obtain ⟨t0, t1, q, r⟩ := refTup R
  obtain ⟨h1, h2⟩ := nonOps (.inl rfl)
  exact nf_bad X T r h1 h2 (by decide) (opnil_ref X T (ref_hit_nil X T D R S0 hi H) r) (NumIs.of (num_spec X T (cat_hit_is X T D R hi H)) hc) (name_ref X T r)
theorem leaf_K {oi : Addr} {a : Ad} {g : Heap} {o sb x : Addr} {nm cat : Str} (X : (hd.heap_39 w.params).In g) (T : Top V LS mean mg mb g) (D : Dat w g a)(R : RefT g o nm sb) (S0 : g.IsTuple sb #[.ref oi]) (hi : (valueAt a.ix nm).isSome = false) (H : Hit g a nm x cat 1) (hc : isNum cat = true) (c : NfNil w a g oi 10) : NfNil w a g o 14 := by
  obtain ⟨t0, t1, q, r⟩ := refTup R
  obtain ⟨h1, h2⟩ := nonOps (.inl rfl)
  exact nf_ok X T r h1 h2 (by decide) (opnil_ref X T (ref_deep X T D R S0 hi H (by decide) (part_nil X T R S0 c)) r) (NumIs.of (num_spec X T (cat_hit_is X T D R hi H)) hc)
theorem leaf_num {a : Ad} {g : Heap} {o x : Addr} {n : Nat} {t0 : Tok} (X : (hd.heap_39 w.params).In g) (T : Top V LS mean mg mb g) (r0 : g.get? o = some (tupOf #[.str (Str.ofString "number") t0, .ref x] n)) : NfNil w a g o 10 := by
  have r : g.IsTuple o (.str (Str.ofString "number") t0 :: [.ref x]).toArray := ⟨_, r0, rfl, _, rfl⟩
  obtain ⟨h1, h2⟩ := nonOps (.inr (.inl rfl))
  exact nf_ok X T r h1 h2 (by decide) (opnil_non X T r (by decide)) (NumIs.of (num_spec X T fun dp un gd fr s Q E eg hdp hun hQ => cat_number (a := a) (X.keeps eg) (T.keeps eg) hdp hun (eg _ _ r0) hQ) (by decide))
theorem leaf_zero {a : Ad} {g : Heap} {o : Addr} {n : Nat} {t0 t1 : Tok} (X : (hd.heap_39 w.params).In g) (T : Top V LS mean mg mb g) (r0 : g.get? o = some (tupOf #[.str (Str.ofString "figure") t0, .str (Str.ofString "ZERO") t1] n)) : NfNil w a g o 10 := by
  have r : g.IsTuple o (.str (Str.ofString "figure") t0 :: [.str (Str.ofString "ZERO") t1]).toArray := ⟨_, r0, rfl, _, rfl⟩
  obtain ⟨h1, h2⟩ := nonOps (.inr (.inr (.inr rfl)))
  exact nf_ok X T r h1 h2 (by decide) (opnil_non X T r (by decide)) (NumIs.of (num_spec X T fun dp un gd fr s Q E eg hdp hun hQ => cat_zero (a := a) (X.keeps eg) (T.keeps eg) hdp hun (eg _ _ r0) hQ) (by decide))
theorem leaf_space {a : Ad} {g : Heap} {o : Addr} {n : Nat} {t0 t1 : Tok} (X : (hd.heap_39 w.params).In g) (T : Top V LS mean mg mb g) (r0 : g.get? o = some (tupOf #[.str (Str.ofString "figure") t0, .str (Str.ofString "SPACE") t1] n)) : NfOne w a g o (Str.ofString "a figure") 10 := by
  have r : g.IsTuple o (.str (Str.ofString "figure") t0 :: [.str (Str.ofString "SPACE") t1]).toArray := ⟨_, r0, rfl, _, rfl⟩
  obtain ⟨h1, h2⟩ := nonOps (.inr (.inr (.inr rfl)))
  exact nf_bad X T r h1 h2 (by decide) (opnil_non X T r (by decide)) (NumIs.of (num_spec X T fun dp un gd fr s Q E eg hdp hun hQ => cat_space (a := a) (X.keeps eg) (T.keeps eg) hdp hun (eg _ _ r0) hQ) (by decide)) (name_non X T r (by decide))
theorem leaf_text {a : Ad} {g : Heap} {o : Addr} {n : Nat} {t0 t1 : Tok} {b : Array UInt8} (X : (hd.heap_39 w.params).In g) (T : Top V LS mean mg mb g) (r0 : g.get? o = some (tupOf #[.str (Str.ofString "text") t0, .bytes b t1] n)) : NfOne w a g o (Str.ofString "a literal") 10 := by
  have r : g.IsTuple o (.str (Str.ofString "text") t0 :: [.bytes b t1]).toArray := ⟨_, r0, rfl, _, rfl⟩
  obtain ⟨h1, h2⟩ := nonOps (.inr (.inr (.inl rfl)))
  exact nf_bad X T r h1 h2 (by decide) (opnil_non X T r (by decide)) (NumIs.of (num_spec X T fun dp un gd fr s Q E eg hdp hun hQ => cat_text (a := a) (X.keeps eg) (T.keeps eg) hdp hun (eg _ _ r0) hQ) (by decide)) (name_non X T r (by decide))
end
section
-- Q23
example : True := by
  w_top off
  trivial
/-- the faults that were told, as the heap bears them -/
inductive PrM (P : Addr → Obj → Prop) : List Addr → List Str → Prop
  | nil : PrM P [] []
  | cons {p : Addr} {nm : Str} {ps : List Addr} {due : List Str} : (∃ wh t n, P p (tupOf #[wh, .str nm t] n)) → PrM P ps due → PrM P (p :: ps) (nm :: due)
noncomputable abbrev Prs (h h' : Heap) (ps : List Addr) (due : List Str) : Prop := PrM (fun p o => h'.get? p = some o ∧ h.get? p = none) ps due
theorem PrM.mono {P P' : Addr → Obj → Prop} {ps : List Addr} {due : List Str} (x : PrM P ps due) (h : ∀ a o, P a o → P' a o) : PrM P' ps due := by
  induction x with
  | nil => exact .nil
  | cons y _ ih =>
    obtain ⟨wh, t, n, q⟩ := y
    exact .cons ⟨wh, t, n, h _ _ q⟩ ih
theorem PrM.append {P : Addr → Obj → Prop} {ps ps' : List Addr} {due due' : List Str} (x : PrM P ps due) (y : PrM P ps' due') : PrM P (ps ++ ps') (due ++ due') := by
  induction x with
  | nil => exact y
  | cons z _ ih => exact .cons z ih
theorem PrM.length {P : Addr → Obj → Prop} {ps : List Addr} {due : List Str} (x : PrM P ps due) : ps.length = due.length := by
  induction x with
  | nil => rfl
  | cons _ _ ih => simp [ih]
/-- the faults' tuples, as a ledger -/
theorem Prs.ledger {h h' : Heap} {ps : List Addr} {due : List Str} (x : Prs h h' ps due) : ∃ sn : List (Addr × Obj), (∀ p ∈ sn, h'.get? p.1 = some p.2 ∧ h.get? p.1 = none) ∧ PrM (fun a o => (a, o) ∈ sn) ps due := by
  induction x with
  | nil => exact ⟨[], fun p hp => (nomatch hp), .nil⟩
  | cons y _ ih =>
    obtain ⟨wh, t, n, q⟩ := y
    obtain ⟨sn, h1, h2⟩ := ih
    refine ⟨(_, _) :: sn, fun p hp => ?_, .cons ⟨wh, t, n, .head _⟩ (h2.mono fun a o z => .tail _ z)⟩
    rcases List.mem_cons.mp hp with rfl | hp
    · exact q
    · exact h1 p hp
/-- an expression, as number_faults tells of it -/
inductive Ex (w : World) (a : Ad) (g : Heap) : Nat → Addr → List Str → Prop
  | nil {n : Nat} {o : Addr} : NfNil w a g o 14 → Ex w a g n o []
  | one {n : Nat} {o : Addr} {nm : Str} : NfOne w a g o nm 14 → Ex w a g n o [nm]
  | no {n : Nat} {o sb : Addr} {nm : Str} : RefT g o nm sb → g.IsTuple sb #[] → (valueAt a.ix nm).isSome = false → nm.length ≤ 100 → a.xs.filter (fun p => p.2 == nm) = [] → Ex w a g n o [nm]
  | neg {n k : Nat} {o one : Addr} {t : Tok} {due : List Str} : g.get? o = some (tupOf #[.str (Str.ofString "neg") t, .ref one] k) → Ex w a g n one due → Ex w a g (n + 1) o due
  | bin {n k : Nat} {o one other : Addr} {t : Tok} {op : Str} {d1 d2 : List Str} : g.get? o = some (tupOf #[.str op t, .ref one, .ref other] k) → (ops.any fun x => x == op) = true → (op == Str.ofString "neg") = false →
      Ex w a g n one d1 → Ex w a g n other d2 → Ex w a g (n + 1) o (d1 ++ d2)
theorem newsAddL {h₀ h h' g' : Heap} {L : Addr} {m : Str → Option Value} {news sn : List (Addr × Obj)} {fs : List Addr} (F : Fr h₀ L h m) (K : KtsTurn fs h₀ g') (hs : ∀ p ∈ sn, h'.get? p.1 = some p.2 ∧ h.get? p.1 = none) (N : News g' L h' news) : News g' L h' (news ++ sn) := by
  intro p hp
  rcases List.mem_append.mp hp with hp | hp
  · exact N p hp
  · exact ⟨(hs p hp).1, (noneOf F (hs p hp).2).1, K.none_ _ (noneOf F (hs p hp).2).2⟩
section
theorem nf_all {b₀ : Heap} {a : Ad} {o : Addr} {n : Nat} {due : List Str} (e : Ex w a b₀ n o due) : ∀ (dp un : Nat) (gd : Option (List Code)) (outer : List Env) (s : Shared) (Q E : Value → Shared → Prop), Cx w mean mg mb b₀ s.heap outer a → dp + n + 14 < 500 → un + 10 * n + 140 < 5000 → due.length ≤ 1000 →
    (∀ r ps n h' tk, ExtF (frs outer) s.heap h' → h'.get? r = some (listOf (ps.map Value.ref).toArray n) → s.heap.get? r = none → Prs s.heap h' ps due → Q (.ref r) { s with heap := h', toks := tk }) →
    wpAny (model PySem.Challenge.rw_og0093_01.row.prog w) (AT none dp (some outer) gd un) (call (.ref 293) [.ref a.d, .ref o]) Q E s := by
  induction e with
  | nil c =>
    intro dp un gd outer s Q E C hdp hun hl hQ
    exact c dp un gd _ s Q E C.st (by omega) (by omega) fun r n h' tk x1 x2 x3 => hQ r [] n h' tk (.of x1) x2 x3 .nil
  | one c =>
    intro dp un gd outer s Q E C hdp hun hl hQ
    exact c dp un gd _ s Q E C.st (by omega) (by omega) fun r n p wh t n2 h' tk x1 x2 x3 x4 x5 => hQ r [p] n h' tk (.of x1) x2 x3 (.cons ⟨wh, t, n2, x4, x5⟩ .nil)
  | no R S hi hnm hu =>
    intro dp un gd outer s Q E C hdp hun hl hQ
    exact nf_no C (by omega) (by omega) R S hi hnm hu fun r n p wh t n2 h' tk x1 x2 x3 x4 x5 => hQ r [p] n h' tk x1 x2 x3 (.cons ⟨wh, t, n2, x4, x5⟩ .nil)
  | @neg n k o one t due r0 _ ih =>
    intro dp un gd outer s Q E C hdp hun hl hQ
    have X := C.X.keeps C.st
    have T := C.T.keeps C.st
    have r1 : s.heap.IsTuple o #[.str (Str.ofString "neg") t, .ref one] := isTuple_ext ⟨_, r0, rfl, _, rfl⟩ C.st
    ((refine wpAny_call ?_; k_dflt (refine' code0 ?k19 ?k59 ?k69 ?k79 ?k89 ?k99 ?kB9 ?_ ?c29 ?c39 ?c49 ?c59; (case k19 => k_asm); (case k59 => k_asm); (case k69 => k_is); (case k79 => k_is); (case k89 => (simp only [recursionLimit]; omega)); (case k99 => first | exact BindsTo.of_eq rfl | exact binds_K (by k_in) rfl (by k_is) rfl rfl rfl); (case c59 => decide); (case kB9 => exact locs rfl); (case c29 => exact rfl); (case c39 => exact rfl); (case c49 => exact rfl); k_whole; intro L'9 h'9 F'9 N'9 X'9 T'9; (try dsimp only); (try k_fold))))
    (repeat' (first | wtm_at "s1" | ((fail_if_success fail_if_success with_reducible refine at_call ?_); (with_reducible refine hold_at 293 ?_)) | ((fail_if_success fail_if_success with_reducible refine at_bin ?_); ((with_reducible show wpAny _ _ (binaryOp _ (Value.ref _) (Value.ref _)) _ _ _); k_dflt (refine' kmk_add_lit ?F9 ?N9 ?a9 ?b9 ?e9 ?_ ?z9; (case F9 => k_asm); (case N9 => k_asm); (case a9 => is_list); (case b9 => is_list); (case e9 => exact rfl); (case z9 => (show _ ≤ 16777216; (try simp only [List.toList_toArray, List.length_map, List.length_zip, List.length_append, List.length_cons, List.length_nil]); omega))); intro D'9 h'9 F'9 N'9 l1; (try k_sweep))) | ((fail_if_success fail_if_success with_reducible refine at_cmp ?_); ((with_reducible show wpAny _ _ (compareOp CmpOp.Eq (Value.ref _) (Value.ref _)) _ _ _); k_dflt (first | (refine' eq_nil_t ?a9 ?b9 ?c9 ?_; (case b9 => is_list); (case a9 => is_list); (case c9 => units_room); k_whole) | (refine' eq_nil_f ?a9 ?b9 ?c9 ?d9 ?_; (case b9 => is_list); (case a9 => is_list); (case c9 => units_room); (case d9 => first | exact rfl | (rw [List.size_toArray, List.length_append]; exact rfl)); k_whole) | (refine' eq_nil ?a9 ?b9 ?c9 ?_; (case b9 => is_list); (case a9 => is_list); (case c9 => units_room); k_whole)))) | wtm_at "s2"))
    unfold Hold
    rename Fr _ _ _ _ => F0
    rename News _ _ _ _ => N0
    refine ih _ _ _ _ _ _ _ (C.push F0 (by exact rfl) (by exact rfl)) (by simp only [depth_deeper]; omega) (by simp only [units_deeper]; omega) hl ?_
    intro r ps n1 h' tk' x1 x2 x3 x4
    obtain ⟨g', K', F1, N1, C'⟩ := C.after F0 N0 rfl x1
    exact hQ _ _ _ _ _ (ExtF.turn K' F1.keep) x2 (noneOf F0 x3).2 (x4.mono fun b ob z => ⟨z.1, (noneOf F0 z.2).2⟩)
  | @bin n k o one other t op d1 d2 r0 hop hneg _ _ ih1 ih2 =>
    intro dp un gd outer s Q E C hdp hun hl hQ
    have X := C.X.keeps C.st
    have T := C.T.keeps C.st
    have r1 : s.heap.IsTuple o #[.str op t, .ref one, .ref other] := isTuple_ext ⟨_, r0, rfl, _, rfl⟩ C.st
    rw [List.length_append] at hl
    ((refine wpAny_call ?_; k_dflt (refine' code0 ?k19 ?k59 ?k69 ?k79 ?k89 ?k99 ?kB9 ?_ ?c29 ?c39 ?c49 ?c59; (case k19 => k_asm); (case k59 => k_asm); (case k69 => k_is); (case k79 => k_is); (case k89 => (simp only [recursionLimit]; omega)); (case k99 => first | exact BindsTo.of_eq rfl | exact binds_K (by k_in) rfl (by k_is) rfl rfl rfl); (case c59 => decide); (case kB9 => exact locs rfl); (case c29 => exact rfl); (case c39 => exact rfl); (case c49 => exact rfl); k_whole; intro L'9 h'9 F'9 N'9 X'9 T'9; (try dsimp only); (try k_fold))))
    (repeat' (first | wtm_at "s1" | ((fail_if_success fail_if_success with_reducible refine at_call ?_); (with_reducible refine hold_at 293 ?_)) | ((fail_if_success fail_if_success with_reducible refine at_bin ?_); ((with_reducible show wpAny _ _ (binaryOp _ (Value.ref _) (Value.ref _)) _ _ _); k_dflt (refine' kmk_add_lit ?F9 ?N9 ?a9 ?b9 ?e9 ?_ ?z9; (case F9 => k_asm); (case N9 => k_asm); (case a9 => is_list); (case b9 => is_list); (case e9 => exact rfl); (case z9 => (show _ ≤ 16777216; (try simp only [List.toList_toArray, List.length_map, List.length_zip, List.length_append, List.length_cons, List.length_nil]); omega))); intro D'9 h'9 F'9 N'9 l1; (try k_sweep))) | ((fail_if_success fail_if_success with_reducible refine at_cmp ?_); ((with_reducible show wpAny _ _ (compareOp CmpOp.Eq (Value.ref _) (Value.ref _)) _ _ _); k_dflt (first | (refine' eq_nil_t ?a9 ?b9 ?c9 ?_; (case b9 => is_list); (case a9 => is_list); (case c9 => units_room); k_whole) | (refine' eq_nil_f ?a9 ?b9 ?c9 ?d9 ?_; (case b9 => is_list); (case a9 => is_list); (case c9 => units_room); (case d9 => first | exact rfl | (rw [List.size_toArray, List.length_append]; exact rfl)); k_whole) | (refine' eq_nil ?a9 ?b9 ?c9 ?_; (case b9 => is_list); (case a9 => is_list); (case c9 => units_room); k_whole)))) | wtm_at "s2"))
    all_goals first | exact absurd hop (by rw [by assumption]; exact Bool.false_ne_true) | skip
    unfold Hold
    rename Fr _ _ _ _ => F0
    rename News _ _ _ _ => N0
    refine ih1 _ _ _ _ _ _ _ (C.push F0 (by exact rfl) (by exact rfl)) (by simp only [depth_deeper]; omega) (by simp only [units_deeper]; omega) (by omega) ?_
    intro ra psa na ha tka x1 x2 x3 x4
    obtain ⟨ga, Ka, F1, N1, Ca⟩ := C.after F0 N0 rfl x1
    obtain ⟨sn, hsn, M1⟩ := x4.ledger
    have N2 := newsAddL F0 Ka hsn (newsAddF F0 Ka x2 x3 N1)
    simp only [List.cons_append, List.nil_append] at N2
    have hpa := x4.length
    clear F0 N0 N1 X T x1 x2 x3 x4
    rename Frag.In _ _ => Xo
    rename Top _ _ _ _ _ _ => To
    clear Xo To r1
    have X := Ca.X.keeps Ca.st
    have T := Ca.T.keeps Ca.st
    have r1 : ga.IsTuple o #[.str op t, .ref one, .ref other] := isTuple_ext ⟨_, r0, rfl, _, rfl⟩ Ca.st
    (repeat' (first | wtm_at "s1" | ((fail_if_success fail_if_success with_reducible refine at_call ?_); (with_reducible refine hold_at 293 ?_)) | ((fail_if_success fail_if_success with_reducible refine at_bin ?_); ((with_reducible show wpAny _ _ (binaryOp _ (Value.ref _) (Value.ref _)) _ _ _); k_dflt (refine' kmk_add_lit ?F9 ?N9 ?a9 ?b9 ?e9 ?_ ?z9; (case F9 => k_asm); (case N9 => k_asm); (case a9 => is_list); (case b9 => is_list); (case e9 => exact rfl); (case z9 => (show _ ≤ 16777216; (try simp only [List.toList_toArray, List.length_map, List.length_zip, List.length_append, List.length_cons, List.length_nil]); omega))); intro D'9 h'9 F'9 N'9 l1; (try k_sweep))) | ((fail_if_success fail_if_success with_reducible refine at_cmp ?_); ((with_reducible show wpAny _ _ (compareOp CmpOp.Eq (Value.ref _) (Value.ref _)) _ _ _); k_dflt (first | (refine' eq_nil_t ?a9 ?b9 ?c9 ?_; (case b9 => is_list); (case a9 => is_list); (case c9 => units_room); k_whole) | (refine' eq_nil_f ?a9 ?b9 ?c9 ?d9 ?_; (case b9 => is_list); (case a9 => is_list); (case c9 => units_room); (case d9 => first | exact rfl | (rw [List.size_toArray, List.length_append]; exact rfl)); k_whole) | (refine' eq_nil ?a9 ?b9 ?c9 ?_; (case b9 => is_list); (case a9 => is_list); (case c9 => units_room); k_whole)))) | wtm_at "s2"))
    unfold Hold
    refine ih2 _ _ _ _ _ _ _ (Ca.push F1 (by exact rfl) (by exact rfl)) (by simp only [depth_deeper]; omega) (by simp only [units_deeper]; omega) (by omega) ?_
    intro rb psb nb hb tkb y1 y2 y3 y4
    obtain ⟨gb, Kb, F3, N3, Cb⟩ := Ca.after F1 N2 rfl y1
    obtain ⟨sm, hsm, M2⟩ := y4.ledger
    have N4 := newsAddL F1 Kb hsm (newsAddF F1 Kb y2 y3 N3)
    simp only [List.cons_append, List.nil_append] at N4
    have hpb := y4.length
    clear F1 N2 N3 X T y1 y2 y3 y4 r1
    have X := Cb.X.keeps Cb.st
    have T := Cb.T.keeps Cb.st
    (repeat' (first | wtm_at "s1" | ((fail_if_success fail_if_success with_reducible refine at_call ?_); (with_reducible refine hold_at 293 ?_)) | ((fail_if_success fail_if_success with_reducible refine at_bin ?_); ((with_reducible show wpAny _ _ (binaryOp _ (Value.ref _) (Value.ref _)) _ _ _); k_dflt (refine' kmk_add_lit ?F9 ?N9 ?a9 ?b9 ?e9 ?_ ?z9; (case F9 => k_asm); (case N9 => k_asm); (case a9 => is_list); (case b9 => is_list); (case e9 => exact rfl); (case z9 => (show _ ≤ 16777216; (try simp only [List.toList_toArray, List.length_map, List.length_zip, List.length_append, List.length_cons, List.length_nil]); omega))); intro D'9 h'9 F'9 N'9 l1; (try k_sweep))) | ((fail_if_success fail_if_success with_reducible refine at_cmp ?_); ((with_reducible show wpAny _ _ (compareOp CmpOp.Eq (Value.ref _) (Value.ref _)) _ _ _); k_dflt (first | (refine' eq_nil_t ?a9 ?b9 ?c9 ?_; (case b9 => is_list); (case a9 => is_list); (case c9 => units_room); k_whole) | (refine' eq_nil_f ?a9 ?b9 ?c9 ?d9 ?_; (case b9 => is_list); (case a9 => is_list); (case c9 => units_room); (case d9 => first | exact rfl | (rw [List.size_toArray, List.length_append]; exact rfl)); k_whole) | (refine' eq_nil ?a9 ?b9 ?c9 ?_; (case b9 => is_list); (case a9 => is_list); (case c9 => units_room); k_whole)))) | wtm_at "s2"))
    rename News _ _ _ _ => N9
    rename Fr _ _ _ _ => F9
    have z1 := N9.get (.head _)
    refine hQ _ (psa ++ psb) _ _ _ (ExtF.turn (Ka.trans Kb) F9.keep) (by simpa only [List.map_append, List.toList_toArray] using z1) (turn_none Ka (turn_none Kb (N9.fresh (.head _)))) (.append (M1.mono fun b ob z => ?_) (M2.mono fun b ob z => ?_))
    · have z2 := N9 (b, ob) (.tail _ (.tail _ (.tail _ (.tail _ (List.mem_append_left _ z)))))
      exact ⟨z2.1, turn_none Ka (turn_none Kb z2.2.2)⟩
    · have z2 := N9 (b, ob) (.tail _ (.tail _ (.tail _ (.tail _ (List.mem_append_right _ z)))))
      exact ⟨z2.1, turn_none Ka (turn_none Kb z2.2.2)⟩
end
end
section
-- Q24
example : True := by
  w_top off
  trivial
section
theorem place_ok {a : Ad} {o sb cs : Addr} {nm cat : Str} {items : List Value} {cats : List Str} {k : Nat} (hk : 8 ≤ k) (X : (hd.heap_39 w.params).In s.heap) (T : Top V LS mean mg mb s.heap) (hdp : dp + (k + 1) < 900) (hun : un + 10 * (k + 1) < 9000) (R : RefT s.heap o nm sb) (c : RefNil w a s.heap o k) (c2 : CatIs w a s.heap o cat) (ct : s.heap.IsTuple cs items.toArray) (st : StrsAre items cats) (hc : (cats.any fun x => x == cat) = true)
    (hQ : ∀ r n h' tk, Ext s.heap h' → h'.get? r = some (listOf #[] n) → s.heap.get? r = none → Q (.ref r) { s with heap := h', toks := tk }) : wpAny (model PySem.Challenge.rw_og0093_01.row.prog w) (AT none dp fr gd un) (call (.ref 307) [.ref a.d, .ref o, .ref cs]) Q E s := by
  obtain ⟨t0, t1, q, n, r0, r1⟩ := id R
  have r2 : s.heap.IsTuple o #[.str (Str.ofString "ref") t0, .str nm t1, .ref q, .ref sb, .none] := ⟨_, r0, rfl, _, rfl⟩
  ((refine wpAny_call ?_; k_dflt (refine' code0 ?k19 ?k59 ?k69 ?k79 ?k89 ?k99 ?kB9 ?_ ?c29 ?c39 ?c49 ?c59; (case k19 => k_asm); (case k59 => k_asm); (case k69 => k_is); (case k79 => k_is); (case k89 => (simp only [recursionLimit]; omega)); (case k99 => first | exact BindsTo.of_eq rfl | exact binds_K (by k_in) rfl (by k_is) rfl rfl rfl); (case c59 => decide); (case kB9 => exact locs rfl); (case c29 => exact rfl); (case c39 => exact rfl); (case c49 => exact rfl); k_whole; intro L'9 h'9 F'9 N'9 X'9 T'9; (try dsimp only); (try k_fold))))
  (repeat' (first | wtm_at "s1" | ((fail_if_success fail_if_success with_reducible refine at_call ?_); (first | ((with_reducible show wpAny _ _ (call (Value.ref 279) _) _ _ _); k_dflt (refine' CatIs.use (by assumption) ?sX9 ?sd9 ?su9 ?_; (case sX9 => exact Fr.keep (by k_asm)); (case sd9 => first | exact rm1 hdp rfl rfl | wtm_at "D"); (case su9 => first | exact um1 hun rfl rfl | wtm_at "U"); k_whole); intro t'9 h'9 tk'9 hE'9; wtm_at "PK") | ((with_reducible show wpAny _ _ (call (Value.ref 265) _) _ _ _); k_dflt (refine' RefNil.use (by assumption) ?sX9 ?sd9 ?su9 ?_; (case sX9 => exact Fr.keep (by k_asm)); (case sd9 => first | exact rm1 hdp rfl rfl | wtm_at "D"); (case su9 => first | exact um1 hun rfl rfl | wtm_at "U"); k_whole); intro r'9 n'9 h'9 tk'9 hE'9 ho'9 hr'9; wtm_at "PA"))) | ((fail_if_success fail_if_success with_reducible refine at_cmp ?_); ((with_reducible show wpAny _ _ (compareOp CmpOp.Eq (Value.ref _) (Value.ref _)) _ _ _); k_dflt (first | (refine' eq_nil_t ?a9 ?b9 ?c9 ?_; (case b9 => is_list); (case a9 => is_list); (case c9 => units_room); k_whole) | (refine' eq_nil_f ?a9 ?b9 ?c9 ?d9 ?_; (case b9 => is_list); (case a9 => is_list); (case c9 => units_room); (case d9 => first | exact rfl | (rw [List.size_toArray, List.length_append]; exact rfl)); k_whole) | (refine' eq_nil ?a9 ?b9 ?c9 ?_; (case b9 => is_list); (case a9 => is_list); (case c9 => units_room); k_whole)))) | wtm_at "s2"))
  refine' hQ _ _ _ _ ?e1 ?e2 ?e3
  (case e1 => exact Fr.keep (by assumption))
  (case e2 => exact News.get (by assumption) (by k_mem))
  (case e3 => exact News.fresh (by assumption) (by k_mem))
theorem place_bad {a : Ad} {o sb cs : Addr} {nm cat : Str} {items : List Value} {cats : List Str} {k : Nat} (hk : 8 ≤ k) (X : (hd.heap_39 w.params).In s.heap) (T : Top V LS mean mg mb s.heap) (hdp : dp + (k + 1) < 900) (hun : un + 10 * (k + 1) < 9000) (R : RefT s.heap o nm sb) (c : RefNil w a s.heap o k) (c2 : CatIs w a s.heap o cat) (ct : s.heap.IsTuple cs items.toArray) (st : StrsAre items cats) (hc : (cats.any fun x => x == cat) = false)
    (hQ : ∀ r n p wh t n2 h' tk, Ext s.heap h' → h'.get? r = some (listOf #[.ref p] n) → s.heap.get? r = none → h'.get? p = some (tupOf #[wh, .str nm t] n2) → s.heap.get? p = none → Q (.ref r) { s with heap := h', toks := tk }) : wpAny (model PySem.Challenge.rw_og0093_01.row.prog w) (AT none dp fr gd un) (call (.ref 307) [.ref a.d, .ref o, .ref cs]) Q E s := by
  obtain ⟨t0, t1, q, n, r0, r1⟩ := id R
  have r2 : s.heap.IsTuple o #[.str (Str.ofString "ref") t0, .str nm t1, .ref q, .ref sb, .none] := ⟨_, r0, rfl, _, rfl⟩
  ((refine wpAny_call ?_; k_dflt (refine' code0 ?k19 ?k59 ?k69 ?k79 ?k89 ?k99 ?kB9 ?_ ?c29 ?c39 ?c49 ?c59; (case k19 => k_asm); (case k59 => k_asm); (case k69 => k_is); (case k79 => k_is); (case k89 => (simp only [recursionLimit]; omega)); (case k99 => first | exact BindsTo.of_eq rfl | exact binds_K (by k_in) rfl (by k_is) rfl rfl rfl); (case c59 => decide); (case kB9 => exact locs rfl); (case c29 => exact rfl); (case c39 => exact rfl); (case c49 => exact rfl); k_whole; intro L'9 h'9 F'9 N'9 X'9 T'9; (try dsimp only); (try k_fold))))
  (repeat' (first | wtm_at "s1" | ((fail_if_success fail_if_success with_reducible refine at_call ?_); (first | ((with_reducible show wpAny _ _ (call (Value.ref 279) _) _ _ _); k_dflt (refine' CatIs.use (by assumption) ?sX9 ?sd9 ?su9 ?_; (case sX9 => exact Fr.keep (by k_asm)); (case sd9 => first | exact rm1 hdp rfl rfl | wtm_at "D"); (case su9 => first | exact um1 hun rfl rfl | wtm_at "U"); k_whole); intro t'9 h'9 tk'9 hE'9; wtm_at "PK") | ((with_reducible show wpAny _ _ (call (Value.ref 265) _) _ _ _); k_dflt (refine' RefNil.use (by assumption) ?sX9 ?sd9 ?su9 ?_; (case sX9 => exact Fr.keep (by k_asm)); (case sd9 => first | exact rm1 hdp rfl rfl | wtm_at "D"); (case su9 => first | exact um1 hun rfl rfl | wtm_at "U"); k_whole); intro r'9 n'9 h'9 tk'9 hE'9 ho'9 hr'9; wtm_at "PA"))) | ((fail_if_success fail_if_success with_reducible refine at_cmp ?_); ((with_reducible show wpAny _ _ (compareOp CmpOp.Eq (Value.ref _) (Value.ref _)) _ _ _); k_dflt (first | (refine' eq_nil_t ?a9 ?b9 ?c9 ?_; (case b9 => is_list); (case a9 => is_list); (case c9 => units_room); k_whole) | (refine' eq_nil_f ?a9 ?b9 ?c9 ?d9 ?_; (case b9 => is_list); (case a9 => is_list); (case c9 => units_room); (case d9 => first | exact rfl | (rw [List.size_toArray, List.length_append]; exact rfl)); k_whole) | (refine' eq_nil ?a9 ?b9 ?c9 ?_; (case b9 => is_list); (case a9 => is_list); (case c9 => units_room); k_whole)))) | wtm_at "s2"))
  rename News _ _ _ _ => N9
  rename Fr _ _ _ _ => F9
  exact hQ _ _ _ _ _ _ _ _ F9.keep (N9.get (by k_mem)) (N9.fresh (by k_mem)) (N9.get (.head _)) (N9.fresh (.head _))
end
section
theorem place_no {cs : Addr} {items : List Value} {b₀ : Heap} {a : Ad} {o sb : Addr} {nm : Str} {outer : List Env} (C : Cx w mean mg mb b₀ s.heap outer a) (hdp : dp + 10 < 500) (hun : un + 100 < 5000) (R0 : RefT b₀ o nm sb) (S0 : b₀.IsTuple sb #[]) (hi : (valueAt a.ix nm).isSome = false) (hnm : nm.length ≤ 100) (hu : a.xs.filter (fun p => p.2 == nm) = []) (ct : s.heap.IsTuple cs items.toArray)
    (hQ : ∀ r n p wh t n2 h' tk, ExtF (frs outer) s.heap h' → h'.get? r = some (listOf #[.ref p] n) → s.heap.get? r = none → h'.get? p = some (tupOf #[wh, .str nm t] n2) → s.heap.get? p = none → Q (.ref r) { s with heap := h', toks := tk }) :
    wpAny (model PySem.Challenge.rw_og0093_01.row.prog w) (AT none dp (some outer) gd un) (call (.ref 307) [.ref a.d, .ref o, .ref cs]) Q E s := by
  have X := C.X.keeps C.st
  have T := C.T.keeps C.st
  obtain ⟨t0, t1, q, n, r0, r1⟩ := id R0
  have r2 : s.heap.IsTuple o #[.str (Str.ofString "ref") t0, .str nm t1, .ref q, .ref sb, .none] := isTuple_ext ⟨_, r0, rfl, _, rfl⟩ C.st
  ((refine wpAny_call ?_; k_dflt (refine' code0 ?k19 ?k59 ?k69 ?k79 ?k89 ?k99 ?kB9 ?_ ?c29 ?c39 ?c49 ?c59; (case k19 => k_asm); (case k59 => k_asm); (case k69 => k_is); (case k79 => k_is); (case k89 => (simp only [recursionLimit]; omega)); (case k99 => first | exact BindsTo.of_eq rfl | exact binds_K (by k_in) rfl (by k_is) rfl rfl rfl); (case c59 => decide); (case kB9 => exact locs rfl); (case c29 => exact rfl); (case c39 => exact rfl); (case c49 => exact rfl); k_whole; intro L'9 h'9 F'9 N'9 X'9 T'9; (try dsimp only); (try k_fold))))
  (repeat' (first | wtm_at "s1" | ((fail_if_success fail_if_success with_reducible refine at_call ?_); (with_reducible refine hold_at 265 ?_)) | ((fail_if_success fail_if_success with_reducible refine at_cmp ?_); ((with_reducible show wpAny _ _ (compareOp CmpOp.Eq (Value.ref _) (Value.ref _)) _ _ _); k_dflt (first | (refine' eq_nil_t ?a9 ?b9 ?c9 ?_; (case b9 => is_list); (case a9 => is_list); (case c9 => units_room); k_whole) | (refine' eq_nil_f ?a9 ?b9 ?c9 ?d9 ?_; (case b9 => is_list); (case a9 => is_list); (case c9 => units_room); (case d9 => first | exact rfl | (rw [List.size_toArray, List.length_append]; exact rfl)); k_whole) | (refine' eq_nil ?a9 ?b9 ?c9 ?_; (case b9 => is_list); (case a9 => is_list); (case c9 => units_room); k_whole)))) | wtm_at "s2"))
  unfold Hold
  rename Fr _ _ _ _ => F0
  rename News _ _ _ _ => N0
  refine ref_no (C.push F0 (by exact rfl) (by exact rfl)) (by simp only [depth_deeper]; omega) (by simp only [units_deeper]; omega) R0 S0 hi hnm hu ?_
  intro r n1 p wh t n2 h' tk' x1 x2 x3 x4 x5
  obtain ⟨g', K', F1, N1, C'⟩ := C.after F0 N0 rfl x1
  have N2 := newsAddF F0 K' x2 x3 (newsAddF F0 K' x4 x5 N1)
  clear F0 N0 N1 X T
  rename Frag.In _ _ => Xo
  rename Top _ _ _ _ _ _ => To
  clear Xo To
  have X := C'.X.keeps C'.st
  have T := C'.T.keeps C'.st
  (repeat' (first | wtm_at "s1" | ((fail_if_success fail_if_success with_reducible refine at_call ?_); (with_reducible refine hold_at 265 ?_)) | ((fail_if_success fail_if_success with_reducible refine at_cmp ?_); ((with_reducible show wpAny _ _ (compareOp CmpOp.Eq (Value.ref _) (Value.ref _)) _ _ _); k_dflt (first | (refine' eq_nil_t ?a9 ?b9 ?c9 ?_; (case b9 => is_list); (case a9 => is_list); (case c9 => units_room); k_whole) | (refine' eq_nil_f ?a9 ?b9 ?c9 ?d9 ?_; (case b9 => is_list); (case a9 => is_list); (case c9 => units_room); (case d9 => first | exact rfl | (rw [List.size_toArray, List.length_append]; exact rfl)); k_whole) | (refine' eq_nil ?a9 ?b9 ?c9 ?_; (case b9 => is_list); (case a9 => is_list); (case c9 => units_room); k_whole)))) | wtm_at "s2"))
  rename News _ _ _ _ => N9
  rename Fr _ _ _ _ => F9
  exact hQ _ _ _ _ _ _ _ _ (ExtF.turn K' F9.keep) (N9.get (.tail _ (.head _))) (turn_none K' (N9.fresh (.tail _ (.head _)))) (N9.get (.tail _ (.tail _ (.head _)))) (turn_none K' (N9.fresh (.tail _ (.tail _ (.head _)))))
end
/-- a reference, as a place -/
inductive Pk (w : World) (a : Ad) (g : Heap) : Addr → Str → Option Str → Prop
  | known {o sb : Addr} {nm cat : Str} : RefT g o nm sb → RefNil w a g o 8 → CatIs w a g o cat → Pk w a g o nm (some cat)
  | no {o sb : Addr} {nm : Str} : RefT g o nm sb → g.IsTuple sb #[] → (valueAt a.ix nm).isSome = false → nm.length ≤ 100 → a.xs.filter (fun p => p.2 == nm) = [] → Pk w a g o nm none
noncomputable def dueOf (nm : Str) (cats : List Str) : Option Str → List Str
  | some cat => if (cats.any fun x => x == cat) = true then [] else [nm]
  | none => [nm]
theorem place_gen {b₀ : Heap} {a : Ad} {o cs : Addr} {nm : Str} {kc : Option Str} {items : List Value} {cats : List Str} {outer : List Env} (p : Pk w a b₀ o nm kc) (C : Cx w mean mg mb b₀ s.heap outer a) (hdp : dp + 10 < 500) (hun : un + 100 < 5000)
    (ct : s.heap.IsTuple cs items.toArray) (st : StrsAre items cats) (hQ : ∀ r ps n h' tk, ExtF (frs outer) s.heap h' → h'.get? r = some (listOf (ps.map Value.ref).toArray n) → s.heap.get? r = none → Prs s.heap h' ps (dueOf nm cats kc) → Q (.ref r) { s with heap := h', toks := tk }) :
    wpAny (model PySem.Challenge.rw_og0093_01.row.prog w) (AT none dp (some outer) gd un) (call (.ref 307) [.ref a.d, .ref o, .ref cs]) Q E s := by
  cases p with
  | @known sb _ cat R c c2 =>
    have X := C.X.keeps C.st
    have T := C.T.keeps C.st
    have c' : RefNil w a s.heap o 8 := fun dp un gd fr s' Q E x => c dp un gd fr s' Q E (Ext.trans C.st x)
    have c2' : CatIs w a s.heap o cat := fun dp un gd fr s' Q E x => c2 dp un gd fr s' Q E (Ext.trans C.st x)
    cases hc : cats.any fun x => x == cat with
    | true =>
      have hd : dueOf nm cats (some cat) = [] := if_pos hc
      rw [hd] at hQ
      exact place_ok (Nat.le_refl _) X T (by omega) (by omega) (R.ext C.st) c' c2' ct st hc fun r n h' tk x1 x2 x3 => hQ r [] n h' tk (.of x1) x2 x3 .nil
    | false =>
      have hd : dueOf nm cats (some cat) = [nm] := if_neg (by rw [hc]; exact Bool.false_ne_true)
      rw [hd] at hQ
      exact place_bad (Nat.le_refl _) X T (by omega) (by omega) (R.ext C.st) c' c2' ct st hc fun r n p wh t n2 h' tk x1 x2 x3 x4 x5 => hQ r [p] n h' tk (.of x1) x2 x3 (.cons ⟨wh, t, n2, x4, x5⟩ .nil)
  | no R S hi hnm hu =>
    exact place_no C hdp hun R S hi hnm hu ct fun r n p wh t n2 h' tk x1 x2 x3 x4 x5 => hQ r [p] n h' tk x1 x2 x3 (.cons ⟨wh, t, n2, x4, x5⟩ .nil)
end
section
-- Q25
example : True := by
  w_top off
  trivial
section
theorem counter_none {d : Addr} (X : (hd.heap_39 w.params).In s.heap) (T : Top V LS mean mg mb s.heap) (hdp : dp + 1 < 900) (hun : un + 10 < 9000)
    (hQ : ∀ r n h' tk, Ext s.heap h' → h'.get? r = some (listOf #[] n) → s.heap.get? r = none → Q (.ref r) { s with heap := h', toks := tk }) : wpAny (model PySem.Challenge.rw_og0093_01.row.prog w) (AT none dp fr gd un) (call (.ref 314) [.ref d, .none]) Q E s := by
  ((refine wpAny_call ?_; k_dflt (refine' code0 ?k19 ?k59 ?k69 ?k79 ?k89 ?k99 ?kB9 ?_ ?c29 ?c39 ?c49 ?c59; (case k19 => k_asm); (case k59 => k_asm); (case k69 => k_is); (case k79 => k_is); (case k89 => (simp only [recursionLimit]; omega)); (case k99 => first | exact BindsTo.of_eq rfl | exact binds_K (by k_in) rfl (by k_is) rfl rfl rfl); (case c59 => decide); (case kB9 => exact locs rfl); (case c29 => exact rfl); (case c39 => exact rfl); (case c49 => exact rfl); k_whole; intro L'9 h'9 F'9 N'9 X'9 T'9; (try dsimp only); (try k_fold))))
  (repeat' (first | wtm_at "s1" | ((fail_if_success fail_if_success with_reducible refine at_call ?_); (with_reducible refine hold_at 307 ?_)) | wtm_at "s2"))
  refine' hQ _ _ _ _ ?e1 ?e2 ?e3
  (case e1 => exact Fr.keep (by assumption))
  (case e2 => exact News.get (by assumption) (by k_mem))
  (case e3 => exact News.fresh (by assumption) (by k_mem))
theorem counter_gen {b₀ : Heap} {a : Ad} {o : Addr} {nm : Str} {kc : Option Str} {outer : List Env} (p : Pk w a b₀ o nm kc) (C : Cx w mean mg mb b₀ s.heap outer a) (hdp : dp + 11 < 500) (hun : un + 110 < 5000)
    (hQ : ∀ r ps n h' tk, ExtF (frs outer) s.heap h' → h'.get? r = some (listOf (ps.map Value.ref).toArray n) → s.heap.get? r = none → Prs s.heap h' ps (dueOf nm [Str.ofString "numeric"] kc) → Q (.ref r) { s with heap := h', toks := tk }) :
    wpAny (model PySem.Challenge.rw_og0093_01.row.prog w) (AT none dp (some outer) gd un) (call (.ref 314) [.ref a.d, .ref o]) Q E s := by
  have X := C.X.keeps C.st
  have T := C.T.keeps C.st
  ((refine wpAny_call ?_; k_dflt (refine' code0 ?k19 ?k59 ?k69 ?k79 ?k89 ?k99 ?kB9 ?_ ?c29 ?c39 ?c49 ?c59; (case k19 => k_asm); (case k59 => k_asm); (case k69 => k_is); (case k79 => k_is); (case k89 => (simp only [recursionLimit]; omega)); (case k99 => first | exact BindsTo.of_eq rfl | exact binds_K (by k_in) rfl (by k_is) rfl rfl rfl); (case c59 => decide); (case kB9 => exact locs rfl); (case c29 => exact rfl); (case c39 => exact rfl); (case c49 => exact rfl); k_whole; intro L'9 h'9 F'9 N'9 X'9 T'9; (try dsimp only); (try k_fold))))
  (repeat' (first | wtm_at "s1" | ((fail_if_success fail_if_success with_reducible refine at_call ?_); (with_reducible refine hold_at 307 ?_)) | wtm_at "s2"))
  unfold Hold
  rename Fr _ _ _ _ => F0
  rename News _ _ _ _ => N0
  refine place_gen p (C.push F0 (by exact rfl) (by exact rfl)) (by simp only [depth_deeper]; omega) (by simp only [units_deeper]; omega) (N0.isTup (.head _)) (.cons _ _ .nil) ?_
  intro r ps n1 h' tk' x1 x2 x3 x4
  obtain ⟨g', K', F1, N1, C'⟩ := C.after F0 N0 rfl x1
  exact hQ _ _ _ _ _ (ExtF.turn K' F1.keep) x2 (noneOf F0 x3).2 (x4.mono fun b ob z => ⟨z.1, (noneOf F0 z.2).2⟩)
end
end
section
-- Q26
example : True := by
  w_top off
  trivial
/-- the rows of an arithmetic statement -/
inductive Rw (w : World) (a : Ad) (g : Heap) : List Value → List Str → Prop
  | nil : Rw w a g [] []
  | cons {row o : Addr} {nm way : Str} {kc : Option Str} {t : Tok} {n : Nat} {vs : List Value} {due : List Str} : g.get? row = some (tupOf #[.ref o, .bool false, .str way t] n) → Pk w a g o nm kc → Rw w a g vs due →
      Rw w a g (.ref row :: vs) (dueOf nm (if (way == Str.ofString "=") = true then [Str.ofString "numeric", Str.ofString "edited"] else [Str.ofString "numeric"]) kc ++ due)
/-- a heap without one object -/
noncomputable abbrev but (h : Heap) (x : Addr) : Heap := hideAll h [x]
theorem but_get {h : Heap} {x b : Addr} {o : Obj} (e : h.get? b = some o) (n : b ≠ x) : (but h x).get? b = some o := hideAll_get _ e fun m => n (List.mem_singleton.mp m)
theorem of_but {h : Heap} {x b : Addr} {o : Obj} (e : (but h x).get? b = some o) : b ≠ x ∧ h.get? b = some o := by
  refine ⟨?_, of_hideAll _ e⟩
  rintro rfl
  rw [hideAll_none _ (.head _)] at e; cases e
theorem but_none {h : Heap} {x : Addr} : (but h x).get? x = none := hideAll_none _ (.head _)
theorem Cx.push1 {b₀ hs h : Heap} {a : Ad} {env env1 : Env} {L L1 : Addr} {oL : Obj} {m : Str → Option Value} {sl : Array (Option Value)} (C : Cx w mean mg mb b₀ hs [env1] a) (hf1 : env1.frame = some L1) (hL : hs.get? L1 = some oL) (F : Fr (but hs L1) L h m)
    (h1 : h.get? L1 = some { oL with slots := sl }) (hf : env.frame = some L) (hk : env.scope.kind = .function) : Cx w mean mg mb b₀ h [env, env1] a := by
  obtain ⟨st, ⟨k1, ⟨L1', o1, q1, q2, q3, q4⟩, _⟩, X, T, D⟩ := C
  obtain rfl : L1' = L1 := Option.some.inj (q1.symm.trans hf1)
  obtain rfl : o1 = oL := Option.some.inj (q3.symm.trans hL)
  have hb : Ext b₀ (but hs L1') := fun b o q => but_get (st _ _ q) fun z => by rw [z, q2] at q; cases q
  refine ⟨Ext.trans hb F.keep, .cons (by rw [hk]; decide) hf F.ns ?_ ⟨k1, ⟨L1', _, hf1, q2, h1, q4⟩, trivial⟩, X, T, D⟩
  cases q : b₀.get? L with
  | none => rfl
  | some o => exact absurd (Nat.lt_of_lt_of_le (Heap.lt_size (hb _ _ q)) F.above) (Nat.lt_irrefl _)
theorem after1 {hs h h' : Heap} {env env1 : Env} {L L1 : Addr} {oL : Obj} {m : Str → Option Value} {sl : Array (Option Value)} {news rest : List (Addr × Obj)} (hf1 : env1.frame = some L1) (hf : env.frame = some L) (F : Fr (but hs L1) L h m) (N : News (but hs L1) L h news)
    (hm : (L1, { oL with slots := sl }) ∈ news) (hr : ∀ p ∈ rest, p ∈ news ∧ p.1 ≠ L1) (x : ExtF (frs [env, env1]) h h') : ∃ sl', Fr (but hs L1) L h' m ∧ News (but hs L1) L h' ((L1, { oL with slots := sl' }) :: rest) := by
  have hfr : frs [env, env1] = [L, L1] := by rw [frs, List.filterMap_cons, hf, List.filterMap_cons, hf1, List.filterMap_nil]
  rw [hfr] at x
  have z1 := N _ hm
  obtain ⟨sl', hsl⟩ := x.2 _ _ z1.1 (.tail _ (.head _))
  refine ⟨sl', ⟨?_, fun b o q => x.1 _ _ (F.keep _ _ q) fun hb => ?_, F.above⟩, fun p hp => ?_⟩
  · obtain ⟨o, es, ep, ho, hd, r⟩ := F.ns
    obtain ⟨sl2, hs2⟩ := x.2 _ _ ho (.head _)
    exact ⟨_, es, ep, hs2, hd, r⟩
  · rcases List.mem_cons.mp hb with rfl | hb
    · exact absurd (Nat.lt_of_lt_of_le (Heap.lt_size q) F.above) (Nat.lt_irrefl _)
    · rw [List.mem_singleton.mp hb, but_none] at q; cases q
  · rcases List.mem_cons.mp hp with rfl | hp
    · exact ⟨hsl, z1.2.1, but_none⟩
    · have z2 := N _ (hr p hp).1
      refine ⟨x.1 _ _ z2.1 fun hb => ?_, z2.2⟩
      rcases List.mem_cons.mp hb with z | hb
      · exact z2.2.1 z
      · exact (hr p hp).2 (List.mem_singleton.mp hb)
theorem newsAdd1 {B h h' : Heap} {L : Addr} {m : Str → Option Value} {news sn : List (Addr × Obj)} (F : Fr B L h m) (hs : ∀ p ∈ sn, h'.get? p.1 = some p.2 ∧ h.get? p.1 = none) (N : News B L h' news) : News B L h' (sn ++ news) := by
  intro p hp
  rcases List.mem_append.mp hp with hp | hp
  · exact ⟨(hs p hp).1, noneOf F (hs p hp).2⟩
  · exact N p hp
theorem prm_tuples {P : Addr → Obj → Prop} {ps : List Addr} {due : List Str} (x : PrM P ps due) : ∀ p ∈ ps, ∃ o, P p o ∧ o.cls = .type "tuple" := by
  induction x with
  | nil => exact fun p hp => nomatch hp
  | cons y _ ih =>
    intro p hp
    obtain ⟨wh, t, n, q⟩ := y
    rcases List.mem_cons.mp hp with rfl | hp
    · exact ⟨_, q, rfl⟩
    · exact ih p hp
/-- the faults' tuples as a ledger of tuples -/
theorem Prs.ledger2 {h h' : Heap} {ps : List Addr} {due : List Str} (x : Prs h h' ps due) : ∃ sn : List (Addr × Obj), (∀ p ∈ sn, (h'.get? p.1 = some p.2 ∧ h.get? p.1 = none) ∧ p.2.cls = .type "tuple") ∧ PrM (fun a o => (a, o) ∈ sn) ps due := by
  induction x with
  | nil => exact ⟨[], fun p hp => (nomatch hp), .nil⟩
  | cons y _ ih =>
    obtain ⟨wh, t, n, q⟩ := y
    obtain ⟨sn, h1, h2⟩ := ih
    refine ⟨(_, _) :: sn, fun p hp => ?_, .cons ⟨wh, t, n, .head _⟩ (h2.mono fun a o z => .tail _ z)⟩
    rcases List.mem_cons.mp hp with rfl | hp
    · exact ⟨q, rfl⟩
    · exact h1 p hp
section
theorem arith_spec {b₀ : Heap} {a : Ad} {o rows L1 : Addr} {n : Nat} {due rdue : List Str} {vs : List Value} {env1 : Env} {oL : Obj} (e : Ex w a b₀ n o due) (C : Cx w mean mg mb b₀ s.heap [env1] a) (hdp : dp + n + 30 < 500) (hun : un + 10 * n + 300 < 5000) (hl : due.length + rdue.length ≤ 1000)
    (hf : env1.frame = some L1) (hL : s.heap.get? L1 = some oL) (hr : b₀.IsTuple rows vs.toArray) (R : Rw w a b₀ vs rdue)
    (hQ : ∀ r ps n h' tk, ExtF [L1] s.heap h' → h'.get? r = some (listOf (ps.map Value.ref).toArray n) → s.heap.get? r = none → Prs s.heap h' ps (due ++ rdue) → Q (.ref r) { s with heap := h', toks := tk }) :
    wpAny (model PySem.Challenge.rw_og0093_01.row.prog w) (AT none dp (some [env1]) gd un) (call (.ref 321) [.ref a.d, .ref o, .ref rows]) Q E s := by
  have hS : Ext (but s.heap L1) s.heap := fun b o q => (of_but q).2
  have hZ : (but s.heap L1).objs.size ≤ s.heap.objs.size := Nat.le_of_eq (hideAll_size _ _)
  have hN : ∀ p ∈ [(L1, oL)], s.heap.get? p.1 = some p.2 ∧ (but s.heap L1).get? p.1 = none := fun p hp => by rw [List.mem_singleton.mp hp]; exact ⟨hL, but_none⟩
  have hb : Ext b₀ (but s.heap L1) := fun b o q => but_get (C.st _ _ q) fun z => by
    have := (C.fr.mem (b := L1) (by rw [List.filterMap_cons, hf]; exact .head _)).1
    rw [← z, q] at this; cases this
  have X := C.X.keeps hb
  have T := C.T.keeps hb
  have X2 := C.X.keeps C.st
  have hr2 := isTuple_ext hr hb
  ((refine wpAny_call ?_; k_dflt (refine' code0G ?kS9 ?kZ9 ?kN9 ?k19 ?k59 ?k69 ?k79 ?k89 ?k99 ?kB9 ?_ ?c29 ?c39 ?c49 ?c59; (case kS9 => assumption); (case kZ9 => assumption); (case kN9 => assumption); (case k19 => k_asm); (case k59 => k_asm); (case k69 => k_is); (case k79 => k_is); (case k89 => (simp only [recursionLimit]; omega)); (case k99 => first | exact BindsTo.of_eq rfl | exact binds_K (by assumption) rfl (by k_is) rfl rfl rfl); (case c59 => decide); (case kB9 => exact locs rfl); (case c29 => exact rfl); (case c39 => exact rfl); (case c49 => exact rfl); k_whole; intro L'9 h'9 F'9 N'9 X'9 T'9; (try dsimp only); (try k_fold))))
  (repeat' (first | wtm_at "s1" | ((fail_if_success fail_if_success with_reducible refine at_call ?_); (first | (with_reducible refine hold_at 293 ?_) | (with_reducible refine hold_at 307 ?_))) | ((fail_if_success fail_if_success with_reducible refine at_ext ?_); (refine hold ?_)) | ((fail_if_success fail_if_success with_reducible refine at_iter ?_); (refine hold ?_)) | ((fail_if_success fail_if_success with_reducible refine at_for ?_); (k_dflt (refine For_turns (by k_asm) ?_))) | ((fail_if_success fail_if_success with_reducible refine at_name ?_); (k_dflt (refine' ld ?k19 ?k29 ?_; (case k19 => k_asm); (case k29 => first | assumption | ((repeat rw [if_neg (by decide)]); assumption)); k_whole))) | wtm_at "s2"))
  unfold Hold
  rename Fr _ _ _ _ => F0
  rename News _ _ _ _ => N0
  refine nf_all e _ _ _ _ _ _ _ (C.push1 hf hL F0 (N0.get (.head _)) (by exact rfl) (by exact rfl)) (by simp only [depth_deeper]; omega) (by simp only [units_deeper]; omega) (by omega) ?_
  intro fd ps0 k0 ha tka x1 x2 x3 x4
  have hfdL : fd ≠ L1 := fun z => by
    have := N0.get (.head _)
    rw [z, this] at x3; cases x3
  obtain ⟨sl1, F1, N1⟩ := after1 (rest := []) hf (by exact rfl) F0 N0 (sl := oL.slots) (.head _) (fun p hp => nomatch hp) x1
  obtain ⟨sn0, hsn, M0⟩ := x4.ledger2
  have N2 := newsAdd1 F0 (sn := (fd, _) :: sn0) (fun p hp => by
    rcases List.mem_cons.mp hp with rfl | hp
    · exact ⟨x2, x3⟩
    · exact (hsn p hp).1) N1
  have hfs : ∀ p ∈ sn0, p.1 ≠ fd := fun p hp z => by
    have h1 := (hsn p hp).1.1
    rw [z, x2] at h1
    have h2 := (hsn p hp).2
    rw [← Option.some.inj h1] at h2
    exact absurd (Value.type.inj h2) (by decide)
  have hfsL : ∀ p ∈ sn0, p.1 ≠ L1 := fun p hp z => by
    have h1 := (hsn p hp).1.2
    rw [z, N0.get (.head _)] at h1
    cases h1
  have hp0 := x4.length
  have ht236 : (but s.heap L1).IsTuple 236 #[.str (Str.ofString "numeric") _, .str (Str.ofString "edited") _] := ⟨_, X _ _ (by k_is), rfl, _, rfl⟩
  clear F0 N0 N1 x1 x2 x3 x4 hsn
  simp only [List.cons_append] at N2
  (repeat' (first | wtm_at "s1" | ((fail_if_success fail_if_success with_reducible refine at_call ?_); (first | (with_reducible refine hold_at 293 ?_) | (with_reducible refine hold_at 307 ?_))) | ((fail_if_success fail_if_success with_reducible refine at_ext ?_); (refine hold ?_)) | ((fail_if_success fail_if_success with_reducible refine at_iter ?_); (refine hold ?_)) | ((fail_if_success fail_if_success with_reducible refine at_for ?_); (k_dflt (refine For_turns (by k_asm) ?_))) | ((fail_if_success fail_if_success with_reducible refine at_name ?_); (k_dflt (refine' ld ?k19 ?k29 ?_; (case k19 => k_asm); (case k29 => first | assumption | ((repeat rw [if_neg (by decide)]); assumption)); k_whole))) | wtm_at "s2"))
  unfold Hold
  rename Fr _ _ _ _ => F3
  rename News _ _ _ _ => N3
  have N4 := newsDrop (news' := (fd, listOf (ps0.map Value.ref).toArray k0) :: (L1, { oL with slots := sl1 }) :: sn0) N3 (fun p hp => by
    rcases List.mem_cons.mp hp with rfl | hp
    · exact .head _
    · rcases List.mem_cons.mp hp with rfl | hp
      · exact .tail _ (List.mem_append_right _ (.head _))
      · exact .tail _ (List.mem_append_left _ hp))
  refine turnsTup rfl F3 N4 hr2 (fun i m nw => m (Str.ofString "data") = some (.ref a.d) ∧ m (Str.ofString "found") = some (.ref fd) ∧
    ∃ ps k sl sn dn rest, nw = (fd, listOf (ps.map Value.ref).toArray k) :: (L1, { oL with slots := sl }) :: sn ∧ PrM (fun a o => (a, o) ∈ sn) ps dn ∧ Rw w a b₀ (vs.drop i) rest ∧ dn ++ rest = due ++ rdue ∧ ∀ p ∈ sn, p.1 ≠ fd ∧ p.1 ≠ L1) ⟨rfl, rfl, ps0, k0, sl1, sn0, due, rdue, rfl, M0, R, rfl, fun p hp => ⟨hfs p hp, hfsL p hp⟩⟩ ?_ ?_
  · intro i v m₁ news₁ h₁ tk₁ I oI hv hJ ho F1 N1
    obtain ⟨hm1, hm2, ps, k, sl, sn, dn, rest, rfl, M, R1, he, hsn0⟩ := hJ
    have hsn : ∀ p ∈ sn, p.1 ≠ fd := fun p hp => (hsn0 p hp).1
    have hsL : ∀ p ∈ sn, p.1 ≠ L1 := fun p hp => (hsn0 p hp).2
    obtain ⟨hoI, hoI2, hoI3⟩ : fd ≠ I ∧ L1 ≠ I ∧ ∀ p ∈ sn, p.1 ≠ I := ⟨ho _ (.head _), ho _ (.tail _ (.head _)), fun p hp => ho p (.tail _ (.tail _ hp))⟩
    have hi : i < vs.length := by
      have := (Array.getElem?_eq_some_iff.mp hv).1
      simpa using this
    have hvi : vs[i] = v := by
      have := (Array.getElem?_eq_some_iff.mp hv).2
      simpa using this
    rw [List.drop_eq_getElem_cons hi, hvi] at R1
    cases R1 with
    | @cons row o2 nm way kc t n2 _ rdu r0 pk R2 =>
      have r1 : (but s.heap L1).IsTuple row #[.ref o2, .bool false, .str way t] := isTuple_ext ⟨_, r0, rfl, _, rfl⟩ hb
      clear F3 N3 N4 hfs M0 R
      (repeat' (first | wtm_at "s1" | ((fail_if_success fail_if_success with_reducible refine at_call ?_); (first | (with_reducible refine hold_at 293 ?_) | (with_reducible refine hold_at 307 ?_))) | ((fail_if_success fail_if_success with_reducible refine at_ext ?_); (refine hold ?_)) | ((fail_if_success fail_if_success with_reducible refine at_iter ?_); (refine hold ?_)) | ((fail_if_success fail_if_success with_reducible refine at_for ?_); (k_dflt (refine For_turns (by k_asm) ?_))) | ((fail_if_success fail_if_success with_reducible refine at_name ?_); (k_dflt (refine' ld ?k19 ?k29 ?_; (case k19 => k_asm); (case k29 => first | assumption | ((repeat rw [if_neg (by decide)]); assumption)); k_whole))) | wtm_at "s2"))
      ·
        unfold Hold
        rename Fr _ _ _ _ => F5
        rename News _ _ _ _ => N5
        refine place_gen pk (C.push1 hf hL F5 (N5.get (.tail _ (.tail _ (.head _)))) (by exact rfl) (by exact rfl)) (by simp only [depth_deeper]; omega) (by simp only [units_deeper]; omega) (F5.tup ht236) (.cons _ _ (.cons _ _ .nil)) ?_
        intro r2 ps2 k2 h2 tk2 x1 x2 x3 x4
        obtain ⟨sl2, F6, N6⟩ := after1 (rest := (I, oI) :: (fd, listOf (ps.map Value.ref).toArray k) :: sn) hf (by exact rfl) F5 N5 (sl := sl) (.tail _ (.tail _ (.head _))) (fun p hp => by
          rcases List.mem_cons.mp hp with rfl | hp
          · exact ⟨(.head _), Ne.symm hoI2⟩
          · rcases List.mem_cons.mp hp with rfl | hp
            · exact ⟨(.tail _ (.head _)), hfdL⟩
            · exact ⟨(.tail _ (.tail _ (.tail _ hp))), hsL p hp⟩) x1
        obtain ⟨sn2, hsn2, M2⟩ := x4.ledger2
        have N7 := newsAdd1 F5 (sn := (r2, _) :: sn2) (fun p hp => by
          rcases List.mem_cons.mp hp with rfl | hp
          · exact ⟨x2, x3⟩
          · exact (hsn2 p hp).1) N6
        have gfd := N5.get (.tail _ (.head _))
        have gI := N5.get (.head _)
        have gL := N5.get (.tail _ (.tail _ (.head _)))
        have hr2 : r2 ≠ fd := fun z => by rw [z, gfd] at x3; cases x3
        have hr2I : r2 ≠ I := fun z => by rw [z, gI] at x3; cases x3
        have hs2 : ∀ p ∈ sn2, p.1 ≠ fd ∧ p.1 ≠ I ∧ p.1 ≠ L1 := fun p hp => by
          have q := (hsn2 p hp).1.2
          exact ⟨fun z => (by rw [z, gfd] at q; cases q), fun z => (by rw [z, gI] at q; cases q), fun z => (by rw [z, gL] at q; cases q)⟩
        have hlp := M.length
        have hlp2 := M2.length
        have hle := congrArg List.length he
        simp only [List.length_append] at hle
        have N8 := newsDrop (news' := (fd, listOf (ps.map Value.ref).toArray k) :: (r2, listOf (ps2.map Value.ref).toArray k2) :: (I, oI) :: (L1, { oL with slots := sl2 }) :: (sn ++ sn2)) N7 (fun p hp => by
          rcases List.mem_cons.mp hp with rfl | hp
          · exact List.mem_append_right _ (.tail _ (.tail _ (.head _)))
          rcases List.mem_cons.mp hp with rfl | hp
          · exact List.mem_append_left _ (.head _)
          rcases List.mem_cons.mp hp with rfl | hp
          · exact List.mem_append_right _ (.tail _ (.head _))
          rcases List.mem_cons.mp hp with rfl | hp
          · exact List.mem_append_right _ (.head _)
          rcases List.mem_append.mp hp with hp | hp
          · exact List.mem_append_right _ (.tail _ (.tail _ (.tail _ hp)))
          · exact List.mem_append_left _ (.tail _ hp))
        rename (way == Str.ofString "=") = _ => hway
        rw [hway] at he hle
        clear F5 N5 N6 N7 x1 x2 x3 x4 hsn2 gfd gI gL
        (repeat' (first | wtm_at "s1" | ((fail_if_success fail_if_success with_reducible refine at_call ?_); (first | (with_reducible refine hold_at 293 ?_) | (with_reducible refine hold_at 307 ?_))) | ((fail_if_success fail_if_success with_reducible refine at_ext ?_); (refine hold ?_)) | ((fail_if_success fail_if_success with_reducible refine at_iter ?_); (refine hold ?_)) | ((fail_if_success fail_if_success with_reducible refine at_for ?_); (k_dflt (refine For_turns (by k_asm) ?_))) | ((fail_if_success fail_if_success with_reducible refine at_name ?_); (k_dflt (refine' ld ?k19 ?k29 ?_; (case k19 => k_asm); (case k29 => first | assumption | ((repeat rw [if_neg (by decide)]); assumption)); k_whole))) | wtm_at "s2"))
        unfold Hold
        rename Fr _ _ _ _ => F9
        rename News _ _ _ _ => N9
        refine ext_any (l := (ps.map Value.ref) ++ (ps2.map Value.ref)) F9 N9 (.tail _ (.head _)) (by simp only [List.toList_toArray]) (fun k9 => .head ?_) ?_ ?_
        · intro p hp
          rcases List.mem_cons.mp hp with rfl | hp
          · exact hr2
          rcases List.mem_cons.mp hp with rfl | hp
          · exact Ne.symm hoI
          rcases List.mem_cons.mp hp with rfl | hp
          · exact Ne.symm hfdL
          rcases List.mem_append.mp hp with hp | hp
          · exact hsn p hp
          · exact (hs2 p hp).1
        · simp only [List.size_toArray, List.length_map]
          simp only [if_true, Bool.false_eq_true, if_false] at hle hlp2
          omega
        intro h10 k10 F10 N10
        clear F9 N9
        (repeat' (first | wtm_at "s1" | ((fail_if_success fail_if_success with_reducible refine at_call ?_); (first | (with_reducible refine hold_at 293 ?_) | (with_reducible refine hold_at 307 ?_))) | ((fail_if_success fail_if_success with_reducible refine at_ext ?_); (refine hold ?_)) | ((fail_if_success fail_if_success with_reducible refine at_iter ?_); (refine hold ?_)) | ((fail_if_success fail_if_success with_reducible refine at_for ?_); (k_dflt (refine For_turns (by k_asm) ?_))) | ((fail_if_success fail_if_success with_reducible refine at_name ?_); (k_dflt (refine' ld ?k19 ?k29 ?_; (case k19 => k_asm); (case k29 => first | assumption | ((repeat rw [if_neg (by decide)]); assumption)); k_whole))) | wtm_at "s2"))
        rename Fr _ _ _ _ => F11
        rename News _ _ _ _ => N11
        refine ⟨_, _, _, (fd, listOf ((ps ++ ps2).map Value.ref).toArray k10) :: (L1, { oL with slots := sl2 }) :: (sn ++ sn2), rfl, F11, ?_, ?_, (if_neg (by decide)).trans ((if_neg (by decide)).trans ((if_neg (by decide)).trans hm1)), (if_neg (by decide)).trans ((if_neg (by decide)).trans ((if_neg (by decide)).trans hm2)),
          ps ++ ps2, k10, sl2, sn ++ sn2, dn ++ _, rdu, rfl, .append (M.mono fun b ob z => List.mem_append_left _ z) (M2.mono fun b ob z => List.mem_append_right _ z), R2, (List.append_assoc _ _ _).trans he, ?_⟩
        · rw [List.map_append]
          refine newsDrop N11 fun p hp => ?_
          rcases List.mem_cons.mp hp with rfl | hp
          · exact .tail _ (.tail _ (.head _))
          rcases List.mem_cons.mp hp with rfl | hp
          · exact .head _
          · exact .tail _ (.tail _ (.tail _ hp))
        · intro p hp
          rcases List.mem_cons.mp hp with rfl | hp
          · exact hoI
          rcases List.mem_cons.mp hp with rfl | hp
          · exact hoI2
          rcases List.mem_append.mp hp with hp | hp
          · exact hoI3 p hp
          · exact (hs2 p hp).2.1
        · intro p hp
          rcases List.mem_append.mp hp with hp | hp
          · exact ⟨hsn p hp, hsL p hp⟩
          · exact ⟨(hs2 p hp).1, (hs2 p hp).2.2⟩
      ·
        unfold Hold
        rename Fr _ _ _ _ => F5
        rename News _ _ _ _ => N5
        refine place_gen pk (C.push1 hf hL F5 (N5.get (.tail _ (.tail _ (.tail _ (.head _))))) (by exact rfl) (by exact rfl)) (by simp only [depth_deeper]; omega) (by simp only [units_deeper]; omega) (N5.isTup (.head _)) (.cons _ _ .nil) ?_
        intro r2 ps2 k2 h2 tk2 x1 x2 x3 x4
        obtain ⟨sl2, F6, N6⟩ := after1 (rest := (I, oI) :: (fd, listOf (ps.map Value.ref).toArray k) :: sn) hf (by exact rfl) F5 N5 (sl := sl) (.tail _ (.tail _ (.tail _ (.head _)))) (fun p hp => by
          rcases List.mem_cons.mp hp with rfl | hp
          · exact ⟨(.tail _ (.head _)), Ne.symm hoI2⟩
          · rcases List.mem_cons.mp hp with rfl | hp
            · exact ⟨(.tail _ (.tail _ (.head _))), hfdL⟩
            · exact ⟨(.tail _ (.tail _ (.tail _ (.tail _ hp)))), hsL p hp⟩) x1
        obtain ⟨sn2, hsn2, M2⟩ := x4.ledger2
        have N7 := newsAdd1 F5 (sn := (r2, _) :: sn2) (fun p hp => by
          rcases List.mem_cons.mp hp with rfl | hp
          · exact ⟨x2, x3⟩
          · exact (hsn2 p hp).1) N6
        have gfd := N5.get (.tail _ (.tail _ (.head _)))
        have gI := N5.get (.tail _ (.head _))
        have gL := N5.get (.tail _ (.tail _ (.tail _ (.head _))))
        have hr2 : r2 ≠ fd := fun z => by rw [z, gfd] at x3; cases x3
        have hr2I : r2 ≠ I := fun z => by rw [z, gI] at x3; cases x3
        have hs2 : ∀ p ∈ sn2, p.1 ≠ fd ∧ p.1 ≠ I ∧ p.1 ≠ L1 := fun p hp => by
          have q := (hsn2 p hp).1.2
          exact ⟨fun z => (by rw [z, gfd] at q; cases q), fun z => (by rw [z, gI] at q; cases q), fun z => (by rw [z, gL] at q; cases q)⟩
        have hlp := M.length
        have hlp2 := M2.length
        have hle := congrArg List.length he
        simp only [List.length_append] at hle
        have N8 := newsDrop (news' := (fd, listOf (ps.map Value.ref).toArray k) :: (r2, listOf (ps2.map Value.ref).toArray k2) :: (I, oI) :: (L1, { oL with slots := sl2 }) :: (sn ++ sn2)) N7 (fun p hp => by
          rcases List.mem_cons.mp hp with rfl | hp
          · exact List.mem_append_right _ (.tail _ (.tail _ (.head _)))
          rcases List.mem_cons.mp hp with rfl | hp
          · exact List.mem_append_left _ (.head _)
          rcases List.mem_cons.mp hp with rfl | hp
          · exact List.mem_append_right _ (.tail _ (.head _))
          rcases List.mem_cons.mp hp with rfl | hp
          · exact List.mem_append_right _ (.head _)
          rcases List.mem_append.mp hp with hp | hp
          · exact List.mem_append_right _ (.tail _ (.tail _ (.tail _ hp)))
          · exact List.mem_append_left _ (.tail _ hp))
        rename (way == Str.ofString "=") = _ => hway
        rw [hway] at he hle
        clear F5 N5 N6 N7 x1 x2 x3 x4 hsn2 gfd gI gL
        (repeat' (first | wtm_at "s1" | ((fail_if_success fail_if_success with_reducible refine at_call ?_); (first | (with_reducible refine hold_at 293 ?_) | (with_reducible refine hold_at 307 ?_))) | ((fail_if_success fail_if_success with_reducible refine at_ext ?_); (refine hold ?_)) | ((fail_if_success fail_if_success with_reducible refine at_iter ?_); (refine hold ?_)) | ((fail_if_success fail_if_success with_reducible refine at_for ?_); (k_dflt (refine For_turns (by k_asm) ?_))) | ((fail_if_success fail_if_success with_reducible refine at_name ?_); (k_dflt (refine' ld ?k19 ?k29 ?_; (case k19 => k_asm); (case k29 => first | assumption | ((repeat rw [if_neg (by decide)]); assumption)); k_whole))) | wtm_at "s2"))
        unfold Hold
        rename Fr _ _ _ _ => F9
        rename News _ _ _ _ => N9
        refine ext_any (l := (ps.map Value.ref) ++ (ps2.map Value.ref)) F9 N9 (.tail _ (.head _)) (by simp only [List.toList_toArray]) (fun k9 => .head ?_) ?_ ?_
        · intro p hp
          rcases List.mem_cons.mp hp with rfl | hp
          · exact hr2
          rcases List.mem_cons.mp hp with rfl | hp
          · exact Ne.symm hoI
          rcases List.mem_cons.mp hp with rfl | hp
          · exact Ne.symm hfdL
          rcases List.mem_append.mp hp with hp | hp
          · exact hsn p hp
          · exact (hs2 p hp).1
        · simp only [List.size_toArray, List.length_map]
          simp only [if_true, Bool.false_eq_true, if_false] at hle hlp2
          omega
        intro h10 k10 F10 N10
        clear F9 N9
        (repeat' (first | wtm_at "s1" | ((fail_if_success fail_if_success with_reducible refine at_call ?_); (first | (with_reducible refine hold_at 293 ?_) | (with_reducible refine hold_at 307 ?_))) | ((fail_if_success fail_if_success with_reducible refine at_ext ?_); (refine hold ?_)) | ((fail_if_success fail_if_success with_reducible refine at_iter ?_); (refine hold ?_)) | ((fail_if_success fail_if_success with_reducible refine at_for ?_); (k_dflt (refine For_turns (by k_asm) ?_))) | ((fail_if_success fail_if_success with_reducible refine at_name ?_); (k_dflt (refine' ld ?k19 ?k29 ?_; (case k19 => k_asm); (case k29 => first | assumption | ((repeat rw [if_neg (by decide)]); assumption)); k_whole))) | wtm_at "s2"))
        rename Fr _ _ _ _ => F11
        rename News _ _ _ _ => N11
        refine ⟨_, _, _, (fd, listOf ((ps ++ ps2).map Value.ref).toArray k10) :: (L1, { oL with slots := sl2 }) :: (sn ++ sn2), rfl, F11, ?_, ?_, (if_neg (by decide)).trans ((if_neg (by decide)).trans ((if_neg (by decide)).trans hm1)), (if_neg (by decide)).trans ((if_neg (by decide)).trans ((if_neg (by decide)).trans hm2)),
          ps ++ ps2, k10, sl2, sn ++ sn2, dn ++ _, rdu, rfl, .append (M.mono fun b ob z => List.mem_append_left _ z) (M2.mono fun b ob z => List.mem_append_right _ z), R2, (List.append_assoc _ _ _).trans he, ?_⟩
        · rw [List.map_append]
          refine newsDrop N11 fun p hp => ?_
          rcases List.mem_cons.mp hp with rfl | hp
          · exact .tail _ (.tail _ (.head _))
          rcases List.mem_cons.mp hp with rfl | hp
          · exact .head _
          · exact .tail _ (.tail _ (.tail _ hp))
        · intro p hp
          rcases List.mem_cons.mp hp with rfl | hp
          · exact hoI
          rcases List.mem_cons.mp hp with rfl | hp
          · exact hoI2
          rcases List.mem_append.mp hp with hp | hp
          · exact hoI3 p hp
          · exact (hs2 p hp).2.1
        · intro p hp
          rcases List.mem_append.mp hp with hp | hp
          · exact ⟨hsn p hp, hsL p hp⟩
          · exact ⟨(hs2 p hp).1, (hs2 p hp).2.2⟩
  · rintro h' tk' m' news' F1 N1 ⟨hm1, hm2, ps, k, sl, sn, dn, rest, rfl, M, R1, he, hsn⟩
    clear F3 N3 N4 hfs M0 R
    (repeat' (first | wtm_at "s1" | ((fail_if_success fail_if_success with_reducible refine at_call ?_); (first | (with_reducible refine hold_at 293 ?_) | (with_reducible refine hold_at 307 ?_))) | ((fail_if_success fail_if_success with_reducible refine at_ext ?_); (refine hold ?_)) | ((fail_if_success fail_if_success with_reducible refine at_iter ?_); (refine hold ?_)) | ((fail_if_success fail_if_success with_reducible refine at_for ?_); (k_dflt (refine For_turns (by k_asm) ?_))) | ((fail_if_success fail_if_success with_reducible refine at_name ?_); (k_dflt (refine' ld ?k19 ?k29 ?_; (case k19 => k_asm); (case k29 => first | assumption | ((repeat rw [if_neg (by decide)]); assumption)); k_whole))) | wtm_at "s2"))
    rename Fr _ _ _ _ => F9
    rename News _ _ _ _ => N9
    have hnil : vs.drop vs.toArray.size = [] := by simp
    rw [hnil] at R1
    cases R1
    rw [List.append_nil] at he
    have hno : ∀ b, (but s.heap L1).get? b = none → b ≠ L1 → s.heap.get? b = none := fun b z1 z2 => by
      cases q : s.heap.get? b with
      | none => rfl
      | some o => rw [but_get q z2] at z1; cases z1
    refine hQ fd ps k _ _ ⟨fun b o q n => F9.keep _ _ (but_get q fun z => n (by rw [z]; exact .head _)), fun b o q n => ?_⟩ (N9.get (.head _)) (hno _ (N9.fresh (.head _)) hfdL) ?_
    · rw [List.mem_singleton.mp n] at q ⊢
      rw [hL] at q
      cases q
      exact ⟨sl, N9.get (.tail _ (.head _))⟩
    · rw [← he]
      exact M.mono fun b ob z => by
        have q := N9 (b, ob) (.tail _ (.tail _ z))
        exact ⟨q.1, hno _ q.2.2 (hsn _ z).2⟩
end
end
section
-- Q27
example : True := by
  w_top off
  trivial
/-- what a def that draws holds on to -/
structure Sx (w : World) (mean : ExcName → Option Value) (mg mb : Str → Option Value) (b₀ h : Heap) (src cl : Addr) (at_ : Int) : Prop where
  st : Ext b₀ h
  X : (hd.heap_39 w.params).In b₀
  T : Top V LS mean mg mb b₀
  off : b₀.get? src = none
  gs : ∃ t n, h.get? src = some (listOf #[.ref cl, .int at_ t] n)
  cells : ∃ its nn ns, b₀.get? cl = some (listOf its nn) ∧ IntsAre its.toList ns ∧ 0 < ns.length ∧ ns.length ≤ 100
/-- all but one object kept -/
noncomputable def ExtB (x : Addr) (h h' : Heap) : Prop := ∀ b o, b ≠ x → h.get? b = some o → h'.get? b = some o
theorem ExtB.trans {x : Addr} {a b c : Heap} (p : ExtB x a b) (q : ExtB x b c) : ExtB x a c := fun y o n e => q y o n (p y o n e)
theorem Sx.but {b₀ h : Heap} {src cl : Addr} {at_ : Int} (S : Sx w mean mg mb b₀ h src cl at_) : Ext b₀ (but h src) := fun b o q => but_get (S.st _ _ q) fun z => by rw [z, S.off] at q; cases q
section
theorem draw_spec {b₀ : Heap} {src cl : Addr} {at_ lim : Int} {tl : Tok} (S : Sx w mean mg mb b₀ s.heap src cl at_) (hdp : dp + 1 < 900) (hun : un + 10 < 9000) (hat0 : 0 ≤ at_) (hat : at_ < 100000) (hl0 : 0 < lim) (hl1 : lim < 100)
    (hQ : ∀ k h' tk' tk2, 0 ≤ k → k < lim → ExtB src s.heap h' → Sx w mean mg mb b₀ h' src cl (at_ + 1) → Q (.int k tk') { s with heap := h', toks := tk2 }) :
    wpAny (model PySem.Challenge.rw_og0093_01.row.prog w) (AT none dp fr gd un) (call (.ref 372) [.ref src, .int lim tl]) Q E s := by
  have hb := S.but
  obtain ⟨tk, n, g1⟩ := S.gs
  obtain ⟨its, nn, ns, c1, hI, hne, hle⟩ := S.cells
  have hS : Ext (but s.heap src) s.heap := fun b o q => (of_but q).2
  have hZ : (but s.heap src).objs.size ≤ s.heap.objs.size := Nat.le_of_eq (hideAll_size _ _)
  have hN : ∀ p ∈ [(src, listOf #[.ref cl, .int at_ tk] n)], s.heap.get? p.1 = some p.2 ∧ (but s.heap src).get? p.1 = none := fun p hp => by rw [List.mem_singleton.mp hp]; exact ⟨g1, but_none⟩
  have X := S.X.keeps hb
  have T := S.T.keeps hb
  have l1 : (but s.heap src).IsList cl its := ⟨_, hb _ _ c1, rfl, _, rfl⟩
  have hits : its.size = ns.length := by
    have := hI.length
    simpa using this
  ((refine wpAny_call ?_; k_dflt (refine' code0G ?kS9 ?kZ9 ?kN9 ?k19 ?k59 ?k69 ?k79 ?k89 ?k99 ?kB9 ?_ ?c29 ?c39 ?c49 ?c59; (case kS9 => assumption); (case kZ9 => assumption); (case kN9 => assumption); (case k19 => k_asm); (case k59 => k_asm); (case k69 => k_is); (case k79 => k_is); (case k89 => (simp only [recursionLimit]; omega)); (case k99 => first | exact BindsTo.of_eq rfl | exact binds_K (by assumption) rfl (by k_is) rfl rfl rfl); (case c59 => decide); (case kB9 => exact locs rfl); (case c29 => exact rfl); (case c39 => exact rfl); (case c49 => exact rfl); k_whole; intro L'9 h'9 F'9 N'9 X'9 T'9; (try dsimp only); (try k_fold))))
  (repeat' (first | wtm_at "s1" | ((fail_if_success fail_if_success with_reducible refine at_seti ?_); (k_dflt (refine' set_any ?k19 ?k29 ?k39 ?k49 ?k59 ?k69 ?k79 ?_; (case k19 => k_asm); (case k29 => k_asm); (case k39 => k_upd); (case k49 => exact rfl); (case k59 => decide); (case k69 => decide); (case k79 => decide); k_whole); intro h'9 F'9 N'9; (try k_sweep))) | wtm_at "s2"))
  rename Fr _ _ _ _ => F9
  rename News _ _ _ _ => N9
  exact hQ _ _ _ _ (fmod_lo _ hl0) (fmod_hi _ hl0) (fun b o nb q => F9.keep _ _ (but_get q nb)) ⟨fun b o q => F9.keep _ _ (hb _ _ q), S.X, S.T, S.off, ⟨_, _, N9.get (.head _)⟩, S.cells⟩
end
end
section
-- Q28
example : True := by
  w_top off
  trivial
section
variable {prog : Program} {A : Around}
theorem sa_get {v : List Value} {d : List Str} (x : StrsAre v d) : ∀ j, j < v.length → ∃ y t, v[j]? = some (.str y t) ∧ y ∈ d := by
  induction x with
  | nil => exact fun j h => absurd h (Nat.not_lt_zero _)
  | cons y t _ ih =>
    intro j h
    cases j with
    | zero => exact ⟨y, t, rfl, .head _⟩
    | succ j =>
      obtain ⟨y', t', h1, h2⟩ := ih j (by simpa using h)
      exact ⟨y', t', by simpa using h1, .tail _ h2⟩
theorem pick_str {value slice : PySem.Expr} {t : Addr} {u : Tok} {k : Int} {items : List Value} {ys : List Str} {Q : Value → Shared → Prop} (ht : s.heap.IsTuple t items.toArray) (st : StrsAre items ys) (h0 : 0 ≤ k) (h1 : k < items.length) (h2 : k < 1000)
    (h : ∀ y t, y ∈ ys → Q (.str y t) s) (hs : subscripted slice false (.ref t) (.int k u) = operate [.ref t, .int k u] (getItem (.ref t) (.int k u))) : wpAny (model prog w) A (subscriptTail value slice (.ref t) (.int k u)) Q E s := by
  obtain ⟨y, t', g1, g2⟩ := sa_get st k.toNat (by omega)
  refine item_tupleT ht (Int.le_trans (by decide) h0) (by omega) (j := k.toNat) ?_ g1 (h y t' g2) hs
  have e1 : ¬ (k < 0) := by omega
  have e2 : (decide (0 ≤ k) && decide (k < (items.length : Int))) = true := by simp; omega
  unfold seqIndex?
  simp only [e1, if_false, e2, if_true]
end
section
theorem ref1_spec {nm : Str} {t : Tok} (X : (hd.heap_39 w.params).In s.heap) (T : Top V LS mean mg mb s.heap) (hdp : dp + 1 < 900) (hun : un + 10 < 9000)
    (hQ : ∀ o t0 n h' tk, Ext s.heap h' → h'.get? o = some (tupOf #[.str (Str.ofString "ref") t0, .str nm t, .ref 389, .ref 388, .none] n) → s.heap.get? o = none → Q (.ref o) { s with heap := h', toks := tk }) :
    wpAny (model PySem.Challenge.rw_og0093_01.row.prog w) (AT hh dp fr gd un) (call (.ref 397) [.str nm t]) Q E s := by
  ((refine wpAny_call ?_; k_dflt (refine' code0 ?k19 ?k59 ?k69 ?k79 ?k89 ?k99 ?kB9 ?_ ?c29 ?c39 ?c49 ?c59; (case k19 => k_asm); (case k59 => k_asm); (case k69 => k_is); (case k79 => k_is); (case k89 => (simp only [recursionLimit]; omega)); (case k99 => first | exact BindsTo.of_eq rfl | exact binds_K (by k_in) rfl (by k_is) rfl rfl rfl); (case c59 => decide); (case kB9 => exact locs rfl); (case c29 => exact rfl); (case c39 => exact rfl); (case c49 => exact rfl); k_whole; intro L'9 h'9 F'9 N'9 X'9 T'9; (try dsimp only); (try k_fold))))
  k_steps
  rename Fr _ _ _ _ => F9
  rename News _ _ _ _ => N9
  exact hQ _ _ _ _ _ F9.keep (N9.get (.head _)) (N9.fresh (.head _))
theorem ref2_spec {nm : Str} {t : Tok} {sb : Addr} (X : (hd.heap_39 w.params).In s.heap) (T : Top V LS mean mg mb s.heap) (hdp : dp + 1 < 900) (hun : un + 10 < 9000)
    (hQ : ∀ o t0 n h' tk, Ext s.heap h' → h'.get? o = some (tupOf #[.str (Str.ofString "ref") t0, .str nm t, .ref 389, .ref sb, .none] n) → s.heap.get? o = none → Q (.ref o) { s with heap := h', toks := tk }) :
    wpAny (model PySem.Challenge.rw_og0093_01.row.prog w) (AT hh dp fr gd un) (call (.ref 397) [.str nm t, .ref sb]) Q E s := by
  ((refine wpAny_call ?_; k_dflt (refine' code0 ?k19 ?k59 ?k69 ?k79 ?k89 ?k99 ?kB9 ?_ ?c29 ?c39 ?c49 ?c59; (case k19 => k_asm); (case k59 => k_asm); (case k69 => k_is); (case k79 => k_is); (case k89 => (simp only [recursionLimit]; omega)); (case k99 => first | exact BindsTo.of_eq rfl | exact binds_K (by k_in) rfl (by k_is) rfl rfl rfl); (case c59 => decide); (case kB9 => exact locs rfl); (case c29 => exact rfl); (case c39 => exact rfl); (case c49 => exact rfl); k_whole; intro L'9 h'9 F'9 N'9 X'9 T'9; (try dsimp only); (try k_fold))))
  k_steps
  rename Fr _ _ _ _ => F9
  rename News _ _ _ _ => N9
  exact hQ _ _ _ _ _ F9.keep (N9.get (.head _)) (N9.fresh (.head _))
end
section
theorem tree0_spec {src : Addr} {tt : Tok} (X : (hd.heap_39 w.params).In s.heap) (T : Top V LS mean mg mb s.heap) (hdp : dp + 2 < 900) (hun : un + 20 < 9000)
    (hQ : ∀ r o f t0 t1 n n1 n2 h' tk, Ext s.heap h' → h'.get? r = some (tupOf #[.ref o, .ref f] n1) → s.heap.get? r = none → h'.get? o = some (tupOf #[.str (Str.ofString "ref") t0, .str (Str.ofString "NU") t1, .ref 389, .ref 388, .none] n) → s.heap.get? o = none →
      h'.get? f = some (listOf #[] n2) → s.heap.get? f = none → Q (.ref r) { s with heap := h', toks := tk }) :
    wpAny (model PySem.Challenge.rw_og0093_01.row.prog w) (AT hh dp fr gd un) (call (.ref 411) [.ref src, .int 0 tt]) Q E s := by
  ((refine wpAny_call ?_; k_dflt (refine' code0 ?k19 ?k59 ?k69 ?k79 ?k89 ?k99 ?kB9 ?_ ?c29 ?c39 ?c49 ?c59; (case k19 => k_asm); (case k59 => k_asm); (case k69 => k_is); (case k79 => k_is); (case k89 => (simp only [recursionLimit]; omega)); (case k99 => first | exact BindsTo.of_eq rfl | exact binds_K (by k_in) rfl (by k_is) rfl rfl rfl); (case c59 => decide); (case kB9 => exact locs rfl); (case c29 => exact rfl); (case c39 => exact rfl); (case c49 => exact rfl); k_whole; intro L'9 h'9 F'9 N'9 X'9 T'9; (try dsimp only); (try k_fold))))
  (repeat' (first | wtm_at "s1" | ((fail_if_success fail_if_success with_reducible refine at_call ?_); (first | ((with_reducible show wpAny _ _ (call (Value.ref 397) [_, _]) _ _ _); k_dflt (refine' ref2_spec ?sX9 ?sT9 ?sd9 ?su9 ?_; (case sX9 => k_in); (case sT9 => wtm_at "T"); (case sd9 => first | exact rm1 hdp rfl rfl | wtm_at "D"); (case su9 => first | exact um1 hun rfl rfl | wtm_at "U"); k_whole); intro o'9 t0'9 n'9 h'9 tk'9 hE'9 ho'9 hr'9; wtm_at "PA") | ((with_reducible show wpAny _ _ (call (.ref 397) _ _) _ _ _); (k_dflt (refine' ref1_spec (by k_in) (by wtm_at "T") (by first | exact rm1 hdp rfl rfl | wtm_at "D") (by first | exact um1 hun rfl rfl | wtm_at "U") ?_; k_whole); intros; wtm_at "PA")))) | wtm_at "s2"))
  rename Fr _ _ _ _ => F9
  rename News _ _ _ _ => N9
  exact hQ _ _ _ _ _ _ _ _ _ _ F9.keep (N9.get (.head _)) (N9.fresh (.head _)) (N9.get (.tail _ (.tail _ (.head _)))) (N9.fresh (.tail _ (.tail _ (.head _)))) (N9.get (.tail _ (.head _))) (N9.fresh (.tail _ (.head _)))
end
end
section
-- Q29
example : True := by
  w_top off
  trivial
/-- an expression as the law draws it, by its objects -/
noncomputable def NameDue (nm : Str) (due : List Str) : Prop :=
  (nm ∈ [Str.ofString "NU", Str.ofString "IX", Str.ofString "T-I", Str.ofString "U-I"] ∧ due = []) ∨ (nm ∈ [Str.ofString "AN", Str.ofString "AL", Str.ofString "AE", Str.ofString "NE", Str.ofString "R", Str.ofString "NO"] ∧ due = [nm])
inductive Tr (P : Addr → Obj → Prop) : Nat → Addr → List Str → Prop
  | name {n k : Nat} {o : Addr} {t0 t1 : Tok} {nm : Str} {due : List Str} : P o (tupOf #[.str (Str.ofString "ref") t0, .str nm t1, .ref 389, .ref 388, .none] k) → NameDue nm due → Tr P n o due
  | sub {n k k2 k3 : Nat} {o sb oi : Addr} {t0 t1 t2 t3 : Tok} : P o (tupOf #[.str (Str.ofString "ref") t0, .str (Str.ofString "K") t1, .ref 389, .ref sb, .none] k) → P sb (tupOf #[.ref oi] k2) →
      P oi (tupOf #[.str (Str.ofString "ref") t2, .str (Str.ofString "NU") t3, .ref 389, .ref 388, .none] k3) → Tr P n o []
  | number {n k : Nat} {o x : Addr} {t0 : Tok} : P o (tupOf #[.str (Str.ofString "number") t0, .ref x] k) → Tr P n o []
  | text {n k : Nat} {o : Addr} {t0 t1 : Tok} {b : Array UInt8} : P o (tupOf #[.str (Str.ofString "text") t0, .bytes b t1] k) → Tr P n o [Str.ofString "a literal"]
  | zero {n k : Nat} {o : Addr} {t0 t1 : Tok} : P o (tupOf #[.str (Str.ofString "figure") t0, .str (Str.ofString "ZERO") t1] k) → Tr P n o []
  | space {n k : Nat} {o : Addr} {t0 t1 : Tok} : P o (tupOf #[.str (Str.ofString "figure") t0, .str (Str.ofString "SPACE") t1] k) → Tr P n o [Str.ofString "a figure"]
  | neg {n k : Nat} {o one : Addr} {t : Tok} {due : List Str} : P o (tupOf #[.str (Str.ofString "neg") t, .ref one] k) → Tr P n one due → Tr P (n + 1) o due
  | bin {n k : Nat} {o one other : Addr} {t : Tok} {op : Str} {d1 d2 : List Str} : P o (tupOf #[.str op t, .ref one, .ref other] k) → op ∈ [Str.ofString "+", Str.ofString "-", Str.ofString "*", Str.ofString "/", Str.ofString "**"] → Tr P n one d1 → Tr P n other d2 → Tr P (n + 1) o (d1 ++ d2)
theorem Tr.mono {P P' : Addr → Obj → Prop} {n : Nat} {o : Addr} {due : List Str} (x : Tr P n o due) (h : ∀ a ob, P a ob → P' a ob) : Tr P' n o due := by
  induction x with
  | name a b => exact .name (h _ _ a) b
  | sub a b c => exact .sub (h _ _ a) (h _ _ b) (h _ _ c)
  | number a => exact .number (h _ _ a)
  | text a => exact .text (h _ _ a)
  | zero a => exact .zero (h _ _ a)
  | space a => exact .space (h _ _ a)
  | neg a _ ih => exact .neg (h _ _ a) ih
  | bin a b _ _ i1 i2 => exact .bin (h _ _ a) b i1 i2
theorem Tr.ledger {P : Addr → Obj → Prop} {n : Nat} {o : Addr} {due : List Str} (x : Tr P n o due) : ∃ sn : List (Addr × Obj), (∀ p ∈ sn, P p.1 p.2) ∧ Tr (fun a ob => (a, ob) ∈ sn) n o due := by
  induction x with
  | name a b => exact ⟨[(_, _)], fun p hp => by rw [List.mem_singleton.mp hp]; exact a, .name (.head _) b⟩
  | sub a b c => exact ⟨[(_, _), (_, _), (_, _)], fun p hp => by
      rcases List.mem_cons.mp hp with rfl | hp
      · exact a
      rcases List.mem_cons.mp hp with rfl | hp
      · exact b
      rw [List.mem_singleton.mp hp]; exact c, .sub (.head _) (.tail _ (.head _)) (.tail _ (.tail _ (.head _)))⟩
  | number a => exact ⟨[(_, _)], fun p hp => by rw [List.mem_singleton.mp hp]; exact a, .number (.head _)⟩
  | text a => exact ⟨[(_, _)], fun p hp => by rw [List.mem_singleton.mp hp]; exact a, .text (.head _)⟩
  | zero a => exact ⟨[(_, _)], fun p hp => by rw [List.mem_singleton.mp hp]; exact a, .zero (.head _)⟩
  | space a => exact ⟨[(_, _)], fun p hp => by rw [List.mem_singleton.mp hp]; exact a, .space (.head _)⟩
  | @neg n k o one t due a _ ih =>
    obtain ⟨sn, h1, h2⟩ := ih
    refine ⟨(o, tupOf #[.str (Str.ofString "neg") t, .ref one] k) :: sn, fun p hp => ?_, .neg (.head _) (h2.mono fun _ _ z => .tail _ z)⟩
    rcases List.mem_cons.mp hp with rfl | hp
    · exact a
    · exact h1 p hp
  | @bin n k o one other t op d1 d2 a b _ _ i1 i2 =>
    obtain ⟨sn, h1, h2⟩ := i1
    obtain ⟨sm, h3, h4⟩ := i2
    refine ⟨(o, tupOf #[.str op t, .ref one, .ref other] k) :: (sn ++ sm), fun p hp => ?_, .bin (.head _) b (h2.mono fun _ _ z => .tail _ (List.mem_append_left _ z)) (h4.mono fun _ _ z => .tail _ (List.mem_append_right _ z))⟩
    rcases List.mem_cons.mp hp with rfl | hp
    · exact a
    rcases List.mem_append.mp hp with hp | hp
    · exact h1 p hp
    · exact h3 p hp
/-- made since -/
noncomputable def NB (h h' : Heap) (a : Addr) (ob : Obj) : Prop := h'.get? a = some ob ∧ h.get? a = none
theorem nb_of {hs h' : Heap} {L src a : Addr} {ob : Obj} {news : List (Addr × Obj)} (N : News (but hs src) L h' news) (hm : (a, ob) ∈ news) (hne : a ≠ src) : NB hs h' a ob := by
  refine ⟨N.get hm, ?_⟩
  cases q : hs.get? a with
  | none => rfl
  | some o =>
    have := N.fresh hm
    rw [but_get q hne] at this; cases this
theorem newsAdd3 {h₀ h h' : Heap} {L r o f : Addr} {m : Str → Option Value} {x y z : Obj} {news : List (Addr × Obj)} (F : Fr h₀ L h m) (N : News h₀ L h news) (hE : Ext h h') (a1 : h'.get? r = some x) (a2 : h.get? r = none) (a3 : h'.get? o = some y) (a4 : h.get? o = none) (a5 : h'.get? f = some z) (a6 : h.get? f = none) :
    News h₀ L h' ((r, x) :: (o, y) :: (f, z) :: news) := by
  intro p hp
  rcases List.mem_cons.mp hp with rfl | hp
  · exact ⟨a1, noneOf F a2⟩
  rcases List.mem_cons.mp hp with rfl | hp
  · exact ⟨a3, noneOf F a4⟩
  rcases List.mem_cons.mp hp with rfl | hp
  · exact ⟨a5, noneOf F a6⟩
  exact newsKeep N hE p hp
theorem draw_walk {b₀ hs : Heap} {src cl L : Addr} {at0 at_ lim : Int} {tl tk : Tok} {n : Nat} {m : Str → Option Value} {news : List (Addr × Obj)} {news' : Tok → Nat → List (Addr × Obj)} (S : Sx w mean mg mb b₀ hs src cl at0) (F : Fr (but hs src) L s.heap m) (N : News (but hs src) L s.heap news)
    (hm : (src, listOf #[.ref cl, .int at_ tk] n) ∈ news) (U : ∀ t2 n2, Upd src (listOf #[.ref cl, .int at_ tk] n) (listOf #[.ref cl, .int (at_ + 1) t2] n2) news (news' t2 n2)) (hdp : dp + 1 < 900) (hun : un + 10 < 9000) (hat0 : 0 ≤ at_) (hat : at_ < 100000) (hl0 : 0 < lim) (hl1 : lim < 100)
    (hQ : ∀ k h' tk' tk2 t2 n2, 0 ≤ k → k < lim → Fr (but hs src) L h' m → News (but hs src) L h' (news' t2 n2) → Q (.int k tk') { s with heap := h', toks := tk2 }) :
    wpAny (model PySem.Challenge.rw_og0093_01.row.prog w) (AT none dp fr gd un) (call (.ref 372) [.ref src, .int lim tl]) Q E s := by
  have z1 := N _ hm
  refine draw_spec (b₀ := b₀) (cl := cl) (at_ := at_) ⟨Ext.trans S.but F.keep, S.X, S.T, S.off, ⟨_, _, z1.1⟩, S.cells⟩ hdp hun hat0 hat hl0 hl1 fun k h' tk' tk2 hk0 hk1 x S' => ?_
  obtain ⟨t2, n2, g2⟩ := S'.gs
  refine hQ k h' tk' tk2 t2 n2 hk0 hk1 ⟨?_, fun b o q => x b o (of_but q).1 (F.keep _ _ q), F.above⟩ ?_
  · obtain ⟨o, es, ep, ho, hd, r⟩ := F.ns
    exact ⟨o, es, ep, x _ _ (Ne.symm z1.2.1) ho, hd, r⟩
  · obtain ⟨pre, post, e1, e2, h1, h2⟩ := (U t2 n2).split
    rw [e2]
    rw [e1] at N
    intro p hp
    rcases List.mem_append.mp hp with hp | hp
    · have q := N p (List.mem_append_left _ hp)
      exact ⟨x _ _ (h1 p hp) q.1, q.2⟩
    rcases List.mem_cons.mp hp with rfl | hp
    · exact ⟨g2, z1.2.1, but_none⟩
    · have q := N p (List.mem_append_right _ (.tail _ hp))
      exact ⟨x _ _ (h2 p hp) q.1, q.2⟩
noncomputable def bnd : Nat → Int
  | 0 => 4
  | n + 1 => 2 * bnd n + 2
theorem bnd_succ (n : Nat) : bnd (n + 1) = 2 * bnd n + 2 := rfl
theorem bnd_ge : ∀ n, 4 ≤ bnd n
  | 0 => Int.le_refl _
  | n + 1 => by have := bnd_ge n; rw [bnd_succ]; omega
noncomputable def dl : Nat → Nat
  | 0 => 1
  | n + 1 => 2 * dl n
theorem dl_succ (n : Nat) : dl (n + 1) = 2 * dl n := rfl
theorem dl_ge : ∀ n, 1 ≤ dl n
  | 0 => Nat.le_refl _
  | n + 1 => by have := dl_ge n; rw [dl_succ]; omega
/-- what a drawn expression leaves -/
noncomputable def Out (w : World) (mean : ExcName → Option Value) (mg mb : Str → Option Value) (b₀ hs h' : Heap) (src cl : Addr) (n : Nat) (lo hi : Int) (r : Addr) : Prop :=
  ∃ o f due its k1 k2 at', ExtB src hs h' ∧ Sx w mean mg mb b₀ h' src cl at' ∧ lo ≤ at' ∧ at' ≤ hi ∧ NB hs h' r (tupOf #[.ref o, .ref f] k1) ∧ NB hs h' f (listOf (List.toArray its) k2) ∧ StrsAre its due ∧ Tr (NB hs h') n o due ∧ due.length ≤ dl n
theorem Out.of {b₀ hs h' : Heap} {src cl r o f : Addr} {n k1 k2 : Nat} {lo hi at' : Int} {due : List Str} {its : List Value} (a1 : ExtB src hs h') (a2 : Sx w mean mg mb b₀ h' src cl at') (a3 : lo ≤ at') (a4 : at' ≤ hi) (a5 : NB hs h' r (tupOf #[.ref o, .ref f] k1))
    (a6 : NB hs h' f (listOf (List.toArray its) k2)) (a7 : StrsAre its due) (a8 : Tr (NB hs h') n o due) (a9 : due.length ≤ dl n) : Out w mean mg mb b₀ hs h' src cl n lo hi r := ⟨o, f, due, its, k1, k2, at', a1, a2, a3, a4, a5, a6, a7, a8, a9⟩
theorem out_use {b₀ h' : Heap} {src cl r : Addr} {n tk : Nat} {lo hi : Int} (hQ : ∀ r h' tk, Out w mean mg mb b₀ s.heap h' src cl n lo hi r → Q (.ref r) { s with heap := h', toks := tk }) (x : Out w mean mg mb b₀ s.heap h' src cl n lo hi r) : Q (.ref r) { s with heap := h', toks := tk } := hQ _ _ _ x
theorem nd_good {nm : Str} (h : nm ∈ [Str.ofString "NU", Str.ofString "IX", Str.ofString "T-I", Str.ofString "U-I"]) : NameDue nm [] := .inl ⟨h, rfl⟩
theorem nd_bad {nm : Str} (h : nm ∈ [Str.ofString "AN", Str.ofString "AL", Str.ofString "AE", Str.ofString "NE", Str.ofString "R", Str.ofString "NO"]) : NameDue nm [nm] := .inr ⟨h, rfl⟩
theorem xb_of {hs h' : Heap} {L src : Addr} {m : Str → Option Value} (F : Fr (but hs src) L h' m) : ExtB src hs h' := fun b o nb q => F.keep _ _ (but_get q nb)
theorem sx_of {b₀ hs h' : Heap} {L src cl : Addr} {m : Str → Option Value} {news : List (Addr × Obj)} {at0 at' : Int} {t : Tok} {n : Nat} (S : Sx w mean mg mb b₀ hs src cl at0) (F : Fr (but hs src) L h' m) (N : News (but hs src) L h' news) (hm : (src, listOf #[.ref cl, .int at' t] n) ∈ news) : Sx w mean mg mb b₀ h' src cl at' :=
  ⟨Ext.trans S.but F.keep, S.X, S.T, S.off, ⟨_, _, N.get hm⟩, S.cells⟩
section
local macro_rules | `(tactic| k_ne) => `(tactic| first | assumption | exact Ne.symm (by assumption) | (refine neN ?_; (try dsimp only); first | exact Ne.symm (by wtm_at "nm") | wtm_at "nm" | omega))
theorem leafs_spec {b₀ : Heap} {src cl : Addr} {at_ : Int} (S : Sx w mean mg mb b₀ s.heap src cl at_) (hdp : dp + 4 < 900) (hun : un + 40 < 9000) (hat0 : 0 ≤ at_) (hat : at_ < 90000)
    (hQ : ∀ r h' tk, Out w mean mg mb b₀ s.heap h' src cl 0 (at_ + 1) (at_ + 3) r → Q (.ref r) { s with heap := h', toks := tk }) :
    wpAny (model PySem.Challenge.rw_og0093_01.row.prog w) (AT none dp fr gd un) (call (.ref 404) [.ref src]) Q E s := by
  have hb := S.but
  obtain ⟨tk, n, g1⟩ := S.gs
  have hS : Ext (but s.heap src) s.heap := fun b o q => (of_but q).2
  have hZ : (but s.heap src).objs.size ≤ s.heap.objs.size := Nat.le_of_eq (hideAll_size _ _)
  have hN : ∀ p ∈ [(src, listOf #[.ref cl, .int at_ tk] n)], s.heap.get? p.1 = some p.2 ∧ (but s.heap src).get? p.1 = none := fun p hp => by rw [List.mem_singleton.mp hp]; exact ⟨g1, but_none⟩
  have X := S.X.keeps hb
  have T := S.T.keeps hb
  ((refine wpAny_call ?_; k_dflt (refine' code0G ?kS9 ?kZ9 ?kN9 ?k19 ?k59 ?k69 ?k79 ?k89 ?k99 ?kB9 ?_ ?c29 ?c39 ?c49 ?c59; (case kS9 => assumption); (case kZ9 => assumption); (case kN9 => assumption); (case k19 => k_asm); (case k59 => k_asm); (case k69 => k_is); (case k79 => k_is); (case k89 => (simp only [recursionLimit]; omega)); (case k99 => first | exact BindsTo.of_eq rfl | exact binds_K (by assumption) rfl (by k_is) rfl rfl rfl); (case c59 => decide); (case kB9 => exact locs rfl); (case c29 => exact rfl); (case c39 => exact rfl); (case c49 => exact rfl); k_whole; intro L'9 h'9 F'9 N'9 X'9 T'9; (try dsimp only); (try k_fold))))
  (repeat' (first | wtm_at "s1" | ((fail_if_success fail_if_success with_reducible refine at_call ?_); (first | ((with_reducible show wpAny _ _ (call (.ref 411) _ _) _ _ _); (k_dflt (refine' tree0_spec (by k_in) (by wtm_at "T") (by first | exact rm1 hdp rfl rfl | wtm_at "D") (by first | exact um1 hun rfl rfl | wtm_at "U") ?_; k_whole); intro r'9 o'9 f'9 t0'9 t1'9 n'9 n1'9 n2'9 h'9 tk'9 hE'9 a1'9 a2'9 a3'9 a4'9 a5'9 a6'9; (rename Fr _ _ _ _ => kF0); (rename News _ _ _ _ => kN0); (have F'9 := Fr.keeps kF0 hE'9); (have N'9 := newsAdd3 kF0 kN0 hE'9 a1'9 a2'9 a3'9 a4'9 a5'9 a6'9); (have la'9 := newsNe kN0 a2'9); (have lb'9 := newsNe kN0 a4'9); (have lc'9 := newsNe kN0 a6'9); clear kF0 kN0 hE'9 a1'9 a2'9 a3'9 a4'9 a5'9 a6'9; (try k_sweep))) | ((with_reducible show wpAny _ _ (call (Value.ref 397) [_, _]) _ _ _); k_dflt (refine' ref2_spec ?sX9 ?sT9 ?sd9 ?su9 ?_; (case sX9 => k_in); (case sT9 => wtm_at "T"); (case sd9 => first | exact rm1 hdp rfl rfl | wtm_at "D"); (case su9 => first | exact um1 hun rfl rfl | wtm_at "U"); k_whole); intro o'9 t0'9 n'9 h'9 tk'9 hE'9 ho'9 hr'9; wtm_at "PA") | ((with_reducible show wpAny _ _ (call (.ref 397) _ _) _ _ _); (k_dflt (refine' ref1_spec (by k_in) (by wtm_at "T") (by first | exact rm1 hdp rfl rfl | wtm_at "D") (by first | exact um1 hun rfl rfl | wtm_at "U") ?_; k_whole); intros; wtm_at "PA")) | ((with_reducible show wpAny _ _ (call (Value.ref 372) _) _ _ _); k_dflt (refine' draw_walk ?sS9 ?sF9 ?sN9 ?sm9 ?sU9 ?sd9 ?su9 ?b19 ?b29 ?b39 ?b49 ?_; (case sS9 => assumption); (case sF9 => k_asm); (case sN9 => k_asm); (case sm9 => k_mem); (case sU9 => (intro t9 n9; k_upd)); (case sd9 => first | exact rm1 hdp rfl rfl | wtm_at "D"); (case su9 => first | exact um1 hun rfl rfl | wtm_at "U"); (case b19 => omega); (case b29 => omega); (case b39 => decide); (case b49 => decide); k_whole); intro k'9 h'9 tk'9 tk2'9 t2'9 n2'9 hk0'9 hk1'9 F'9 N'9; (try k_sweep)))) | wtm_at "s2"))
  all_goals ((rename Fr _ _ _ _ => F9; rename News _ _ _ _ => N9; (refine' out_use (by assumption) (Out.of (xb_of F9) (sx_of (by assumption) F9 N9 ?eg9) ?l19 ?l29 ?er9 ?ef9 ?es9 ?et9 ?ed9)); (case eg9 => k_mem); (case er9 => (exact nb_of N9 (.head _) (by k_ne))); (case ef9 => (exact nb_of N9 (by k_mem) (by k_ne))); (case es9 => (first | exact .nil | exact .cons _ _ .nil)); (case ed9 => decide); (case l19 => omega); (case l29 => omega); (case et9 => (first | exact .sub (nb_of N9 (by k_mem) (by k_ne)) (nb_of N9 (by k_mem) (by k_ne)) (nb_of N9 (by k_mem) (by k_ne)) | exact .name (nb_of N9 (by k_mem) (by k_ne)) (nd_good (by decide +kernel)) | exact .name (nb_of N9 (by k_mem) (by k_ne)) (nd_bad (by decide +kernel)) | exact .number (nb_of N9 (by k_mem) (by k_ne)) | exact .text (nb_of N9 (by k_mem) (by k_ne)) | exact .zero (nb_of N9 (by k_mem) (by k_ne)) | exact .space (nb_of N9 (by k_mem) (by k_ne))))))
end
end
section
-- Q30
example : True := by
  w_top off
  trivial
theorem NB.lift {hs h h' : Heap} {src a : Addr} {ob os : Obj} (x : ExtB src hs h) (g : h.get? src = some os) (n : NB h h' a ob) : NB hs h' a ob := by
  refine ⟨n.1, ?_⟩
  cases q : hs.get? a with
  | none => rfl
  | some o =>
    have n2 := n.2
    by_cases z : a = src
    · rw [z, g] at n2; cases n2
    · rw [x _ _ z q] at n2; cases n2
theorem Tr.up {P : Addr → Obj → Prop} {o : Addr} {due : List Str} (n : Nat) (x : Tr P 0 o due) : Tr P n o due := by
  cases x with
  | name a b => exact .name a b
  | sub a b c => exact .sub a b c
  | number a => exact .number a
  | text a => exact .text a
  | zero a => exact .zero a
  | space a => exact .space a
theorem sa_app {v v' : List Value} {d d' : List Str} (x : StrsAre v d) (y : StrsAre v' d') : StrsAre (v ++ v') (d ++ d') := by
  induction x with
  | nil => exact y
  | cons a t _ ih => exact .cons a t ih
theorem sa_len {v : List Value} {d : List Str} (x : StrsAre v d) : v.length = d.length := by
  induction x with
  | nil => rfl
  | cons a t _ ih => simp [ih]
theorem memT {sn tl : List (Addr × Obj)} {p : Addr × Obj} (h : ∀ p ∈ sn, p ∈ tl) (z : p ∈ sn) : p ∈ tl := h p z
theorem neT {sn tl : List (Addr × Obj)} {src : Addr} {p : Addr × Obj} (h : ∀ p ∈ sn, p ∈ tl) (q : ∀ p ∈ tl, p.1 ≠ src) (z : p ∈ sn) : p.1 ≠ src := q p (h p z)
theorem tl7 {a b c d e f g p : Addr × Obj} {tl : List (Addr × Obj)} (z : p ∈ tl) : p ∈ a :: b :: c :: d :: e :: f :: g :: tl := .tail _ (.tail _ (.tail _ (.tail _ (.tail _ (.tail _ (.tail _ z))))))
theorem after_out {b₀ hs h h' : Heap} {src cl L r : Addr} {n : Nat} {lo hi : Int} {os : Obj} {m : Str → Option Value} {news rest : List (Addr × Obj)} (F : Fr (but hs src) L h m) (N : News (but hs src) L h news) (hm : (src, os) ∈ news) (hr : ∀ p ∈ rest, p ∈ news ∧ p.1 ≠ src)
    (O : Out w mean mg mb b₀ h h' src cl n lo hi r) : ∃ o f due its k1 k2 at' t2 n2 sn, Fr (but hs src) L h' m ∧ News (but hs src) L h' ((r, tupOf #[.ref o, .ref f] k1) :: (f, listOf (List.toArray its) k2) :: (src, listOf #[.ref cl, .int at' t2] n2) :: (sn ++ rest)) ∧
      lo ≤ at' ∧ at' ≤ hi ∧ StrsAre its due ∧ Tr (fun a ob => (a, ob) ∈ sn) n o due ∧ due.length ≤ dl n ∧ r ≠ src ∧ f ≠ src ∧ ∀ p ∈ sn, p.1 ≠ src := by
  obtain ⟨o, f, due, its, k1, k2, at', a1, a2, a3, a4, a5, a6, a7, a8, a9⟩ := O
  obtain ⟨t2, n2, g2⟩ := a2.gs
  obtain ⟨sn, s1, s2⟩ := a8.ledger
  have z1 := N _ hm
  have hne : ∀ {x : Addr} {ob : Obj}, NB h h' x ob → x ≠ src := fun q z => by
    have := q.2
    rw [z, z1.1] at this; cases this
  have hnb : ∀ {x : Addr} {ob : Obj}, NB h h' x ob → h'.get? x = some ob ∧ x ≠ L ∧ (but hs src).get? x = none := fun q => ⟨q.1, noneOf F q.2⟩
  refine ⟨o, f, due, its, k1, k2, at', t2, n2, sn, ⟨?_, fun b o q => a1 b o (of_but q).1 (F.keep _ _ q), F.above⟩, fun p hp => ?_, a3, a4, a7, s2, a9, hne a5, hne a6, fun p hp => hne (s1 p hp)⟩
  · obtain ⟨o, es, ep, ho, hd, r⟩ := F.ns
    exact ⟨o, es, ep, a1 _ _ (Ne.symm z1.2.1) ho, hd, r⟩
  · rcases List.mem_cons.mp hp with rfl | hp
    · exact hnb a5
    rcases List.mem_cons.mp hp with rfl | hp
    · exact hnb a6
    rcases List.mem_cons.mp hp with rfl | hp
    · exact ⟨g2, z1.2.1, but_none⟩
    rcases List.mem_append.mp hp with hp | hp
    · exact hnb (s1 p hp)
    · have q := N p (hr p hp).1
      exact ⟨a1 _ _ (hr p hp).2 q.1, q.2⟩
theorem Out.lift {b₀ hs h h' : Heap} {src cl r : Addr} {lo hi lo' hi' : Int} {os : Obj} (n : Nat) (x : ExtB src hs h) (g : h.get? src = some os) (O : Out w mean mg mb b₀ h h' src cl 0 lo hi r) (h1 : lo' ≤ lo) (h2 : hi ≤ hi') : Out w mean mg mb b₀ hs h' src cl n lo' hi' r := by
  obtain ⟨o, f, due, its, k1, k2, at', a1, a2, a3, a4, a5, a6, a7, a8, a9⟩ := O
  have := dl_ge n
  exact ⟨o, f, due, its, k1, k2, at', x.trans a1, a2, Int.le_trans h1 a3, Int.le_trans a4 h2, a5.lift x g, a6.lift x g, a7, (a8.mono fun _ _ z => z.lift x g).up n, Nat.le_trans a9 this⟩
section
local macro_rules | `(tactic| k_all) => `(tactic| assumption)
theorem tree_spec {b₀ : Heap} {src cl : Addr} : ∀ (n : Nat) (dp un : Nat) (gd : Option (List Code)) (fr : Option (List Env)) (s : Shared) (Q E : Value → Shared → Prop) (at_ : Int) (tt : Tok), Sx w mean mg mb b₀ s.heap src cl at_ → dp + n + 5 < 900 → un + 10 * n + 50 < 9000 → 0 ≤ at_ → at_ + bnd n < 80000 → dl n ≤ 1000 →
    (∀ r h' tk, Out w mean mg mb b₀ s.heap h' src cl n at_ (at_ + bnd n) r → Q (.ref r) { s with heap := h', toks := tk }) →
    wpAny (model PySem.Challenge.rw_og0093_01.row.prog w) (AT none dp fr gd un) (call (.ref 411) [.ref src, .int (n : Int) tt]) Q E s := by
  intro n
  induction n with
  | zero =>
    intro dp un gd fr s Q E at_ tt S hdp hun hat0 hat hl hQ
    refine tree0_spec (hh := none) (S.X.keeps S.st) (S.T.keeps S.st) (by omega) (by omega) ?_
    intro r o f t0 t1 n n1 n2 h' tk x a1 a2 a3 a4 a5 a6
    obtain ⟨t2, n3, g2⟩ := S.gs
    exact hQ _ _ _ (Out.of (its := []) (fun b o _ q => x b o q) ⟨Ext.trans S.st x, S.X, S.T, S.off, ⟨_, _, x _ _ g2⟩, S.cells⟩ (Int.le_refl _) (by have := bnd_ge 0; omega) ⟨a1, a2⟩ ⟨a5, a6⟩ .nil (.name ⟨a3, a4⟩ (nd_good (by decide +kernel))) (by decide))
  | succ n ih =>
    intro dp un gd fr s Q E at_ tt S hdp hun hat0 hat hl hQ
    have hb := S.but
    obtain ⟨tk, n0, g1⟩ := S.gs
    have hS : Ext (but s.heap src) s.heap := fun b o q => (of_but q).2
    have hZ : (but s.heap src).objs.size ≤ s.heap.objs.size := Nat.le_of_eq (hideAll_size _ _)
    have hN : ∀ p ∈ [(src, listOf #[.ref cl, .int at_ tk] n0)], s.heap.get? p.1 = some p.2 ∧ (but s.heap src).get? p.1 = none := fun p hp => by rw [List.mem_singleton.mp hp]; exact ⟨g1, but_none⟩
    have X := S.X.keeps hb
    have T := S.T.keeps hb
    have hb4 := bnd_ge n
    rw [bnd_succ] at hat hQ
    rw [dl_succ] at hl
    ((refine wpAny_call ?_; k_dflt (refine' code0G ?kS9 ?kZ9 ?kN9 ?k19 ?k59 ?k69 ?k79 ?k89 ?k99 ?kB9 ?_ ?c29 ?c39 ?c49 ?c59; (case kS9 => assumption); (case kZ9 => assumption); (case kN9 => assumption); (case k19 => k_asm); (case k59 => k_asm); (case k69 => k_is); (case k79 => k_is); (case k89 => (simp only [recursionLimit]; omega)); (case k99 => first | exact BindsTo.of_eq rfl | exact binds_K (by assumption) rfl (by k_is) rfl rfl rfl); (case c59 => decide); (case kB9 => exact locs rfl); (case c29 => exact rfl); (case c39 => exact rfl); (case c49 => exact rfl); k_whole; intro L'9 h'9 F'9 N'9 X'9 T'9; (try dsimp only); (try k_fold))))
    (repeat' (first | wtm_at "s1" | ((fail_if_success fail_if_success with_reducible refine at_call ?_); (first | (with_reducible refine hold_at 411 ?_) | (with_reducible refine hold_at 404 ?_) | ((with_reducible show wpAny _ _ (call (Value.ref 372) _) _ _ _); k_dflt (refine' draw_walk ?sS9 ?sF9 ?sN9 ?sm9 ?sU9 ?sd9 ?su9 ?b19 ?b29 ?b39 ?b49 ?_; (case sS9 => assumption); (case sF9 => k_asm); (case sN9 => k_asm); (case sm9 => k_mem); (case sU9 => (intro t9 n9; k_upd)); (case sd9 => first | exact rm1 hdp rfl rfl | wtm_at "D"); (case su9 => first | exact um1 hun rfl rfl | wtm_at "U"); (case b19 => omega); (case b29 => omega); (case b39 => decide); (case b49 => decide); k_whole); intro k'9 h'9 tk'9 tk2'9 t2'9 n2'9 hk0'9 hk1'9 F'9 N'9; (try k_sweep)))) | ((fail_if_success fail_if_success with_reducible refine at_bin ?_); ((with_reducible show wpAny _ _ (binaryOp _ (Value.ref _) (Value.ref _)) _ _ _); k_dflt (refine' kmk_add_lit ?F9 ?N9 ?a9 ?b9 ?e9 ?_ ?z9; (case F9 => k_asm); (case N9 => k_asm); (case a9 => is_list); (case b9 => is_list); (case e9 => exact rfl); (case z9 => (show _ ≤ 16777216; (try simp only [List.toList_toArray, List.length_map, List.length_zip, List.length_append, List.length_cons, List.length_nil]); omega))); intro D'9 h'9 F'9 N'9 l1; (try k_lt l1); (try k_sweep))) | ((fail_if_success fail_if_success with_reducible refine at_sub ?_); ((with_reducible show wpAny _ _ (subscriptTail _ _ (Value.ref _) (Value.int _ _)) _ _ _); k_dflt (refine' pick_str ?t9 ?st9 ?h09 ?h19 ?h29 ?_ ?hs9; (case t9 => first | exact News.isTup (by k_asm) (by k_mem) | exact Fr.tup (by k_asm) (by assumption)); (case st9 => first | exact .cons _ _ (.cons _ _ (.cons _ _ (.cons _ _ (.cons _ _ .nil)))) | exact .cons _ _ (.cons _ _ (.cons _ _ (.cons _ _ .nil)))); (case h09 => omega); (case h19 => (simp only [List.length_cons, List.length_nil]; omega)); (case h29 => omega); (case hs9 => with_unfolding_all rfl); k_whole); intro y'9 t'9 hy'9)) | wtm_at "s2"))
    · unfold Hold
      rename Fr _ _ _ _ => F1
      rename News _ _ _ _ => N1
      refine leafs_spec (sx_of S F1 N1 (.head _)) (by simp only [depth_deeper]; omega) (by simp only [units_deeper]; omega) (by omega) (by omega) ?_
      intro r h' tk' O
      have z := N1.get (.head _)
      exact hQ _ _ _ (O.lift (n + 1) (xb_of F1) z (by omega) (by omega))
    · unfold Hold
      rename Fr _ _ _ _ => F1
      rename News _ _ _ _ => N1
      rw [show ((n + 1 : Nat) : Int) - 1 = (n : Int) from by omega]
      refine ih _ _ _ _ _ _ _ _ _ (sx_of S F1 N1 (.head _)) (by simp only [depth_deeper]; omega) (by simp only [units_deeper]; omega) (by omega) (by omega) (by omega) ?_
      intro r1 h1 tk1 O1
      obtain ⟨o1, f1, d1, its1, k1, k1', at1, t1, n1, sn1, F2, N2, b1, b2, sa1, T1, l1, r1s, f1s, s1s⟩ := after_out F1 N1 (.head _) (rest := []) (fun p hp => nomatch hp) O1
      rw [List.append_nil] at N2
      clear F1 N1 O1
      (repeat' (first | wtm_at "s1" | ((fail_if_success fail_if_success with_reducible refine at_call ?_); (first | (with_reducible refine hold_at 411 ?_) | (with_reducible refine hold_at 404 ?_) | ((with_reducible show wpAny _ _ (call (Value.ref 372) _) _ _ _); k_dflt (refine' draw_walk ?sS9 ?sF9 ?sN9 ?sm9 ?sU9 ?sd9 ?su9 ?b19 ?b29 ?b39 ?b49 ?_; (case sS9 => assumption); (case sF9 => k_asm); (case sN9 => k_asm); (case sm9 => k_mem); (case sU9 => (intro t9 n9; k_upd)); (case sd9 => first | exact rm1 hdp rfl rfl | wtm_at "D"); (case su9 => first | exact um1 hun rfl rfl | wtm_at "U"); (case b19 => omega); (case b29 => omega); (case b39 => decide); (case b49 => decide); k_whole); intro k'9 h'9 tk'9 tk2'9 t2'9 n2'9 hk0'9 hk1'9 F'9 N'9; (try k_sweep)))) | ((fail_if_success fail_if_success with_reducible refine at_bin ?_); ((with_reducible show wpAny _ _ (binaryOp _ (Value.ref _) (Value.ref _)) _ _ _); k_dflt (refine' kmk_add_lit ?F9 ?N9 ?a9 ?b9 ?e9 ?_ ?z9; (case F9 => k_asm); (case N9 => k_asm); (case a9 => is_list); (case b9 => is_list); (case e9 => exact rfl); (case z9 => (show _ ≤ 16777216; (try simp only [List.toList_toArray, List.length_map, List.length_zip, List.length_append, List.length_cons, List.length_nil]); omega))); intro D'9 h'9 F'9 N'9 l1; (try k_lt l1); (try k_sweep))) | ((fail_if_success fail_if_success with_reducible refine at_sub ?_); ((with_reducible show wpAny _ _ (subscriptTail _ _ (Value.ref _) (Value.int _ _)) _ _ _); k_dflt (refine' pick_str ?t9 ?st9 ?h09 ?h19 ?h29 ?_ ?hs9; (case t9 => first | exact News.isTup (by k_asm) (by k_mem) | exact Fr.tup (by k_asm) (by assumption)); (case st9 => first | exact .cons _ _ (.cons _ _ (.cons _ _ (.cons _ _ (.cons _ _ .nil)))) | exact .cons _ _ (.cons _ _ (.cons _ _ (.cons _ _ .nil)))); (case h09 => omega); (case h19 => (simp only [List.length_cons, List.length_nil]; omega)); (case h29 => omega); (case hs9 => with_unfolding_all rfl); k_whole); intro y'9 t'9 hy'9)) | wtm_at "s2"))
      · rename Fr _ _ _ _ => F9
        rename News _ _ _ _ => N9
        exact hQ _ _ _ (Out.of (xb_of F9) (sx_of S F9 N9 (.tail _ (.tail _ (.tail _ (.tail _ (.head _)))))) (by omega) (by omega) (nb_of N9 (.head _) (by k_ne)) (nb_of N9 (.tail _ (.tail _ (.tail _ (.head _)))) f1s) sa1
          (.neg (nb_of N9 (.tail _ (.head _)) (by k_ne)) (T1.mono fun b ob z => nb_of N9 (.tail _ (.tail _ (.tail _ (.tail _ (.tail _ z))))) (s1s _ z))) (by rw [dl_succ]; omega))
      · unfold Hold
        rename Fr _ _ _ _ => F1
        rename News _ _ _ _ => N1
        rw [show ((n + 1 : Nat) : Int) - 1 = (n : Int) from by omega]
        refine ih _ _ _ _ _ _ _ _ _ (sx_of S F1 N1 (.tail _ (.tail _ (.head _)))) (by simp only [depth_deeper]; omega) (by simp only [units_deeper]; omega) (by omega) (by omega) (by omega) ?_
        intro r2 h2 tk2 O2
        obtain ⟨o2, f2, d2, its2, k2, k2', at2, t2, n2, sn2, F3, N3, c1, c2, sa2, T2, l2, r2s, f2s, s2s⟩ := after_out F1 N1 (.tail _ (.tail _ (.head _))) (rest := (f1, listOf (List.toArray its1) k1') :: sn1) (fun p hp => by
          rcases List.mem_cons.mp hp with rfl | hp
          · exact ⟨.tail _ (.head _), f1s⟩
          · exact ⟨.tail _ (.tail _ (.tail _ hp)), s1s p hp⟩) O2
        obtain ⟨tl, htl⟩ : ∃ tl, tl = sn2 ++ (f1, listOf (List.toArray its1) k1') :: sn1 := ⟨_, rfl⟩
        rw [← htl] at N3
        have q1 : (f1, listOf (List.toArray its1) k1') ∈ tl := by rw [htl]; exact List.mem_append_right _ (.head _)
        have q2 : ∀ p ∈ sn2, p ∈ tl := fun p hp => by rw [htl]; exact List.mem_append_left _ hp
        have q3 : ∀ p ∈ sn1, p ∈ tl := fun p hp => by rw [htl]; exact List.mem_append_right _ (.tail _ hp)
        have q4 : ∀ p ∈ tl, p.1 ≠ src := fun p hp => by
          rw [htl] at hp
          rcases List.mem_append.mp hp with hp | hp
          · exact s2s p hp
          rcases List.mem_cons.mp hp with rfl | hp
          · exact f1s
          · exact s1s p hp
        have hz1 := sa_len sa1
        have hz2 := sa_len sa2
        clear F1 N1 O2 htl
        (repeat' (first | wtm_at "s1" | ((fail_if_success fail_if_success with_reducible refine at_call ?_); (first | (with_reducible refine hold_at 411 ?_) | (with_reducible refine hold_at 404 ?_) | ((with_reducible show wpAny _ _ (call (Value.ref 372) _) _ _ _); k_dflt (refine' draw_walk ?sS9 ?sF9 ?sN9 ?sm9 ?sU9 ?sd9 ?su9 ?b19 ?b29 ?b39 ?b49 ?_; (case sS9 => assumption); (case sF9 => k_asm); (case sN9 => k_asm); (case sm9 => k_mem); (case sU9 => (intro t9 n9; k_upd)); (case sd9 => first | exact rm1 hdp rfl rfl | wtm_at "D"); (case su9 => first | exact um1 hun rfl rfl | wtm_at "U"); (case b19 => omega); (case b29 => omega); (case b39 => decide); (case b49 => decide); k_whole); intro k'9 h'9 tk'9 tk2'9 t2'9 n2'9 hk0'9 hk1'9 F'9 N'9; (try k_sweep)))) | ((fail_if_success fail_if_success with_reducible refine at_bin ?_); ((with_reducible show wpAny _ _ (binaryOp _ (Value.ref _) (Value.ref _)) _ _ _); k_dflt (refine' kmk_add_lit ?F9 ?N9 ?a9 ?b9 ?e9 ?_ ?z9; (case F9 => k_asm); (case N9 => k_asm); (case a9 => is_list); (case b9 => is_list); (case e9 => exact rfl); (case z9 => (show _ ≤ 16777216; (try simp only [List.toList_toArray, List.length_map, List.length_zip, List.length_append, List.length_cons, List.length_nil]); omega))); intro D'9 h'9 F'9 N'9 l1; (try k_lt l1); (try k_sweep))) | ((fail_if_success fail_if_success with_reducible refine at_sub ?_); ((with_reducible show wpAny _ _ (subscriptTail _ _ (Value.ref _) (Value.int _ _)) _ _ _); k_dflt (refine' pick_str ?t9 ?st9 ?h09 ?h19 ?h29 ?_ ?hs9; (case t9 => first | exact News.isTup (by k_asm) (by k_mem) | exact Fr.tup (by k_asm) (by assumption)); (case st9 => first | exact .cons _ _ (.cons _ _ (.cons _ _ (.cons _ _ (.cons _ _ .nil)))) | exact .cons _ _ (.cons _ _ (.cons _ _ (.cons _ _ .nil)))); (case h09 => omega); (case h19 => (simp only [List.length_cons, List.length_nil]; omega)); (case h29 => omega); (case hs9 => with_unfolding_all rfl); k_whole); intro y'9 t'9 hy'9)) | wtm_at "s2"))
        rename Fr _ _ _ _ => F9
        rename News _ _ _ _ => N9
        rename _ ∈ [Str.ofString "+", _, _, _, _] => hop
        refine hQ _ _ _ (Out.of (xb_of F9) (sx_of S F9 N9 (.tail _ (.tail _ (.tail _ (.tail _ (.tail _ (.tail _ (.head _)))))))) (by omega) (by omega) (nb_of N9 (.head _) (by k_ne)) (nb_of N9 (.tail _ (.head _)) (by k_ne)) (sa_app sa1 sa2)
          (.bin (nb_of N9 (.tail _ (.tail _ (.head _))) (by k_ne)) hop (T1.mono fun b ob z => nb_of N9 (tl7 (q3 _ z)) (q4 _ (q3 _ z))) (T2.mono fun b ob z => nb_of N9 (tl7 (q2 _ z)) (q4 _ (q2 _ z)))) (by rw [dl_succ, List.length_append]; omega))
end
end
section
-- Q31
example : True := by
  w_top off
  trivial
theorem mk_any {prog : Program} {A : Around} {K : Frag} {C fI : Addr} {pos : List Value} (X : K.In s.heap) (hm : makesIn K C = true) (hi : findIn K (.ref C) "__init__" = some (some (.ref fI))) (hf : isFn K (.ref fI) = true)
    (h : ∀ x dx h', Ext s.heap h' → s.heap.objs.size ≤ h'.objs.size → x ≠ dx → (∀ p ∈ [(x, instObj C dx), (dx, dictOf [] 0)], h'.get? p.1 = some p.2 ∧ s.heap.get? p.1 = none) →
      codeAny (model prog w) (A.under (.builtin "type.__call__" ⟨.ref C :: pos, []⟩)) (.call (.ref fI) ⟨.ref x :: pos, []⟩) (InitBack x fun r s' => match r with | .ok (.ret v) => Q v s' | .ok _ => False | .error e => E e s') { s with heap := h' }) :
    wpAny (model prog w) A (call (.ref C) pos) Q E s := by
  obtain ⟨hh, g, d, t, os⟩ := s
  refine wpAny_call (make_core (makes_of X hm) (looks_findIn X hi) (fun self => bind_fn X self (beq_iff_eq.mp hf)) (.inl rfl) (h _ hh.objs.size _ (fun b o e => Heap.get?_push_of_some _ (Heap.get?_push_of_some _ e)) ?_ (Nat.succ_ne_self _) ?_))
  · show hh.objs.size ≤ _
    rw [Heap.size_push, Heap.size_push]; omega
  · intro p hp
    have e1 := Heap.get?_push_size hh (o := emptyDict) rfl
    have e2 := Heap.get?_push_size (hh.push emptyDict) (o := instObj C hh.objs.size) rfl
    rw [Heap.size_push] at e2
    rcases List.mem_cons.mp hp with rfl | hp
    · exact ⟨e2, by
        cases q : hh.get? (hh.objs.size + 1) with
        | none => rfl
        | some o => exact absurd (Heap.lt_size q) (Nat.not_lt.mpr (Nat.le_succ _))⟩
    · rw [List.mem_singleton.mp hp]
      exact ⟨Heap.get?_push_of_some _ e1, by
        cases q : hh.get? hh.objs.size with
        | none => rfl
        | some o => exact absurd (Heap.lt_size q) (Nat.lt_irrefl _)⟩
theorem isStr_ne {a b : Str} {k : Value} (ne : (b == a) = false) (h : k.isStr a = true) : k.isStr b = false := by
  cases q : k.isStr b with
  | false => rfl
  | true =>
    exfalso
    cases k <;> first | (cases h; done) | skip
    have h : (_ == a) = true := h
    have q : (_ == b) = true := q
    rw [← eq_of_beq q, ← eq_of_beq h, beq_self_eq_true] at ne; cases ne
theorem find_put {a b : Str} {hsh : Int} {t : Tok} {v : Value} (ne : (b == a) = false) : ∀ es : List DictEntry, (putL a hsh (.str a t) v es).find? (fun x => x.key.isStr b) = es.find? (fun x => x.key.isStr b)
  | [] => by
    show List.find? _ [(⟨hsh, .str a t, v⟩ : DictEntry)] = _
    rw [List.find?_cons, isStr_ne ne (show (Value.str a t).isStr a = true from beq_self_eq_true a)]
  | e :: r => by
    unfold putL
    cases he : e.key.isStr a with
    | true => rw [if_pos rfl, List.find?_cons, List.find?_cons, isStr_ne ne he]
    | false => rw [if_neg Bool.false_ne_true, List.find?_cons, List.find?_cons, find_put ne r]
theorem any_put {a : Str} {hsh : Int} {t : Tok} {v : Value} : ∀ es : List DictEntry, (putL a hsh (.str a t) v es).any (·.refKey) = es.any (·.refKey)
  | [] => rfl
  | e :: r => by
    unfold putL
    cases he : e.key.isStr a with
    | true => rw [if_pos rfl, List.any_cons, List.any_cons]; rfl
    | false => rw [if_neg Bool.false_ne_true, List.any_cons, List.any_cons, any_put r]
theorem getL_put {a b : Str} {hsh : Int} {t : Tok} {v : Value} (ne : (b == a) = false) (es : List DictEntry) : getL b (putL a hsh (.str a t) v es) = getL b es := by
  unfold getL
  rw [find_put ne, any_put]
theorem getL_same {a : Str} {hsh : Int} {t : Tok} {v : Value} : ∀ es : List DictEntry, getL a (putL a hsh (.str a t) v es) = some (some v)
  | [] => by
    show getL a [⟨hsh, .str a t, v⟩] = _
    unfold getL
    have e1 : (Value.str a t).isStr a = true := beq_self_eq_true a
    rw [List.find?_cons, e1]
  | e :: r => by
    have ih := getL_same (a := a) (t := t) (hsh := hsh) (v := v) r
    unfold putL
    cases he : e.key.isStr a with
    | true =>
      rw [if_pos rfl]
      unfold getL
      rw [List.find?_cons]
      simp only [he]
    | false =>
      rw [if_neg Bool.false_ne_true]
      unfold getL at ih ⊢
      rw [List.find?_cons]
      simp only [he, List.any_cons]
      revert ih
      cases h1 : List.find? (fun x => x.key.isStr a) (putL a hsh (Value.str a t) v r) with
      | some x => exact fun ih => ih
      | none =>
        intro ih
        simp only at ih
        split at ih <;> cases ih
theorem putL_len {a : Str} {hsh : Int} {k v : Value} : ∀ {es : List DictEntry}, (getL a es).isSome = true → getL a es ≠ some none → (putL a hsh k v es).length = es.length
  | [], _, h => absurd rfl h
  | e :: r, h0, h => by
    unfold putL
    cases he : e.key.isStr a with
    | true => rw [if_pos rfl]; rfl
    | false =>
      rw [if_neg Bool.false_ne_true, List.length_cons, List.length_cons]
      have e1 : (e :: r).find? (fun x => x.key.isStr a) = r.find? (fun x => x.key.isStr a) := by rw [List.find?_cons]; simp only [he]
      refine congrArg (· + 1) (putL_len ?_ ?_)
      · unfold getL at h0 h ⊢
        rw [e1] at h0 h
        cases q : r.find? (fun x => x.key.isStr a) with
        | some x => rfl
        | none =>
          rw [q] at h0 h
          simp only [List.any_cons] at h0 h
          cases z : e.refKey <;> simp_all
      · unfold getL at h0 h ⊢
        rw [e1] at h0 h
        cases q : r.find? (fun x => x.key.isStr a) with
        | some x => simp
        | none =>
          rw [q] at h0 h
          simp only [List.any_cons] at h0 h
          cases z : e.refKey <;> simp_all
/-- an item's own names -/
noncomputable def ItD (es : List DictEntry) (nm : Str) (par occ shp : Value) (kl : Addr) : Prop :=
  es.length ≤ 19 ∧ (∃ tn, getL (Str.ofString "name") es = some (some (.str nm tn))) ∧ getL (Str.ofString "parent") es = some (some par) ∧ getL (Str.ofString "occurs") es = some (some occ) ∧
    getL (Str.ofString "shape") es = some (some shp) ∧ getL (Str.ofString "kids") es = some (some (.ref kl)) ∧ getL (Str.ofString "add") es = some none
theorem ItD.shape {es : List DictEntry} {nm : Str} {par occ shp v : Value} {kl : Addr} {hsh : Int} {t : Tok} (i : ItD es nm par occ shp kl) : ItD (putL (Str.ofString "shape") hsh (.str (Str.ofString "shape") t) v es) nm par occ v kl := by
  obtain ⟨a, ⟨tn, b⟩, c, d, e, f, g⟩ := i
  exact ⟨by rw [putL_len (by rw [e]; rfl) (by rw [e]; simp)]; exact a, ⟨tn, by rw [getL_put (by decide +kernel)]; exact b⟩, by rw [getL_put (by decide +kernel)]; exact c, by rw [getL_put (by decide +kernel)]; exact d, getL_same _, by rw [getL_put (by decide +kernel)]; exact f, by rw [getL_put (by decide +kernel)]; exact g⟩
theorem ItD.occurs {es : List DictEntry} {nm : Str} {par occ shp v : Value} {kl : Addr} {hsh : Int} {t : Tok} (i : ItD es nm par occ shp kl) : ItD (putL (Str.ofString "occurs") hsh (.str (Str.ofString "occurs") t) v es) nm par v shp kl := by
  obtain ⟨a, ⟨tn, b⟩, c, d, e, f, g⟩ := i
  exact ⟨by rw [putL_len (by rw [d]; rfl) (by rw [d]; simp)]; exact a, ⟨tn, by rw [getL_put (by decide +kernel)]; exact b⟩, by rw [getL_put (by decide +kernel)]; exact c, getL_same _, by rw [getL_put (by decide +kernel)]; exact e, by rw [getL_put (by decide +kernel)]; exact f, by rw [getL_put (by decide +kernel)]; exact g⟩
theorem ItD.parent {es : List DictEntry} {nm : Str} {par occ shp v : Value} {kl : Addr} {hsh : Int} {t : Tok} (i : ItD es nm par occ shp kl) : ItD (putL (Str.ofString "parent") hsh (.str (Str.ofString "parent") t) v es) nm v occ shp kl := by
  obtain ⟨a, ⟨tn, b⟩, c, d, e, f, g⟩ := i
  exact ⟨by rw [putL_len (by rw [c]; rfl) (by rw [c]; simp)]; exact a, ⟨tn, by rw [getL_put (by decide +kernel)]; exact b⟩, getL_same _, by rw [getL_put (by decide +kernel)]; exact d, by rw [getL_put (by decide +kernel)]; exact e, by rw [getL_put (by decide +kernel)]; exact f, by rw [getL_put (by decide +kernel)]; exact g⟩
section
theorem mkItem_spec {lv : Int} {t0 : Tok} {nm : Str} {t1 : Tok} (X : (hd.heap_39 w.params).In s.heap) (T : Top V LS mean mg mb s.heap) (hdp : dp + 4 < 900) (hun : un + 40 < 9000)
    (hQ : ∀ x dx kl cl es n h' tk, Ext s.heap h' → ItD es nm .none .none .none kl → (∀ p ∈ [(kl, listOf #[] 0), (cl, listOf #[] 0), (x, instObj 136 dx), (dx, dictOf es n)], h'.get? p.1 = some p.2 ∧ s.heap.get? p.1 = none) → (dx ≠ x ∧ kl ≠ x ∧ kl ≠ dx ∧ cl ≠ x ∧ cl ≠ dx ∧ cl ≠ kl) → Q (.ref x) { s with heap := h', toks := tk }) :
    wpAny (model PySem.Challenge.rw_og0093_01.row.prog w) (AT none dp fr gd un) (call (.ref 136) [.int lv t0, .str nm t1]) Q E s := by
  refine mk_any X (by k_is) (by k_is) (by k_is) ?_
  intro x dx h' hS hZ hxd hN
  have X2 := X.keeps hS
  ((k_dflt (refine' code0G ?kS9 ?kZ9 ?kN9 ?k19 ?k59 ?k69 ?k79 ?k89 ?k99 ?kB9 ?_ ?c29 ?c39 ?c49 ?c59; (case kS9 => assumption); (case kZ9 => assumption); (case kN9 => assumption); (case k19 => k_asm); (case k59 => k_asm); (case k69 => k_is); (case k79 => k_is); (case k89 => (simp only [recursionLimit, depth_under_make]; omega)); (case k99 => first | exact BindsTo.of_eq rfl | exact binds_K (by assumption) rfl (by k_is) rfl rfl rfl); (case c59 => decide); (case kB9 => exact locs rfl); (case c29 => exact rfl); (case c39 => exact rfl); (case c49 => exact rfl); k_whole; intro L'9 h'9 F'9 N'9 X'9 T'9; (try dsimp only); (try k_fold))))
  k_steps
  rename Fr _ _ _ _ => F9
  rename News _ _ _ _ => N9
  exact ⟨rfl, hQ _ _ _ _ _ _ _ _ F9.keep ⟨by exact Nat.le_of_ble_eq_true rfl, ⟨_, rfl⟩, rfl, rfl, rfl, rfl, rfl⟩ (fun p hp => ⟨N9.get hp, N9.fresh hp⟩) ⟨by k_ne, by k_ne, by k_ne, by k_ne, by k_ne, by k_ne⟩⟩
theorem mkShape_spec {cat : Str} {sz : Int} {t0 t1 : Tok} (X : (hd.heap_39 w.params).In s.heap) (T : Top V LS mean mg mb s.heap) (hdp : dp + 4 < 900) (hun : un + 40 < 9000)
    (hQ : ∀ x dx es n h' tk, Ext s.heap h' → (∃ t, getL (Str.ofString "category") es = some (some (.str cat t))) → (∀ p ∈ [(x, instObj 353 dx), (dx, dictOf es n)], h'.get? p.1 = some p.2 ∧ s.heap.get? p.1 = none) → dx ≠ x → Q (.ref x) { s with heap := h', toks := tk }) :
    wpAny (model PySem.Challenge.rw_og0093_01.row.prog w) (AT none dp fr gd un) (call (.ref 353) [.str cat t0, .int sz t1]) Q E s := by
  refine mk_any X (by k_is) (by k_is) (by k_is) ?_
  intro x dx h' hS hZ hxd hN
  have X2 := X.keeps hS
  ((k_dflt (refine' code0G ?kS9 ?kZ9 ?kN9 ?k19 ?k59 ?k69 ?k79 ?k89 ?k99 ?kB9 ?_ ?c29 ?c39 ?c49 ?c59; (case kS9 => assumption); (case kZ9 => assumption); (case kN9 => assumption); (case k19 => k_asm); (case k59 => k_asm); (case k69 => k_is); (case k79 => k_is); (case k89 => (simp only [recursionLimit, depth_under_make]; omega)); (case k99 => first | exact BindsTo.of_eq rfl | exact binds_K (by assumption) rfl (by k_is) rfl rfl rfl); (case c59 => decide); (case kB9 => exact locs rfl); (case c29 => exact rfl); (case c39 => exact rfl); (case c49 => exact rfl); k_whole; intro L'9 h'9 F'9 N'9 X'9 T'9; (try dsimp only); (try k_fold))))
  k_steps
  rename Fr _ _ _ _ => F9
  rename News _ _ _ _ => N9
  exact ⟨rfl, hQ _ _ _ _ _ _ F9.keep ⟨_, rfl⟩ (fun p hp => ⟨N9.get hp, N9.fresh hp⟩) (by k_ne)⟩
end
end
section
-- Q32
example : True := by
  w_top off
  trivial
theorem newsAddAll {h₀ h h' : Heap} {L : Addr} {m : Str → Option Value} {news ls : List (Addr × Obj)} (F : Fr h₀ L h m) (N : News h₀ L h news) (hE : Ext h h') (hs : ∀ p ∈ ls, h'.get? p.1 = some p.2 ∧ h.get? p.1 = none) : News h₀ L h' (ls ++ news) := by
  intro p hp
  rcases List.mem_append.mp hp with hp | hp
  · exact ⟨(hs p hp).1, noneOf F (hs p hp).2⟩
  · exact newsKeep N hE p hp
theorem newsNeAll {h₀ h h' : Heap} {L : Addr} {news ls : List (Addr × Obj)} (N : News h₀ L h news) (hs : ∀ p ∈ ls, h'.get? p.1 = some p.2 ∧ h.get? p.1 = none) : ∀ q ∈ ls, ∀ p ∈ news, p.1 ≠ q.1 := fun q hq p hp => newsNe N (hs q hq).2 p hp
theorem set_shape {A : Around} {h₀ : Heap} {L x dx kl : Addr} {m : Str → Option Value} {news : List (Addr × Obj)} {news' : List DictEntry → Nat → List (Addr × Obj)} {es : List DictEntry} {n : Nat} {nm : Str} {par occ shp v : Value} {Q : Unit → Shared → Prop}
    (F : Fr h₀ L s.heap m) (X : (hd.heap_39 w.params).In h₀) (N : News h₀ L s.heap news) (h1 : (x, instObj 136 dx) ∈ news) (h2 : (dx, dictOf es n) ∈ news) (P : ItD es nm par occ shp kl) (U : ∀ es2 n2, Upd dx (dictOf es n) (dictOf es2 n2) news (news' es2 n2))
    (h : ∀ es2 n2 h' tk, ItD es2 nm par occ v kl → Fr h₀ L h' m → News h₀ L h' (news' es2 n2) → Q () { s with heap := h', toks := tk }) : wpAny (model PySem.Challenge.rw_og0093_01.row.prog w) A (setAttr (.ref x) (Str.ofString "shape") v) Q E s := by
  have P2 := P.shape (hsh := PyData.keyHash w.params (Str.ofString "shape")) (t := s.toks + 1) (v := v)
  refine set_dict F X N (InstAt.of_news N h1 h2) rfl (by k_is) (by k_is) (by k_is) (by k_is) ?_ rfl (U _ _) (Nat.le_trans P2.1 (Nat.le_of_ble_eq_true rfl)) fun h' F' N' => h _ _ _ _ P2 F' N'
  obtain ⟨a, ⟨tn, b⟩, c, d, e, f, g⟩ := P
  first | (rw [c]; rfl) | (rw [d]; rfl) | (rw [e]; rfl)
theorem set_occurs {A : Around} {h₀ : Heap} {L x dx kl : Addr} {m : Str → Option Value} {news : List (Addr × Obj)} {news' : List DictEntry → Nat → List (Addr × Obj)} {es : List DictEntry} {n : Nat} {nm : Str} {par occ shp v : Value} {Q : Unit → Shared → Prop}
    (F : Fr h₀ L s.heap m) (X : (hd.heap_39 w.params).In h₀) (N : News h₀ L s.heap news) (h1 : (x, instObj 136 dx) ∈ news) (h2 : (dx, dictOf es n) ∈ news) (P : ItD es nm par occ shp kl) (U : ∀ es2 n2, Upd dx (dictOf es n) (dictOf es2 n2) news (news' es2 n2))
    (h : ∀ es2 n2 h' tk, ItD es2 nm par v shp kl → Fr h₀ L h' m → News h₀ L h' (news' es2 n2) → Q () { s with heap := h', toks := tk }) : wpAny (model PySem.Challenge.rw_og0093_01.row.prog w) A (setAttr (.ref x) (Str.ofString "occurs") v) Q E s := by
  have P2 := P.occurs (hsh := PyData.keyHash w.params (Str.ofString "occurs")) (t := s.toks + 1) (v := v)
  refine set_dict F X N (InstAt.of_news N h1 h2) rfl (by k_is) (by k_is) (by k_is) (by k_is) ?_ rfl (U _ _) (Nat.le_trans P2.1 (Nat.le_of_ble_eq_true rfl)) fun h' F' N' => h _ _ _ _ P2 F' N'
  obtain ⟨a, ⟨tn, b⟩, c, d, e, f, g⟩ := P
  first | (rw [c]; rfl) | (rw [d]; rfl) | (rw [e]; rfl)
theorem set_parent {A : Around} {h₀ : Heap} {L x dx kl : Addr} {m : Str → Option Value} {news : List (Addr × Obj)} {news' : List DictEntry → Nat → List (Addr × Obj)} {es : List DictEntry} {n : Nat} {nm : Str} {par occ shp v : Value} {Q : Unit → Shared → Prop}
    (F : Fr h₀ L s.heap m) (X : (hd.heap_39 w.params).In h₀) (N : News h₀ L s.heap news) (h1 : (x, instObj 136 dx) ∈ news) (h2 : (dx, dictOf es n) ∈ news) (P : ItD es nm par occ shp kl) (U : ∀ es2 n2, Upd dx (dictOf es n) (dictOf es2 n2) news (news' es2 n2))
    (h : ∀ es2 n2 h' tk, ItD es2 nm v occ shp kl → Fr h₀ L h' m → News h₀ L h' (news' es2 n2) → Q () { s with heap := h', toks := tk }) : wpAny (model PySem.Challenge.rw_og0093_01.row.prog w) A (setAttr (.ref x) (Str.ofString "parent") v) Q E s := by
  have P2 := P.parent (hsh := PyData.keyHash w.params (Str.ofString "parent")) (t := s.toks + 1) (v := v)
  refine set_dict F X N (InstAt.of_news N h1 h2) rfl (by k_is) (by k_is) (by k_is) (by k_is) ?_ rfl (U _ _) (Nat.le_trans P2.1 (Nat.le_of_ble_eq_true rfl)) fun h' F' N' => h _ _ _ _ P2 F' N'
  obtain ⟨a, ⟨tn, b⟩, c, d, e, f, g⟩ := P
  first | (rw [c]; rfl) | (rw [d]; rfl) | (rw [e]; rfl)
theorem fr_over {b h h' : Heap} {L : Addr} {m : Str → Option Value} {news : List (Addr × Obj)} {xs : List Addr} (F : Fr b L h m) (N : News b L h news) (hx : ∀ a ∈ xs, ∃ o, (a, o) ∈ news) (E9 : ∀ a o, a ∉ xs → h.get? a = some o → h'.get? a = some o) : Fr b L h' m := by
  refine ⟨?_, fun a o q => E9 _ _ (fun hm => ?_) (F.keep _ _ q), F.above⟩
  · obtain ⟨o, es, ep, ho, hd, r⟩ := F.ns
    refine ⟨o, es, ep, E9 _ _ (fun hm => ?_) ho, hd, r⟩
    obtain ⟨o2, h2⟩ := hx _ hm
    exact (N _ h2).2.1 rfl
  · obtain ⟨o2, h2⟩ := hx _ hm
    have := (N _ h2).2.2
    rw [q] at this; cases this
section
theorem add_walk {b : Heap} {L x dx kl it di ki : Addr} {m : Str → Option Value} {nm nx : Str} {par occ shp px ox sx : Value} {es esx : List DictEntry} {n nx' kn : Nat} {ks : List Value} {news : List (Addr × Obj)} {news' : List DictEntry → Nat → Nat → List (Addr × Obj)}
    (F : Fr b L s.heap m) (N : News b L s.heap news) (X : (hd.heap_39 w.params).In b) (T : Top V LS mean mg mb b) (hdp : dp + 10 < 900) (hun : un + 100 < 9000)
    (r1 : b.get? x = some (instObj 136 dx)) (r2 : b.get? dx = some (dictOf esx nx')) (P : ItD esx nx px ox sx kl) (h1 : (it, instObj 136 di) ∈ news) (h2 : (di, dictOf es n) ∈ news) (P2 : ItD es nm par occ shp ki) (h3 : (kl, listOf ks.toArray kn) ∈ news) (hks : ks.length ≤ 100)
    (n1 : di ≠ it) (n2 : kl ≠ it) (n3 : kl ≠ di)
    (hn : ∀ es2 n2 kn2, ∀ p ∈ news' es2 n2 kn2, p = (di, dictOf es2 n2) ∨ p = (kl, listOf (ks ++ [Value.ref it]).toArray kn2) ∨ (p ∈ news ∧ p.1 ≠ di ∧ p.1 ≠ kl))
    (hQ : ∀ es2 n2 kn2 h' tk, ItD es2 nm (.ref x) occ shp ki → Fr b L h' m → News b L h' (news' es2 n2 kn2) → Q .none { s with heap := h', toks := tk }) :
    wpAny (model PySem.Challenge.rw_og0093_01.row.prog w) (AT none dp fr gd un) (call (.ref 114) [.ref x, .ref it]) Q E s := by
  have hS : Ext (hideAll s.heap [it, di, kl]) s.heap := fun b o q => of_hideAll _ q
  have hZ : (hideAll s.heap [it, di, kl]).objs.size ≤ s.heap.objs.size := Nat.le_of_eq (hideAll_size _ _)
  have hN : ∀ p ∈ [(it, instObj 136 di), (di, dictOf es n), (kl, listOf ks.toArray kn)], s.heap.get? p.1 = some p.2 ∧ (hideAll s.heap [it, di, kl]).get? p.1 = none := fun p hp => by
    rcases List.mem_cons.mp hp with rfl | hp
    · exact ⟨N.get h1, hideAll_none _ (.head _)⟩
    rcases List.mem_cons.mp hp with rfl | hp
    · exact ⟨N.get h2, hideAll_none _ (.tail _ (.head _))⟩
    rw [List.mem_singleton.mp hp]
    exact ⟨N.get h3, hideAll_none _ (.tail _ (.tail _ (.head _)))⟩
  have hb : Ext b (hideAll s.heap [it, di, kl]) := fun a o q => hideAll_get _ (F.keep _ _ q) fun hm => by
    rcases List.mem_cons.mp hm with rfl | hm
    · rw [N.fresh h1] at q; cases q
    rcases List.mem_cons.mp hm with rfl | hm
    · rw [N.fresh h2] at q; cases q
    rw [List.mem_singleton.mp hm, N.fresh h3] at q; cases q
  have fin : ∀ es2 n2 kn2 h9 tk L9 m9, ItD es2 nm (.ref x) occ shp ki → Fr (hideAll s.heap [it, di, kl]) L9 h9 m9 → News (hideAll s.heap [it, di, kl]) L9 h9 [(it, instObj 136 di), (di, dictOf es2 n2), (kl, listOf (ks ++ [Value.ref it]).toArray kn2)] → Q .none { s with heap := h9, toks := tk } := by
    intro es2 n2 kn2 h9 tk L9 m9 PP F9 N9
    have e9 : ∀ a o, a ∉ [it, di, kl] → s.heap.get? a = some o → h9.get? a = some o := fun a o hm q => F9.keep _ _ (hideAll_get _ q hm)
    refine hQ es2 n2 kn2 h9 tk PP (fr_over F N (fun a hm => ?_) e9) fun p hp => ?_
    · rcases List.mem_cons.mp hm with rfl | hm
      · exact ⟨_, h1⟩
      rcases List.mem_cons.mp hm with rfl | hm
      · exact ⟨_, h2⟩
      rw [List.mem_singleton.mp hm]
      exact ⟨_, h3⟩
    · rcases hn _ _ _ p hp with rfl | rfl | ⟨q, q1, q2⟩
      · exact ⟨N9.get (.tail _ (.head _)), (N _ h2).2⟩
      · exact ⟨N9.get (.tail _ (.tail _ (.head _))), (N _ h3).2⟩
      · refine ⟨?_, (N _ q).2⟩
        by_cases z : p.1 = it
        · have e1 := N.get (a := p.1) (o := p.2) q
          rw [z] at e1 ⊢
          rw [N.get h1] at e1
          rw [← Option.some.inj e1]
          exact N9.get (.head _)
        · exact e9 _ _ (fun hm => by
            rcases List.mem_cons.mp hm with e | hm
            · exact z e
            rcases List.mem_cons.mp hm with e | hm
            · exact q1 e
            · exact q2 (List.mem_singleton.mp hm)) (N.get (a := p.1) (o := p.2) q)
  clear hn hQ
  have r1 := hb _ _ r1
  have r2 := hb _ _ r2
  have X := X.keeps hb
  have T := T.keeps hb
  have X2 := X.keeps hS
  clear F N h1 h2 h3
  obtain ⟨_, ⟨_, _⟩, _, _, _, _, _⟩ := id P
  clear P
  ((refine wpAny_call ?_; k_dflt (refine' code0G ?kS9 ?kZ9 ?kN9 ?k19 ?k59 ?k69 ?k79 ?k89 ?k99 ?kB9 ?_ ?c29 ?c39 ?c49 ?c59; (case kS9 => assumption); (case kZ9 => assumption); (case kN9 => assumption); (case k19 => k_asm); (case k59 => k_asm); (case k69 => k_is); (case k79 => k_is); (case k89 => (simp only [recursionLimit]; omega)); (case k99 => first | exact BindsTo.of_eq rfl | exact binds_K (by assumption) rfl (by k_is) rfl rfl rfl); (case c59 => decide); (case kB9 => exact locs rfl); (case c29 => exact rfl); (case c39 => exact rfl); (case c49 => exact rfl); k_whole; intro L'9 h'9 F'9 N'9 X'9 T'9; (try dsimp only); (try k_fold))))
  (repeat' (first | wtm_at "s1" | ((fail_if_success fail_if_success with_reducible refine at_set ?_); (first | (k_dflt ((refine' set_parent ?F9 ?X9 ?N9 ?h19 ?h29 ?P9 ?U9 ?_; (case F9 => k_asm); (case X9 => k_asm); (case N9 => k_asm); (case h19 => k_mem); (case h29 => k_mem); (case P9 => assumption); (case U9 => (intro es9 n9; k_upd)); k_whole; intro es'9 n'9 h'9 tk'9 P'9 F'9 N'9; (try k_sweep)))) | (k_dflt (first | (refine' set_shape ?F9 ?X9 ?N9 ?h19 ?h29 ?P9 ?U9 ?_; (case F9 => k_asm); (case X9 => k_asm); (case N9 => k_asm); (case h19 => k_mem); (case h29 => k_mem); (case P9 => assumption); (case U9 => (intro es9 n9; k_upd)); k_whole; intro es'9 n'9 h'9 tk'9 P'9 F'9 N'9; (try k_sweep)) | (refine' set_occurs ?F9 ?X9 ?N9 ?h19 ?h29 ?P9 ?U9 ?_; (case F9 => k_asm); (case X9 => k_asm); (case N9 => k_asm); (case h19 => k_mem); (case h29 => k_mem); (case P9 => assumption); (case U9 => (intro es9 n9; k_upd)); k_whole; intro es'9 n'9 h'9 tk'9 P'9 F'9 N'9; (try k_sweep)) | (refine' set_parent ?F9 ?X9 ?N9 ?h19 ?h29 ?P9 ?U9 ?_; (case F9 => k_asm); (case X9 => k_asm); (case N9 => k_asm); (case h19 => k_mem); (case h29 => k_mem); (case P9 => assumption); (case U9 => (intro es9 n9; k_upd)); k_whole; intro es'9 n'9 h'9 tk'9 P'9 F'9 N'9; (try k_sweep)))))) | wtm_at "s2"))
  rename Fr _ _ _ _ => F9
  rename News _ _ _ _ => N9
  simp only [List.push_toArray] at N9
  exact fin _ _ _ _ _ _ _ (by assumption) F9 N9
end
end
section
-- Q33
example : True := by
  w_top off
  trivial
/-- the data's own names -/
noncomputable def DatD (w : World) (es : List DictEntry) (wl fd ll : Addr) (xd : Value) : Prop :=
  es.length ≤ 19 ∧ getL (Str.ofString "files") es = some (some (.ref fd)) ∧ getL (Str.ofString "working") es = some (some (.ref wl)) ∧ getL (Str.ofString "linkage") es = some (some (.ref ll)) ∧ getL (Str.ofString "indexes") es = some (some xd)
theorem DatD.indexes {es : List DictEntry} {wl fd ll : Addr} {xd v : Value} {hsh : Int} {t : Tok} (i : DatD w es wl fd ll xd) : DatD w (putL (Str.ofString "indexes") hsh (.str (Str.ofString "indexes") t) v es) wl fd ll v := by
  obtain ⟨a, b, c, d, e⟩ := i
  exact ⟨by rw [putL_len (by rw [e]; rfl) (by rw [e]; simp)]; exact a, by rw [getL_put (by decide +kernel)]; exact b, by rw [getL_put (by decide +kernel)]; exact c, by rw [getL_put (by decide +kernel)]; exact d, getL_same _⟩
theorem pick7 {g h : Heap} {L : Addr} {a1 a2 a3 a4 a5 a6 a7 : Addr × Obj} (N : News g L h [a1, a2, a3, a4, a5, a6, a7]) : ∀ p ∈ [a5, a3, a4, a6, a7], h.get? p.1 = some p.2 ∧ g.get? p.1 = none := fun p hp => by
  have e : p ∈ [a1, a2, a3, a4, a5, a6, a7] := by
    simp only [List.mem_cons, List.not_mem_nil, or_false] at hp ⊢
    rcases hp with rfl | rfl | rfl | rfl | rfl <;> simp
  exact ⟨N.get e, N.fresh e⟩
section
theorem mkData_spec (X : (hd.heap_39 w.params).In s.heap) (T : Top V LS mean mg mb s.heap) (hdp : dp + 4 < 900) (hun : un + 40 < 9000)
    (hQ : ∀ x dx wl ll fd es n of h' tk, Ext s.heap h' → (∃ xd, DatD w es wl fd ll xd) → (fd == sysModules) = false → Obj.IsDictOf (PySem.strKind PySem.Challenge.rw_og0093_01.row.prog w) of [] →
      (∀ p ∈ [(wl, listOf #[] 0), (fd, of), (ll, listOf #[] 0), (x, instObj 162 dx), (dx, dictOf es n)], h'.get? p.1 = some p.2 ∧ s.heap.get? p.1 = none) → (dx ≠ x ∧ wl ≠ x ∧ wl ≠ dx ∧ fd ≠ x ∧ fd ≠ dx ∧ fd ≠ wl ∧ ll ≠ x ∧ ll ≠ dx ∧ ll ≠ wl ∧ ll ≠ fd) → Q (.ref x) { s with heap := h', toks := tk }) :
    wpAny (model PySem.Challenge.rw_og0093_01.row.prog w) (AT none dp fr gd un) (call (.ref 162) []) Q E s := by
  refine mk_any X (by k_is) (by k_is) (by k_is) ?_
  intro x dx h' hS hZ hxd hN
  have X2 := X.keeps hS
  ((k_dflt (refine' code0G ?kS9 ?kZ9 ?kN9 ?k19 ?k59 ?k69 ?k79 ?k89 ?k99 ?kB9 ?_ ?c29 ?c39 ?c49 ?c59; (case kS9 => assumption); (case kZ9 => assumption); (case kN9 => assumption); (case k19 => k_asm); (case k59 => k_asm); (case k69 => k_is); (case k79 => k_is); (case k89 => (simp only [recursionLimit, depth_under_make]; omega)); (case k99 => first | exact BindsTo.of_eq rfl | exact binds_K (by assumption) rfl (by k_is) rfl rfl rfl); (case c59 => decide); (case kB9 => exact locs rfl); (case c29 => exact rfl); (case c39 => exact rfl); (case c49 => exact rfl); k_whole; intro L'9 h'9 F'9 N'9 X'9 T'9; (try dsimp only); (try k_fold))))
  k_steps
  rename Fr _ _ _ _ => F9
  rename News _ _ _ _ => N9
  refine ⟨rfl, hQ x dx _ _ _ _ _ _ _ _ F9.keep ?d ?lo ?is (pick7 N9) ?ne⟩

  · exact ⟨_, by exact Nat.le_of_ble_eq_true rfl, rfl, rfl, rfl, rfl⟩
  · assumption
  · assumption
  · exact ⟨by k_ne, by k_ne, by k_ne, by k_ne, by k_ne, by k_ne, by k_ne, by k_ne, by k_ne, by k_ne⟩
theorem mkOcc_spec {ka ia : Addr} {lo hi : Int} {t0 t1 : Tok} (X : (hd.heap_39 w.params).In s.heap) (T : Top V LS mean mg mb s.heap) (hdp : dp + 4 < 900) (hun : un + 40 < 9000) {iv kv : Array Value}
    (hk : s.heap.IsTuple ka kv) (hi2 : s.heap.IsTuple ia iv) (hQ : ∀ x h' tk, Ext s.heap h' → Q (.ref x) { s with heap := h', toks := tk }) :
    wpAny (model PySem.Challenge.rw_og0093_01.row.prog w) (AT none dp fr gd un) (call (.ref 89) [.int lo t0, .int hi t1, .none, .ref ka, .ref ia]) Q E s := by
  refine mk_any X (by k_is) (by k_is) (by k_is) ?_
  intro x dx h' hS hZ hxd hN
  have X2 := X.keeps hS
  ((k_dflt (refine' code0G ?kS9 ?kZ9 ?kN9 ?k19 ?k59 ?k69 ?k79 ?k89 ?k99 ?kB9 ?_ ?c29 ?c39 ?c49 ?c59; (case kS9 => assumption); (case kZ9 => assumption); (case kN9 => assumption); (case k19 => k_asm); (case k59 => k_asm); (case k69 => k_is); (case k79 => k_is); (case k89 => (simp only [recursionLimit, depth_under_make]; omega)); (case k99 => first | exact BindsTo.of_eq rfl | exact binds_K (by assumption) rfl (by k_is) rfl rfl rfl); (case c59 => decide); (case kB9 => exact locs rfl); (case c29 => exact rfl); (case c39 => exact rfl); (case c49 => exact rfl); k_whole; intro L'9 h'9 F'9 N'9 X'9 T'9; (try dsimp only); (try k_fold))))
  k_steps
  rename Fr _ _ _ _ => F9
  exact ⟨rfl, hQ _ _ _ F9.keep⟩
end
end
section
-- Q34
example : True := by
  w_top off
  trivial
/-- an item with its shape, by its objects -/
noncomputable def ItM (P : Addr → Obj → Prop) (it : Addr) (nm : Str) (par occ : Value) (cat : Str) (ki : Addr) : Prop :=
  ∃ di es n sh dsh esh nsh, P it (instObj 136 di) ∧ P di (dictOf es n) ∧ ItD es nm par occ (.ref sh) ki ∧ P sh (instObj 353 dsh) ∧ P dsh (dictOf esh nsh) ∧ ∃ t, getL (Str.ofString "category") esh = some (some (.str cat t))
theorem ItM.mono {P P' : Addr → Obj → Prop} {it ki : Addr} {nm cat : Str} {par occ : Value} (x : ItM P it nm par occ cat ki) (h : ∀ a o, P a o → P' a o) : ItM P' it nm par occ cat ki := by
  obtain ⟨di, es, n, sh, dsh, esh, nsh, a, b, c, d, e, f⟩ := x
  exact ⟨di, es, n, sh, dsh, esh, nsh, h _ _ a, h _ _ b, c, h _ _ d, h _ _ e, f⟩
theorem ItM.itS {h : Heap} {it ki : Addr} {nm cat : Str} {par occ : Value} {ks : List Value} {kn : Nat} (x : ItM (fun a o => h.get? a = some o) it nm par occ cat ki) (k : h.get? ki = some (listOf ks.toArray kn)) : ItS h it nm par occ cat ks := by
  obtain ⟨di, es, n, sh, dsh, esh, nsh, a, b, ⟨_, ⟨tn, c1⟩, c2, c3, c4, c5, _⟩, d, e, ⟨t, f⟩⟩ := x
  exact ⟨ki, kn, sh, ⟨di, es, n, tn, a, b, c1, c2, c3, c4, c5⟩, k, ⟨dsh, esh, nsh, t, d, e, f⟩⟩
theorem leaf_fin {hs h9 : Heap} {L kl ki : Addr} {lst : Obj} {e1 a b d e : Addr × Obj} {pre : List (Addr × Obj)} (N : News (but hs kl) L h9 (pre ++ [a, b, (ki, listOf #[] 0), d, e, e1, (kl, lst)])) (n1 : ki ≠ kl) (n2 : ∀ p ∈ [a, b, d, e, e1], p.1 ≠ kl) : ∀ p ∈ (ki, listOf #[] 0) :: [a, b, d, e, e1], h9.get? p.1 = some p.2 ∧ hs.get? p.1 = none := by
  intro p hp
  have hm : p ∈ pre ++ [a, b, (ki, listOf #[] 0), d, e, e1, (kl, lst)] ∧ p.1 ≠ kl := by
    rcases List.mem_cons.mp hp with rfl | hp
    · exact ⟨List.mem_append_right _ (.tail _ (.tail _ (.head _))), n1⟩
    · refine ⟨List.mem_append_right _ ?_, n2 p hp⟩
      simp only [List.mem_cons, List.not_mem_nil, or_false] at hp ⊢
      rcases hp with rfl | rfl | rfl | rfl | rfl <;> simp
  exact nb_of N hm.1 hm.2
theorem xb_of2 {hs h' : Heap} {L src : Addr} {m : Str → Option Value} (F : Fr (but hs src) L h' m) : ExtB src hs h' := xb_of F
theorem upd_two {di kl : Addr} {o1 o2 l1 l2 : Obj} {news mid news' : List (Addr × Obj)} (U1 : Upd di o1 o2 news mid) (U2 : Upd kl l1 l2 mid news') : ∀ p ∈ news', p = (di, o2) ∨ p = (kl, l2) ∨ (p ∈ news ∧ p.1 ≠ di ∧ p.1 ≠ kl) := by
  obtain ⟨pre, post, e1, e2, a1, a2⟩ := U1.split
  obtain ⟨pre2, post2, e3, e4, a3, a4⟩ := U2.split
  intro p hp
  have key : p ∈ mid → p.1 ≠ kl → p = (di, o2) ∨ p = (kl, l2) ∨ (p ∈ news ∧ p.1 ≠ di ∧ p.1 ≠ kl) := fun hm hk => by
    rw [e2] at hm
    rw [e1]
    rcases List.mem_append.mp hm with h | h
    · exact .inr (.inr ⟨List.mem_append_left _ h, a1 p h, hk⟩)
    rcases List.mem_cons.mp h with h | h
    · exact .inl h
    · exact .inr (.inr ⟨List.mem_append_right _ (.tail _ h), a2 p h, hk⟩)
  rw [e4] at hp
  rcases List.mem_append.mp hp with h | h
  · exact key (by rw [e3]; exact List.mem_append_left _ h) (a3 p h)
  rcases List.mem_cons.mp h with h | h
  · exact .inr (.inl h)
  · exact key (by rw [e3]; exact List.mem_append_right _ (.tail _ h)) (a4 p h)
theorem add_walk2 {b : Heap} {L x dx kl it di ki : Addr} {m : Str → Option Value} {nm nx : Str} {par occ shp px ox sx : Value} {es esx : List DictEntry} {n nx' kn : Nat} {ks : List Value} {news : List (Addr × Obj)} {mid : List DictEntry → Nat → List (Addr × Obj)} {news' : List DictEntry → Nat → Nat → List (Addr × Obj)}
    (F : Fr b L s.heap m) (N : News b L s.heap news) (X : (hd.heap_39 w.params).In b) (T : Top V LS mean mg mb b) (hdp : dp + 10 < 900) (hun : un + 100 < 9000)
    (r1 : b.get? x = some (instObj 136 dx)) (r2 : b.get? dx = some (dictOf esx nx')) (P : ItD esx nx px ox sx kl) (h1 : (it, instObj 136 di) ∈ news) (h2 : (di, dictOf es n) ∈ news) (P2 : ItD es nm par occ shp ki) (h3 : (kl, listOf ks.toArray kn) ∈ news) (hks : ks.length ≤ 100)
    (n1 : di ≠ it) (n2 : kl ≠ it) (n3 : kl ≠ di)
    (U1 : ∀ es2 n2, Upd di (dictOf es n) (dictOf es2 n2) news (mid es2 n2)) (U2 : ∀ es2 n2 kn2, Upd kl (listOf ks.toArray kn) (listOf (ks ++ [Value.ref it]).toArray kn2) (mid es2 n2) (news' es2 n2 kn2))
    (hQ : ∀ es2 n2 kn2 h' tk, ItD es2 nm (.ref x) occ shp ki → Fr b L h' m → News b L h' (news' es2 n2 kn2) → Q .none { s with heap := h', toks := tk }) :
    wpAny (model PySem.Challenge.rw_og0093_01.row.prog w) (AT none dp fr gd un) (call (.ref 114) [.ref x, .ref it]) Q E s := by
  exact add_walk F N X T hdp hun r1 r2 P h1 h2 P2 h3 hks n1 n2 n3 (fun es2 n2 kn2 => upd_two (U1 es2 n2) (U2 es2 n2 kn2)) hQ
section
theorem leaf1_spec {x kl : Addr} {nm nx cat cx : Str} {t1 t2 t3 : Tok} {px ox : Value} {kn : Nat} {ks : List Value}  (X : (hd.heap_39 w.params).In (but s.heap kl)) (T : Top V LS mean mg mb (but s.heap kl)) (hdp : dp + 20 < 900) (hun : un + 200 < 9000)
    (g1 : s.heap.get? kl = some (listOf ks.toArray kn)) (hks : ks.length ≤ 100) (M : ItM (fun a o => (but s.heap kl).get? a = some o) x nx px ox cx kl)
    (hQ : ∀ it ki kn2 sn h' tk, ExtB kl s.heap h' → h'.get? kl = some (listOf (ks ++ [Value.ref it]).toArray kn2) → (∀ p ∈ (ki, listOf #[] 0) :: sn, h'.get? p.1 = some p.2 ∧ s.heap.get? p.1 = none) → ItM (fun a o => (a, o) ∈ sn) it nm (.ref x) .none cat ki → (∀ p ∈ sn, p.1 ≠ ki) → Q (.ref it) { s with heap := h', toks := tk }) :
    wpAny (model PySem.Challenge.rw_og0093_01.row.prog w) (AT none dp fr gd un) (call (.ref 380) [.ref x, .str nm t1, .str cat t2]) Q E s := by
  have hS : Ext (but s.heap kl) s.heap := fun b o q => (of_but q).2
  have hZ : (but s.heap kl).objs.size ≤ s.heap.objs.size := Nat.le_of_eq (hideAll_size _ _)
  have hN : ∀ p ∈ [(kl, listOf ks.toArray kn)], s.heap.get? p.1 = some p.2 ∧ (but s.heap kl).get? p.1 = none := fun p hp => by rw [List.mem_singleton.mp hp]; exact ⟨g1, but_none⟩
  have X2 := X.keeps hS
  obtain ⟨dx, es, n, shx, dshx, eshx, nshx, r1, r2, P, _⟩ := M
  obtain ⟨_, ⟨_, _⟩, _, _, _, _, _⟩ := id P
  ((refine wpAny_call ?_; k_dflt (refine' code0G ?kS9 ?kZ9 ?kN9 ?k19 ?k59 ?k69 ?k79 ?k89 ?k99 ?kB9 ?_ ?c29 ?c39 ?c49 ?c59; (case kS9 => assumption); (case kZ9 => assumption); (case kN9 => assumption); (case k19 => k_asm); (case k59 => k_asm); (case k69 => k_is); (case k79 => k_is); (case k89 => (simp only [recursionLimit]; omega)); (case k99 => first | exact BindsTo.of_eq rfl | exact binds_K (by assumption) rfl (by k_is) rfl rfl rfl); (case c59 => decide); (case kB9 => exact locs rfl); (case c29 => exact rfl); (case c39 => exact rfl); (case c49 => exact rfl); k_whole; intro L'9 h'9 F'9 N'9 X'9 T'9; (try dsimp only); (try k_fold))))
  (repeat' (first | wtm_at "s1" | ((fail_if_success fail_if_success with_reducible refine at_call ?_); (first | ((with_reducible show wpAny _ _ (call (.ref 89) _ _) _ _ _); (k_dflt (refine' mkOcc_spec (by k_in) (by wtm_at "T") (by first | exact rm1 hdp rfl rfl | wtm_at "D") (by first | exact um1 hun rfl rfl | wtm_at "U") ?t19 ?t29 ?_; (case t19 => exact News.isTup (by k_asm) (by k_mem)); (case t29 => exact News.isTup (by k_asm) (by k_mem)); k_whole); intros; wtm_at "PK")) | ((with_reducible show wpAny _ _ (call (Value.ref 114) _) _ _ _); k_dflt (refine' add_walk2 ?sF9 ?sN9 ?sX9 ?sT9 ?sd9 ?su9 ?r19 ?r29 ?sP9 ?h19 ?h29 ?sP29 ?h39 ?hk9 ?n19 ?n29 ?n39 ?U19 ?U29 ?_; (case sF9 => k_asm); (case sN9 => k_asm); (case sX9 => k_asm); (case sT9 => k_asm); (case sd9 => first | exact rm1 hdp rfl rfl | wtm_at "D"); (case su9 => first | exact um1 hun rfl rfl | wtm_at "U"); (case r19 => assumption); (case r29 => assumption); (case sP9 => assumption); (case h19 => k_mem); (case h29 => k_mem); (case sP29 => assumption); (case h39 => k_mem); (case hk9 => assumption); (case n19 => k_ne); (case n29 => k_ne); (case n39 => k_ne); (case U19 => (intro es9 n9; k_upd)); (case U29 => (intro es9 n9 kn9; k_upd)); k_whole); intro es'9 n'9 kn'9 h'9 tk'9 P'9 F'9 N'9; (try k_sweep)) | ((with_reducible show wpAny _ _ (call (.ref 353) _ _) _ _ _); (k_dflt (refine' mkShape_spec (by k_in) (by wtm_at "T") (by first | exact rm1 hdp rfl rfl | wtm_at "D") (by first | exact um1 hun rfl rfl | wtm_at "U") ?_; k_whole); intro x'9 dx'9 es'9 n'9 h'9 tk'9 hE'9 hD'9 hN'9 hne1'9; (rename Fr _ _ _ _ => kF0); (rename News _ _ _ _ => kN0); (have F'9 := Fr.keeps kF0 hE'9); (have N'9 := newsAddAll kF0 kN0 hE'9 hN'9); (have l0'9 := newsNe kN0 (hN'9 _ (.head _)).2); (have l1'9 := newsNe kN0 (hN'9 _ (.tail _ (.head _))).2); clear kF0 kN0 hE'9 hN'9; (try simp only [List.cons_append, List.nil_append] at N'9); (try k_sweep))) | ((with_reducible show wpAny _ _ (call (.ref 136) _ _) _ _ _); (k_dflt (refine' mkItem_spec (by k_in) (by wtm_at "T") (by first | exact rm1 hdp rfl rfl | wtm_at "D") (by first | exact um1 hun rfl rfl | wtm_at "U") ?_; k_whole); intro x'9 dx'9 kl'9 cl'9 es'9 n'9 h'9 tk'9 hE'9 hD'9 hN'9 hne'9; obtain ⟨hne1'9, hne2'9, hne3'9, hne4'9, hne5'9, hne6'9⟩ := hne'9; (rename Fr _ _ _ _ => kF0); (rename News _ _ _ _ => kN0); (have F'9 := Fr.keeps kF0 hE'9); (have N'9 := newsAddAll kF0 kN0 hE'9 hN'9); (have l0'9 := newsNe kN0 (hN'9 _ (.head _)).2); (have l1'9 := newsNe kN0 (hN'9 _ (.tail _ (.head _))).2); (have l2'9 := newsNe kN0 (hN'9 _ (.tail _ (.tail _ (.head _)))).2); (have l3'9 := newsNe kN0 (hN'9 _ (.tail _ (.tail _ (.tail _ (.head _))))).2); clear kF0 kN0 hE'9 hN'9; (try simp only [List.cons_append, List.nil_append] at N'9); (try k_sweep))))) | ((fail_if_success fail_if_success with_reducible refine at_gm ?_); (k_dflt (refine' method_inst ?k19 ?k29 ?k39 ?k49 ?k59 ?k69 ?k79 ?_; (case k19 => k_asm); (case k29 => k_asm); (case k39 => k_inst); (case k49 => k_is); (case k59 => k_is); (case k69 => k_is); (case k79 => assumption); k_whole))) | ((fail_if_success fail_if_success with_reducible refine at_set ?_); (k_dflt (first | (refine' set_shape ?F9 ?X9 ?N9 ?h19 ?h29 ?P9 ?U9 ?_; (case F9 => k_asm); (case X9 => k_asm); (case N9 => k_asm); (case h19 => k_mem); (case h29 => k_mem); (case P9 => assumption); (case U9 => (intro es9 n9; k_upd)); k_whole; intro es'9 n'9 h'9 tk'9 P'9 F'9 N'9; (try k_sweep)) | (refine' set_occurs ?F9 ?X9 ?N9 ?h19 ?h29 ?P9 ?U9 ?_; (case F9 => k_asm); (case X9 => k_asm); (case N9 => k_asm); (case h19 => k_mem); (case h29 => k_mem); (case P9 => assumption); (case U9 => (intro es9 n9; k_upd)); k_whole; intro es'9 n'9 h'9 tk'9 P'9 F'9 N'9; (try k_sweep)) | (refine' set_parent ?F9 ?X9 ?N9 ?h19 ?h29 ?P9 ?U9 ?_; (case F9 => k_asm); (case X9 => k_asm); (case N9 => k_asm); (case h19 => k_mem); (case h29 => k_mem); (case P9 => assumption); (case U9 => (intro es9 n9; k_upd)); k_whole; intro es'9 n'9 h'9 tk'9 P'9 F'9 N'9; (try k_sweep))))) | wtm_at "s2"))
  rename Fr _ _ _ _ => F9
  rename News _ _ _ _ => N9
  refine hQ _ _ _ _ _ _ (xb_of2 F9) (N9.get (by k_mem)) (leaf_fin (pre := []) N9 (by k_ne) ?ne1) ?it ?ne2
  · simp only [List.forall_mem_cons, List.not_mem_nil, false_imp_iff, implies_true, and_true]
    exact ⟨by k_ne, by k_ne, by k_ne, by k_ne, by k_ne⟩
  · exact ⟨_, _, _, _, _, _, _, .tail _ (.tail _ (.tail _ (.head _))), .tail _ (.tail _ (.tail _ (.tail _ (.head _)))), by assumption, .head _, .tail _ (.head _), by assumption⟩
  · simp only [List.forall_mem_cons, List.not_mem_nil, false_imp_iff, implies_true, and_true]
    exact ⟨by k_ne, by k_ne, by k_ne, by k_ne, by k_ne⟩
theorem leaf3_spec {x kl : Addr} {nm nx cat cx : Str} {t1 t2 t3 : Tok} {px ox : Value} {kn : Nat} {ks : List Value} {often : Int}  (X : (hd.heap_39 w.params).In (but s.heap kl)) (T : Top V LS mean mg mb (but s.heap kl)) (hdp : dp + 20 < 900) (hun : un + 200 < 9000)
    (g1 : s.heap.get? kl = some (listOf ks.toArray kn)) (hks : ks.length ≤ 100) (M : ItM (fun a o => (but s.heap kl).get? a = some o) x nx px ox cx kl) (ho : 1 < often) (ho2 : often ≤ 100) (hnm : nm.length ≤ 100)
    (hQ : ∀ it ki kn2 sn h' tk, ExtB kl s.heap h' → h'.get? kl = some (listOf (ks ++ [Value.ref it]).toArray kn2) → (∀ p ∈ (ki, listOf #[] 0) :: sn, h'.get? p.1 = some p.2 ∧ s.heap.get? p.1 = none) → (∃ oc, ItM (fun a o => (a, o) ∈ sn) it nm (.ref x) (.ref oc) cat ki) → (∀ p ∈ sn, p.1 ≠ ki) → Q (.ref it) { s with heap := h', toks := tk }) :
    wpAny (model PySem.Challenge.rw_og0093_01.row.prog w) (AT none dp fr gd un) (call (.ref 380) [.ref x, .str nm t1, .str cat t2, .int often t3]) Q E s := by
  have hS : Ext (but s.heap kl) s.heap := fun b o q => (of_but q).2
  have hZ : (but s.heap kl).objs.size ≤ s.heap.objs.size := Nat.le_of_eq (hideAll_size _ _)
  have hN : ∀ p ∈ [(kl, listOf ks.toArray kn)], s.heap.get? p.1 = some p.2 ∧ (but s.heap kl).get? p.1 = none := fun p hp => by rw [List.mem_singleton.mp hp]; exact ⟨g1, but_none⟩
  have X2 := X.keeps hS
  obtain ⟨dx, es, n, shx, dshx, eshx, nshx, r1, r2, P, _⟩ := M
  obtain ⟨_, ⟨_, _⟩, _, _, _, _, _⟩ := id P
  ((refine wpAny_call ?_; k_dflt (refine' code0G ?kS9 ?kZ9 ?kN9 ?k19 ?k59 ?k69 ?k79 ?k89 ?k99 ?kB9 ?_ ?c29 ?c39 ?c49 ?c59; (case kS9 => assumption); (case kZ9 => assumption); (case kN9 => assumption); (case k19 => k_asm); (case k59 => k_asm); (case k69 => k_is); (case k79 => k_is); (case k89 => (simp only [recursionLimit]; omega)); (case k99 => first | exact BindsTo.of_eq rfl | exact binds_K (by assumption) rfl (by k_is) rfl rfl rfl); (case c59 => decide); (case kB9 => exact locs rfl); (case c29 => exact rfl); (case c39 => exact rfl); (case c49 => exact rfl); k_whole; intro L'9 h'9 F'9 N'9 X'9 T'9; (try dsimp only); (try k_fold))))
  (repeat' (first | wtm_at "s1" | ((fail_if_success fail_if_success with_reducible refine at_call ?_); (first | ((with_reducible show wpAny _ _ (call (.ref 89) _ _) _ _ _); (k_dflt (refine' mkOcc_spec (by k_in) (by wtm_at "T") (by first | exact rm1 hdp rfl rfl | wtm_at "D") (by first | exact um1 hun rfl rfl | wtm_at "U") ?t19 ?t29 ?_; (case t19 => exact News.isTup (by k_asm) (by k_mem)); (case t29 => exact News.isTup (by k_asm) (by k_mem)); k_whole); intros; wtm_at "PK")) | ((with_reducible show wpAny _ _ (call (Value.ref 114) _) _ _ _); k_dflt (refine' add_walk2 ?sF9 ?sN9 ?sX9 ?sT9 ?sd9 ?su9 ?r19 ?r29 ?sP9 ?h19 ?h29 ?sP29 ?h39 ?hk9 ?n19 ?n29 ?n39 ?U19 ?U29 ?_; (case sF9 => k_asm); (case sN9 => k_asm); (case sX9 => k_asm); (case sT9 => k_asm); (case sd9 => first | exact rm1 hdp rfl rfl | wtm_at "D"); (case su9 => first | exact um1 hun rfl rfl | wtm_at "U"); (case r19 => assumption); (case r29 => assumption); (case sP9 => assumption); (case h19 => k_mem); (case h29 => k_mem); (case sP29 => assumption); (case h39 => k_mem); (case hk9 => assumption); (case n19 => k_ne); (case n29 => k_ne); (case n39 => k_ne); (case U19 => (intro es9 n9; k_upd)); (case U29 => (intro es9 n9 kn9; k_upd)); k_whole); intro es'9 n'9 kn'9 h'9 tk'9 P'9 F'9 N'9; (try k_sweep)) | ((with_reducible show wpAny _ _ (call (.ref 353) _ _) _ _ _); (k_dflt (refine' mkShape_spec (by k_in) (by wtm_at "T") (by first | exact rm1 hdp rfl rfl | wtm_at "D") (by first | exact um1 hun rfl rfl | wtm_at "U") ?_; k_whole); intro x'9 dx'9 es'9 n'9 h'9 tk'9 hE'9 hD'9 hN'9 hne1'9; (rename Fr _ _ _ _ => kF0); (rename News _ _ _ _ => kN0); (have F'9 := Fr.keeps kF0 hE'9); (have N'9 := newsAddAll kF0 kN0 hE'9 hN'9); (have l0'9 := newsNe kN0 (hN'9 _ (.head _)).2); (have l1'9 := newsNe kN0 (hN'9 _ (.tail _ (.head _))).2); clear kF0 kN0 hE'9 hN'9; (try simp only [List.cons_append, List.nil_append] at N'9); (try k_sweep))) | ((with_reducible show wpAny _ _ (call (.ref 136) _ _) _ _ _); (k_dflt (refine' mkItem_spec (by k_in) (by wtm_at "T") (by first | exact rm1 hdp rfl rfl | wtm_at "D") (by first | exact um1 hun rfl rfl | wtm_at "U") ?_; k_whole); intro x'9 dx'9 kl'9 cl'9 es'9 n'9 h'9 tk'9 hE'9 hD'9 hN'9 hne'9; obtain ⟨hne1'9, hne2'9, hne3'9, hne4'9, hne5'9, hne6'9⟩ := hne'9; (rename Fr _ _ _ _ => kF0); (rename News _ _ _ _ => kN0); (have F'9 := Fr.keeps kF0 hE'9); (have N'9 := newsAddAll kF0 kN0 hE'9 hN'9); (have l0'9 := newsNe kN0 (hN'9 _ (.head _)).2); (have l1'9 := newsNe kN0 (hN'9 _ (.tail _ (.head _))).2); (have l2'9 := newsNe kN0 (hN'9 _ (.tail _ (.tail _ (.head _)))).2); (have l3'9 := newsNe kN0 (hN'9 _ (.tail _ (.tail _ (.tail _ (.head _))))).2); clear kF0 kN0 hE'9 hN'9; (try simp only [List.cons_append, List.nil_append] at N'9); (try k_sweep))))) | ((fail_if_success fail_if_success with_reducible refine at_gm ?_); (k_dflt (refine' method_inst ?k19 ?k29 ?k39 ?k49 ?k59 ?k69 ?k79 ?_; (case k19 => k_asm); (case k29 => k_asm); (case k39 => k_inst); (case k49 => k_is); (case k59 => k_is); (case k69 => k_is); (case k79 => assumption); k_whole))) | ((fail_if_success fail_if_success with_reducible refine at_set ?_); (k_dflt (first | (refine' set_shape ?F9 ?X9 ?N9 ?h19 ?h29 ?P9 ?U9 ?_; (case F9 => k_asm); (case X9 => k_asm); (case N9 => k_asm); (case h19 => k_mem); (case h29 => k_mem); (case P9 => assumption); (case U9 => (intro es9 n9; k_upd)); k_whole; intro es'9 n'9 h'9 tk'9 P'9 F'9 N'9; (try k_sweep)) | (refine' set_occurs ?F9 ?X9 ?N9 ?h19 ?h29 ?P9 ?U9 ?_; (case F9 => k_asm); (case X9 => k_asm); (case N9 => k_asm); (case h19 => k_mem); (case h29 => k_mem); (case P9 => assumption); (case U9 => (intro es9 n9; k_upd)); k_whole; intro es'9 n'9 h'9 tk'9 P'9 F'9 N'9; (try k_sweep)) | (refine' set_parent ?F9 ?X9 ?N9 ?h19 ?h29 ?P9 ?U9 ?_; (case F9 => k_asm); (case X9 => k_asm); (case N9 => k_asm); (case h19 => k_mem); (case h29 => k_mem); (case P9 => assumption); (case U9 => (intro es9 n9; k_upd)); k_whole; intro es'9 n'9 h'9 tk'9 P'9 F'9 N'9; (try k_sweep))))) | wtm_at "s2"))
  rename Fr _ _ _ _ => F9
  rename News _ _ _ _ => N9
  refine hQ _ _ _ _ _ _ (xb_of2 F9) (N9.get (by k_mem)) (leaf_fin (pre := [_, _]) N9 (by k_ne) ?ne1) ?it ?ne2
  · simp only [List.forall_mem_cons, List.not_mem_nil, false_imp_iff, implies_true, and_true]
    exact ⟨by k_ne, by k_ne, by k_ne, by k_ne, by k_ne⟩
  · exact ⟨_, ⟨_, _, _, _, _, _, _, .tail _ (.tail _ (.tail _ (.head _))), .tail _ (.tail _ (.tail _ (.tail _ (.head _)))), by assumption, .head _, .tail _ (.head _), by assumption⟩⟩
  · simp only [List.forall_mem_cons, List.not_mem_nil, false_imp_iff, implies_true, and_true]
    exact ⟨by k_ne, by k_ne, by k_ne, by k_ne, by k_ne⟩
end
end
section
-- Q35
example : True := by
  w_top off
  trivial
section
variable {prog : Program} {A : Around} {env : Env} {h₀ : Heap} {target : Expr} {body : List Stmt} {Q : Flow → Shared → Prop}
theorem letGo_rangeiter {I : Addr} {x l st : Int} {v : Value} {Q' : Unit → Shared → Prop} {s' : Shared} (hit : IsRangeIter s'.heap I x l st) (h : Q' () s') :
    wpAny (model prog w) A (letOwnedTupleGo target (.ref I) v) Q' E s' := by
  unfold letOwnedTupleGo
  cases target <;> first
    | exact wpAny_pure h
    | (cases v <;> first
        | exact wpAny_pure h
        | (refine wpAny_bind (wpAny_load hit ?_)
           exact wpAny_pure h))
theorem turnsTupN {ax : Addr} {lo : Nat} {vs : Array Value} {m₀ : Str → Option Value} {news : List (Addr × Obj)} (hh : A.handled = none) (F : Fr h₀ env.locals s.heap m₀) (N : News h₀ env.locals s.heap news) (hl : (ax, tupOf vs lo) ∈ news)
    (J : Nat → (Str → Option Value) → List (Addr × Obj) → Prop) (hJ : ∀ i m nw, J i m nw → (ax, tupOf vs lo) ∈ nw) (h0 : J 0 m₀ news)
    (step : ∀ i v m₁ news₁ h₁ tk₁ I oI, vs[i]? = some v → J i m₁ news₁ → (∀ p ∈ news₁, p.1 ≠ I) → Fr h₀ env.locals h₁ m₁ → News h₀ env.locals h₁ ((I, oI) :: news₁) →
      wpAny (model prog w) A (assign target env v) (fun _ s₃ => wpAny (model prog w) A (execs body env) (TEnd h₀ env.locals { s with heap := h₁, toks := tk₁ } I oI (J (i + 1)) Q) E s₃) E { s with heap := h₁, toks := tk₁ })
    (fin : ∀ h' tk m' news', Fr h₀ env.locals h' m' → News h₀ env.locals h' news' → J vs.size m' news' → Q .next { s with heap := h', toks := tk }) :
    wpAny (model prog w) A (pyIter (.ref ax)) (fun it s₂ => TurnsAt prog w A h₀ env target body Q E it s₂) E s := by
  have hat := N.get hl
  have hl' : s.heap.IsTuple ax vs := ⟨_, hat, rfl, _, rfl⟩
  have hne : ax ≠ s.heap.objs.size := Nat.ne_of_lt (Heap.lt_size hat)
  have hLax : env.locals ≠ ax := Ne.symm (N _ hl).2.1
  refine wpAny_pyIter_tuple hl' ?_
  refine ⟨s.heap.objs.size, _, _, vs.size, _, _, _, m₀, news, J, rfl, KTurns.ofWalks (Walks.tuple hh s.heap.objs.size ax hne vs) (fun i v s Q E st q => letGo_tupleiter st.1 q), ?_, ?_, ?_, ?_, F.push _, fun p hp => ⟨Heap.get?_push_of_some _ (N p hp).1, (N p hp).2⟩, h0, ?_, ?_⟩
  · intro hI
    rcases List.mem_cons.mp hI with e | hI
    · exact absurd F.ns.lt (e ▸ Nat.lt_irrefl _)
    · exact hLax (List.mem_singleton.mp hI)
  · intro b hb
    rw [List.mem_singleton.mp hb]
    exact next_is_new F
  · intro p hp hI
    exact absurd (Heap.lt_size (N p hp).1) ((List.mem_singleton.mp hI) ▸ Nat.lt_irrefl _)
  · exact ⟨⟨_, Heap.get?_push_size _ rfl, rfl, rfl⟩, ⟨_, Heap.get?_push_of_some _ hat, rfl, _, rfl⟩⟩
  · intro i v m₁ news₁ h₁ tk₁ own hi hP hJ1 hoff hown hget hall hst F₁ N₁
    obtain ⟨oI, hoI, hcI⟩ := hst.1
    have hax := hJ _ _ _ hJ1
    have hIown : (s.heap.objs.size, oI) ∈ own := hall _ (List.mem_cons_self ..) (next_is_new F) oI hoI
    have hsub : ∀ p ∈ own, p = (s.heap.objs.size, oI) ∨ p = (ax, tupOf vs lo) := fun p hp => by
      have g := hget p hp
      rcases List.mem_cons.mp (hown p hp) with e | e
      · refine .inl ?_
        rw [e, hoI] at g
        obtain ⟨pa, po⟩ := p
        cases g
        cases e
        rfl
      · refine .inr ?_
        have e := List.mem_singleton.mp e
        have g2 := (N₁ _ (List.mem_append_right _ hax)).1
        rw [e] at g
        obtain ⟨pa, po⟩ := p
        have e : pa = ax := e
        subst e
        exact congrArg (Prod.mk _) (Option.some.inj (g.symm.trans g2))
    have N₂ : News h₀ env.locals h₁ ((s.heap.objs.size, oI) :: news₁) := fun p hp => by
      rcases List.mem_cons.mp hp with rfl | hp
      · exact N₁ _ (List.mem_append_left _ hIown)
      · exact N₁ _ (List.mem_append_right _ hp)
    refine wpAny_mono (step i v m₁ news₁ h₁ tk₁ _ oI hP hJ1 (fun p hp e => hoff p hp (by rw [e]; exact List.mem_singleton.mpr rfl)) F₁ N₂) (fun _ s₃ h₃ => wpAny_mono h₃ (fun f s₄ h₄ => ?_) fun _ _ e => e) fun _ _ e => e
    have go : (∃ h' tk' m' news', s₄ = { { s with heap := h₁, toks := tk₁ } with heap := h', toks := tk' } ∧ Fr h₀ env.locals h' m' ∧ News h₀ env.locals h' ((s.heap.objs.size, oI) :: news') ∧ (∀ p ∈ news', p.1 ≠ s.heap.objs.size) ∧ J (i + 1) m' news') →
        LoopStepU h₀ env.locals [s.heap.objs.size] own (J (i + 1)) { s with heap := h₁, toks := tk₁ } .next s₄ := by
      rintro ⟨h', tk', m', news', e, F', N', o', hJ'⟩
      refine ⟨rfl, h', tk', m', news', e, F', ?_, ?_, hJ'⟩
      · intro p hp
        rcases List.mem_append.mp hp with hp | hp
        · rcases hsub p hp with rfl | rfl
          · exact N' _ List.mem_cons_self
          · exact N' _ (List.mem_cons_of_mem _ (hJ _ _ _ hJ'))
        · exact N' _ (List.mem_cons_of_mem _ hp)
      · intro p hp hI
        exact o' p hp (List.mem_singleton.mp hI)
    cases f with
    | ret v => exact h₄
    | brk => exact h₄
    | next => exact go h₄
    | cont => exact go h₄
  · intro h' tk m' news' F' N' _ hJ
    exact fin h' tk m' news' F' N' hJ
theorem turnsRange {r : Addr} {n : Int} {t u v : Tok} {m₀ : Str → Option Value} {news : List (Addr × Obj)} (hh : A.handled = none) (F : Fr h₀ env.locals s.heap m₀) (N : News h₀ env.locals s.heap news) (hr : IsRange s.heap r 0 n 1 t u v) (hn : n < 1000) (hn0 : 0 ≤ n)
    (J : Nat → (Str → Option Value) → List (Addr × Obj) → Prop) (h0 : J 0 m₀ news)
    (step : ∀ i tk m₁ news₁ h₁ tk₁ I oI, i < n.toNat → J i m₁ news₁ → (∀ p ∈ news₁, p.1 ≠ I) → Fr h₀ env.locals h₁ m₁ → News h₀ env.locals h₁ ((I, oI) :: news₁) →
      wpAny (model prog w) A (assign target env (.int (i : Int) tk)) (fun _ s₃ => wpAny (model prog w) A (execs body env) (TEnd h₀ env.locals { s with heap := h₁, toks := tk₁ } I oI (J (i + 1)) Q) E s₃) E { s with heap := h₁, toks := tk₁ })
    (fin : ∀ h' tk m' news', Fr h₀ env.locals h' m' → News h₀ env.locals h' news' → J n.toNat m' news' → Q .next { s with heap := h', toks := tk }) :
    wpAny (model prog w) A (pyIter (.ref r)) (fun it s₂ => TurnsAt prog w A h₀ env target body Q E it s₂) E s := by
  have hsz : Builtin.Range.rangeSize 0 n 1 = (n.toNat : Int) := by rw [rangeSize_one]; split <;> omega
  refine wpAny_pyIter_range hr (small_one (by decide) (by decide) (by omega) (by omega)) ?_
  refine ⟨s.heap.objs.size, _, _, n.toNat, _, _, _, m₀, news, J, rfl, KTurns.ofWalks (Walks.range hh s.heap.objs.size 0 1 n.toNat) (fun i v s Q E st q => letGo_rangeiter st q), ?_, ?_, ?_, ?_, F.push _, fun p hp => ⟨Heap.get?_push_of_some _ (N p hp).1, (N p hp).2⟩, h0, ?_, ?_⟩
  · intro hI
    exact absurd F.ns.lt ((List.mem_singleton.mp hI) ▸ Nat.lt_irrefl _)
  · intro b hb
    rw [List.mem_singleton.mp hb]
    exact next_is_new F
  · intro p hp hI
    exact absurd (Heap.lt_size (N p hp).1) ((List.mem_singleton.mp hI) ▸ Nat.lt_irrefl _)
  · have e1 : (0 + ((0 : Nat) : Int) * 1) = 0 := by simp
    have e2 : ((n.toNat : Int) - ((0 : Nat) : Int)) = Builtin.Range.rangeSize 0 n 1 := by rw [hsz]; simp
    rw [e1, e2]
    exact Heap.get?_push_size _ rfl
  · intro i v m₁ news₁ h₁ tk₁ own hi hP hJ hoff hown hget hall hst F₁ N₁
    obtain ⟨tv, rfl⟩ := hP
    have ev : (0 + (i : Int) * 1) = (i : Int) := by simp
    rw [ev]
    have hoI := hst
    obtain ⟨oI, hoI, hoI2⟩ : ∃ oI, h₁.get? s.heap.objs.size = some oI ∧ True := ⟨_, hst, trivial⟩
    have hIown : (s.heap.objs.size, oI) ∈ own := hall _ (List.mem_cons_self ..) (next_is_new F) oI hoI
    have hsub : ∀ p ∈ own, p = (s.heap.objs.size, oI) := fun p hp => by
      have e := List.mem_singleton.mp (hown p hp)
      have g := hget p hp
      rw [e, hoI] at g
      obtain ⟨pa, po⟩ := p
      cases g
      cases e
      rfl
    have N₂ : News h₀ env.locals h₁ ((s.heap.objs.size, oI) :: news₁) := fun p hp => by
      rcases List.mem_cons.mp hp with rfl | hp
      · exact N₁ _ (List.mem_append_left _ hIown)
      · exact N₁ _ (List.mem_append_right _ hp)
    refine wpAny_mono (step i tv m₁ news₁ h₁ tk₁ _ oI hi hJ (fun p hp e => hoff p hp (by rw [e]; exact List.mem_singleton.mpr rfl)) F₁ N₂) (fun _ s₃ h₃ => wpAny_mono h₃ (fun f s₄ h₄ => ?_) fun _ _ e => e) fun _ _ e => e
    have go : (∃ h' tk' m' news', s₄ = { { s with heap := h₁, toks := tk₁ } with heap := h', toks := tk' } ∧ Fr h₀ env.locals h' m' ∧ News h₀ env.locals h' ((s.heap.objs.size, oI) :: news') ∧ (∀ p ∈ news', p.1 ≠ s.heap.objs.size) ∧ J (i + 1) m' news') →
        LoopStepU h₀ env.locals [s.heap.objs.size] own (J (i + 1)) { s with heap := h₁, toks := tk₁ } .next s₄ := by
      rintro ⟨h', tk', m', news', e, F', N', o', hJ'⟩
      refine ⟨rfl, h', tk', m', news', e, F', ?_, ?_, hJ'⟩
      · intro p hp
        rcases List.mem_append.mp hp with hp | hp
        · rw [hsub p hp]; exact N' _ List.mem_cons_self
        · exact N' _ (List.mem_cons_of_mem _ hp)
      · intro p hp hI
        exact o' p hp (List.mem_singleton.mp hI)
    cases f with
    | ret v => exact h₄
    | brk => exact h₄
    | next => exact go h₄
    | cont => exact go h₄
  · intro h' tk m' news' F' N' _ hJ
    exact fin h' tk m' news' F' N' hJ
end
theorem leaf_over {b h h' : Heap} {L kl ki : Addr} {m : Str → Option Value} {o1 o2 : Obj} {news news' sn2 : List (Addr × Obj)} (F : Fr b L h m) (N : News b L h news) (hm : (kl, o1) ∈ news) (U : Upd kl o1 o2 news news') (x : ExtB kl h h') (g : h'.get? kl = some o2)
    (hs : ∀ p ∈ (ki, listOf #[] 0) :: sn2, h'.get? p.1 = some p.2 ∧ h.get? p.1 = none) : Fr b L h' m ∧ News b L h' ((ki, listOf #[] 0) :: (sn2 ++ news')) ∧ (∀ p ∈ news, p.1 ≠ ki) ∧ (∀ q ∈ sn2, ∀ p ∈ news, p.1 ≠ q.1) := by
  have z1 := N _ hm
  refine ⟨⟨?_, fun a o q => x _ _ (fun e => ?_) (F.keep _ _ q), F.above⟩, ?_, newsNe N (hs _ (.head _)).2, fun q hq => newsNe N (hs _ (.tail _ hq)).2⟩
  · obtain ⟨o, es, ep, ho, hd, r⟩ := F.ns
    exact ⟨o, es, ep, x _ _ (Ne.symm z1.2.1) ho, hd, r⟩
  · rw [e, z1.2.2] at q; cases q
  · have hnew : ∀ p ∈ (ki, listOf #[] 0) :: sn2, h'.get? p.1 = some p.2 ∧ p.1 ≠ L ∧ b.get? p.1 = none := fun p hp => ⟨(hs p hp).1, noneOf F (hs p hp).2⟩
    intro p hp
    rcases List.mem_cons.mp hp with rfl | hp
    · exact hnew _ (.head _)
    rcases List.mem_append.mp hp with hp | hp
    · exact hnew _ (.tail _ hp)
    · obtain ⟨pre, post, e1, e2, h1, h2⟩ := U.split
      rw [e2] at hp
      rw [e1] at N
      rcases List.mem_append.mp hp with hp | hp
      · have q := N p (List.mem_append_left _ hp)
        exact ⟨x _ _ (h1 p hp) q.1, q.2⟩
      rcases List.mem_cons.mp hp with rfl | hp
      · exact ⟨g, z1.2⟩
      · have q := N p (List.mem_append_right _ (.tail _ hp))
        exact ⟨x _ _ (h2 p hp) q.1, q.2⟩
theorem leaf_walk1 {b : Heap} {L x kl : Addr} {m : Str → Option Value} {nm nx cat cx : Str} {t1 t2 : Tok} {px ox : Value} {kn : Nat} {ks : List Value} {news sn : List (Addr × Obj)} {news' : Addr → Nat → List (Addr × Obj)} 
    (F : Fr b L s.heap m) (N : News b L s.heap news) (X : (hd.heap_39 w.params).In b) (T : Top V LS mean mg mb b) (hdp : dp + 20 < 900) (hun : un + 200 < 9000)
    (M : ItM (fun a o => (a, o) ∈ sn) x nx px ox cx kl) (hsn : ∀ p ∈ sn, p ∈ news) (hk : ∀ p ∈ sn, p.1 ≠ kl) (h3 : (kl, listOf ks.toArray kn) ∈ news) (hks : ks.length ≤ 100)
    (U : ∀ it kn2, Upd kl (listOf ks.toArray kn) (listOf (ks ++ [Value.ref it]).toArray kn2) news (news' it kn2)) 
    (hQ : ∀ it ki kn2 sn2 h' tk, Fr b L h' m → News b L h' ((ki, listOf #[] 0) :: (sn2 ++ news' it kn2)) → ItM (fun a o => (a, o) ∈ sn2) it nm (.ref x) .none cat ki → (∀ p ∈ sn2, p.1 ≠ ki) → (∀ p ∈ news, p.1 ≠ ki) → (∀ q ∈ sn2, ∀ p ∈ news, p.1 ≠ q.1) → Q (.ref it) { s with heap := h', toks := tk }) :
    wpAny (model PySem.Challenge.rw_og0093_01.row.prog w) (AT none dp fr gd un) (call (.ref 380) [.ref x, .str nm t1, .str cat t2]) Q E s := by
  have hb : Ext b (but s.heap kl) := fun a o q => but_get (F.keep _ _ q) fun e => by rw [e, N.fresh h3] at q; cases q
  refine leaf1_spec (X.keeps hb) (T.keeps hb) hdp hun (N.get h3) hks (M.mono fun a o z => but_get (N.get (hsn _ z)) (hk _ z)) (t3 := t1) ?_
  intro it ki kn2 sn2 h' tk x1 x2 x3 x4 x5
  obtain ⟨y1, y2, y3, y4⟩ := leaf_over F N h3 (U it kn2) x1 x2 x3
  exact hQ it ki kn2 sn2 h' tk y1 y2 x4 x5 y3 y4
theorem leaf_walk3 {b : Heap} {L x kl : Addr} {m : Str → Option Value} {nm nx cat cx : Str} {t1 t2 : Tok} {px ox : Value} {kn : Nat} {ks : List Value} {news sn : List (Addr × Obj)} {news' : Addr → Nat → List (Addr × Obj)} {often : Int} {t3 : Tok}
    (F : Fr b L s.heap m) (N : News b L s.heap news) (X : (hd.heap_39 w.params).In b) (T : Top V LS mean mg mb b) (hdp : dp + 20 < 900) (hun : un + 200 < 9000)
    (M : ItM (fun a o => (a, o) ∈ sn) x nx px ox cx kl) (hsn : ∀ p ∈ sn, p ∈ news) (hk : ∀ p ∈ sn, p.1 ≠ kl) (h3 : (kl, listOf ks.toArray kn) ∈ news) (hks : ks.length ≤ 100)
    (U : ∀ it kn2, Upd kl (listOf ks.toArray kn) (listOf (ks ++ [Value.ref it]).toArray kn2) news (news' it kn2)) (ho : 1 < often) (ho2 : often ≤ 100) (hnm : nm.length ≤ 100)
    (hQ : ∀ it ki kn2 sn2 h' tk, Fr b L h' m → News b L h' ((ki, listOf #[] 0) :: (sn2 ++ news' it kn2)) → (∃ oc, ItM (fun a o => (a, o) ∈ sn2) it nm (.ref x) (.ref oc) cat ki) → (∀ p ∈ sn2, p.1 ≠ ki) → (∀ p ∈ news, p.1 ≠ ki) → (∀ q ∈ sn2, ∀ p ∈ news, p.1 ≠ q.1) → Q (.ref it) { s with heap := h', toks := tk }) :
    wpAny (model PySem.Challenge.rw_og0093_01.row.prog w) (AT none dp fr gd un) (call (.ref 380) [.ref x, .str nm t1, .str cat t2, .int often t3]) Q E s := by
  have hb : Ext b (but s.heap kl) := fun a o q => but_get (F.keep _ _ q) fun e => by rw [e, N.fresh h3] at q; cases q
  refine leaf3_spec (X.keeps hb) (T.keeps hb) hdp hun (N.get h3) hks (M.mono fun a o z => but_get (N.get (hsn _ z)) (hk _ z)) ho ho2 hnm ?_
  intro it ki kn2 sn2 h' tk x1 x2 x3 x4 x5
  obtain ⟨y1, y2, y3, y4⟩ := leaf_over F N h3 (U it kn2) x1 x2 x3
  exact hQ it ki kn2 sn2 h' tk y1 y2 x4 x5 y3 y4
end
section
-- Q36
example : True := by
  w_top off
  trivial
theorem ledA {b h : Heap} {L k ki : Addr} {o ok ok2 : Obj} {ms sn sn2 : List (Addr × Obj)} (ap : ∀ p ∈ sn, ∀ q ∈ (k, ok) :: ms, p.1 ≠ q.1) (kms : ∀ q ∈ ms, q.1 ≠ k) (N : News b L h ((ki, o) :: (sn2 ++ ((k, ok2) :: (ms ++ sn))))) (z1 : ∀ p ∈ sn2, p.1 ≠ ki) (z2 : ∀ p ∈ (k, ok) :: (ms ++ sn), p.1 ≠ ki)
    (z3 : ∀ q ∈ sn2, ∀ p ∈ (k, ok) :: (ms ++ sn), p.1 ≠ q.1) : News b L h (((ki, o) :: ms) ++ (((k, ok2) :: (sn2 ++ sn)))) ∧ (∀ p ∈ ((k, ok2) :: (sn2 ++ sn)), ∀ q ∈ ((ki, o) :: ms), p.1 ≠ q.1) ∧ ∀ q ∈ ms, q.1 ≠ ki := by
  have a1 : ∀ p ∈ sn, ∀ q ∈ ms, p.1 ≠ q.1 := fun p hp q hq => ap p hp q (.tail _ hq)
  have a2 : ∀ p ∈ sn, p.1 ≠ ki := fun p hp => z2 p (.tail _ (List.mem_append_right _ hp))
  have a3 : ∀ q ∈ ms, q.1 ≠ ki := fun p hp => z2 p (.tail _ (List.mem_append_left _ hp))
  have a4 : ∀ p ∈ sn2, ∀ q ∈ ms, p.1 ≠ q.1 := fun p hp q hq => Ne.symm (z3 p hp q (.tail _ (List.mem_append_left _ hq)))
  have a5 : ∀ p ∈ sn2, p.1 ≠ k := fun p hp => Ne.symm (z3 p hp _ (.head _))
  have a6 : k ≠ ki := z2 _ (.head _)
  have a7 : ∀ p ∈ sn, p.1 ≠ k := fun p hp => ap p hp _ (.head _)
  refine ⟨newsDrop N fun p hp => ?_, fun p hp q hq => ?_, a3⟩
  · simp only [List.mem_cons, List.mem_append] at hp ⊢
    rcases hp with (rfl | hp) | (rfl | hp | hp) <;> simp_all
  · rcases List.mem_cons.mp hp with rfl | hp
    · rcases List.mem_cons.mp hq with rfl | hq
      · exact a6
      · exact Ne.symm (kms q hq)
    · rcases List.mem_cons.mp hq with rfl | hq
      · rcases List.mem_append.mp hp with hp | hp
        · exact z1 p hp
        · exact a2 p hp
      · rcases List.mem_append.mp hp with hp | hp
        · exact a4 p hp q hq
        · exact a1 p hp q hq
theorem ledB {b h : Heap} {L k ki : Addr} {o ok ok2 : Obj} {ms sn sn2 : List (Addr × Obj)} (ap : ∀ p ∈ sn, ∀ q ∈ (k, ok) :: ms, p.1 ≠ q.1) (kms : ∀ q ∈ ms, q.1 ≠ k) (N : News b L h ((ki, o) :: (sn2 ++ ((k, ok2) :: (ms ++ sn))))) (z1 : ∀ p ∈ sn2, p.1 ≠ ki) (z2 : ∀ p ∈ (k, ok) :: (ms ++ sn), p.1 ≠ ki)
    (z3 : ∀ q ∈ sn2, ∀ p ∈ (k, ok) :: (ms ++ sn), p.1 ≠ q.1) : News b L h (((k, ok2) :: ms) ++ (((ki, o) :: (sn2 ++ sn)))) ∧ (∀ p ∈ ((ki, o) :: (sn2 ++ sn)), ∀ q ∈ ((k, ok2) :: ms), p.1 ≠ q.1) := by
  have a1 : ∀ p ∈ sn, ∀ q ∈ ms, p.1 ≠ q.1 := fun p hp q hq => ap p hp q (.tail _ hq)
  have a2 : ∀ p ∈ sn, p.1 ≠ ki := fun p hp => z2 p (.tail _ (List.mem_append_right _ hp))
  have a3 : ∀ q ∈ ms, q.1 ≠ ki := fun p hp => z2 p (.tail _ (List.mem_append_left _ hp))
  have a4 : ∀ p ∈ sn2, ∀ q ∈ ms, p.1 ≠ q.1 := fun p hp q hq => Ne.symm (z3 p hp q (.tail _ (List.mem_append_left _ hq)))
  have a5 : ∀ p ∈ sn2, p.1 ≠ k := fun p hp => Ne.symm (z3 p hp _ (.head _))
  have a6 : k ≠ ki := z2 _ (.head _)
  have a7 : ∀ p ∈ sn, p.1 ≠ k := fun p hp => ap p hp _ (.head _)
  refine ⟨newsDrop N fun p hp => ?_, fun p hp q hq => ?_⟩
  · simp only [List.mem_cons, List.mem_append] at hp ⊢
    rcases hp with (rfl | hp) | (rfl | hp | hp) <;> simp_all
  · rcases List.mem_cons.mp hp with rfl | hp
    · rcases List.mem_cons.mp hq with rfl | hq
      · exact Ne.symm a6
      · exact Ne.symm (a3 q hq)
    · rcases List.mem_cons.mp hq with rfl | hq
      · rcases List.mem_append.mp hp with hp | hp
        · exact a5 p hp
        · exact a7 p hp
      · rcases List.mem_append.mp hp with hp | hp
        · exact a4 p hp q hq
        · exact a1 p hp q hq
theorem ledD {b h : Heap} {L k ki : Addr} {o ok ok2 : Obj} {ms sn sn2 : List (Addr × Obj)} (ap : ∀ p ∈ sn, ∀ q ∈ (k, ok) :: ms, p.1 ≠ q.1) (kms : ∀ q ∈ ms, q.1 ≠ k) (N : News b L h ((ki, o) :: (sn2 ++ ((k, ok2) :: (ms ++ sn))))) (z1 : ∀ p ∈ sn2, p.1 ≠ ki) (z2 : ∀ p ∈ (k, ok) :: (ms ++ sn), p.1 ≠ ki)
    (z3 : ∀ q ∈ sn2, ∀ p ∈ (k, ok) :: (ms ++ sn), p.1 ≠ q.1) : News b L h (ms ++ (((k, ok2) :: (ki, o) :: (sn2 ++ sn)))) ∧ (∀ p ∈ ((k, ok2) :: (ki, o) :: (sn2 ++ sn)), ∀ q ∈ ms, p.1 ≠ q.1) := by
  have a1 : ∀ p ∈ sn, ∀ q ∈ ms, p.1 ≠ q.1 := fun p hp q hq => ap p hp q (.tail _ hq)
  have a2 : ∀ p ∈ sn, p.1 ≠ ki := fun p hp => z2 p (.tail _ (List.mem_append_right _ hp))
  have a3 : ∀ q ∈ ms, q.1 ≠ ki := fun p hp => z2 p (.tail _ (List.mem_append_left _ hp))
  have a4 : ∀ p ∈ sn2, ∀ q ∈ ms, p.1 ≠ q.1 := fun p hp q hq => Ne.symm (z3 p hp q (.tail _ (List.mem_append_left _ hq)))
  have a5 : ∀ p ∈ sn2, p.1 ≠ k := fun p hp => Ne.symm (z3 p hp _ (.head _))
  have a6 : k ≠ ki := z2 _ (.head _)
  have a7 : ∀ p ∈ sn, p.1 ≠ k := fun p hp => ap p hp _ (.head _)
  refine ⟨newsDrop N fun p hp => ?_, fun p hp q hq => ?_⟩
  · simp only [List.mem_cons, List.mem_append] at hp ⊢
    rcases hp with hp | (rfl | rfl | hp | hp) <;> simp_all
  · rcases List.mem_cons.mp hp with rfl | hp
    · exact Ne.symm (kms q hq)
    rcases List.mem_cons.mp hp with rfl | hp
    · exact Ne.symm (a3 q hq)
    rcases List.mem_append.mp hp with hp | hp
    · exact a4 p hp q hq
    · exact a1 p hp q hq
theorem leafA3 {b : Heap} {L x kl : Addr} {m : Str → Option Value} {nm nx cat cx : Str} {t1 t2 : Tok} {px ox : Value} {kn : Nat} {ks : List Value} {ms sn : List (Addr × Obj)} {often : Int} {t3 : Tok}
    (F : Fr b L s.heap m) (N : News b L s.heap ((kl, listOf ks.toArray kn) :: (ms ++ sn))) (ap : ∀ p ∈ sn, ∀ q ∈ (kl, listOf ks.toArray kn) :: ms, p.1 ≠ q.1) (kms : ∀ q ∈ ms, q.1 ≠ kl) (X : (hd.heap_39 w.params).In b) (T : Top V LS mean mg mb b) (hdp : dp + 20 < 900) (hun : un + 200 < 9000)
    (M : ItM (fun a o => (a, o) ∈ sn) x nx px ox cx kl) (hks : ks.length ≤ 100) (ho : 1 < often) (ho2 : often ≤ 100) (hnm : nm.length ≤ 100)
    (hQ : ∀ it ki kn2 sn' h' tk, Fr b L h' m → News b L h' (((ki, listOf #[] 0) :: ms) ++ sn') → (∀ p ∈ sn, p ∈ sn') → (∀ p ∈ sn', ∀ q ∈ (ki, listOf #[] 0) :: ms, p.1 ≠ q.1) → (∀ q ∈ ms, q.1 ≠ ki) → (∃ oc, ItM (fun a o => (a, o) ∈ sn') it nm (.ref x) (.ref oc) cat ki) → (kl, listOf (ks ++ [Value.ref it]).toArray kn2) ∈ sn' → Q (.ref it) { s with heap := h', toks := tk }) :
    wpAny (model PySem.Challenge.rw_og0093_01.row.prog w) (AT none dp fr gd un) (call (.ref 380) [.ref x, .str nm t1, .str cat t2, .int often t3]) Q E s := by
  refine leaf_walk3 (news' := fun it kn2 => (kl, listOf (ks ++ [Value.ref it]).toArray kn2) :: (ms ++ sn)) F N X T hdp hun M (fun p hp => .tail _ (List.mem_append_right _ hp)) (fun p hp => ap p hp _ (.head _)) (.head _) hks (fun it kn2 => .head fun p hp => ?_) ho ho2 hnm ?_
  · rcases List.mem_append.mp hp with hp | hp
    · exact kms p hp
    · exact ap p hp _ (.head _)
  intro it ki kn2 sn2 h' tk F6 N6 M6 z1 z2 z3
  obtain ⟨y1, y2, y3⟩ := ledA ap kms N6 z1 z2 z3
  obtain ⟨oc, M6⟩ := M6
  exact hQ it ki kn2 _ h' tk F6 y1 (fun p hp => .tail _ (List.mem_append_right _ hp)) y2 y3 ⟨oc, M6.mono fun a o z => .tail _ (List.mem_append_left _ z)⟩ (.head _)
theorem leafB1 {b : Heap} {L x kl : Addr} {m : Str → Option Value} {nm nx cat cx : Str} {t1 t2 : Tok} {px ox : Value} {kn : Nat} {ks : List Value} {ms sn : List (Addr × Obj)} 
    (F : Fr b L s.heap m) (N : News b L s.heap ((kl, listOf ks.toArray kn) :: (ms ++ sn))) (ap : ∀ p ∈ sn, ∀ q ∈ (kl, listOf ks.toArray kn) :: ms, p.1 ≠ q.1) (kms : ∀ q ∈ ms, q.1 ≠ kl) (X : (hd.heap_39 w.params).In b) (T : Top V LS mean mg mb b) (hdp : dp + 20 < 900) (hun : un + 200 < 9000)
    (M : ItM (fun a o => (a, o) ∈ sn) x nx px ox cx kl) (hks : ks.length ≤ 100) 
    (hQ : ∀ it ki kn2 sn' h' tk, Fr b L h' m → News b L h' (((kl, listOf (ks ++ [Value.ref it]).toArray kn2) :: ms) ++ sn') → (∀ p ∈ sn, p ∈ sn') → (∀ p ∈ sn', ∀ q ∈ (kl, listOf (ks ++ [Value.ref it]).toArray kn2) :: ms, p.1 ≠ q.1) → ItM (fun a o => (a, o) ∈ sn') it nm (.ref x) .none cat ki → (ki, listOf #[] 0) ∈ sn' → Q (.ref it) { s with heap := h', toks := tk }) :
    wpAny (model PySem.Challenge.rw_og0093_01.row.prog w) (AT none dp fr gd un) (call (.ref 380) [.ref x, .str nm t1, .str cat t2]) Q E s := by
  refine leaf_walk1 (news' := fun it kn2 => (kl, listOf (ks ++ [Value.ref it]).toArray kn2) :: (ms ++ sn)) F N X T hdp hun M (fun p hp => .tail _ (List.mem_append_right _ hp)) (fun p hp => ap p hp _ (.head _)) (.head _) hks (fun it kn2 => .head fun p hp => ?_) ?_
  · rcases List.mem_append.mp hp with hp | hp
    · exact kms p hp
    · exact ap p hp _ (.head _)
  intro it ki kn2 sn2 h' tk F6 N6 M6 z1 z2 z3
  obtain ⟨y1, y2⟩ := ledB ap kms N6 z1 z2 z3
  exact hQ it ki kn2 _ h' tk F6 y1 (fun p hp => .tail _ (List.mem_append_right _ hp)) y2 (M6.mono fun a o z => .tail _ (List.mem_append_left _ z)) (.head _)
theorem leafD1 {b : Heap} {L x kl : Addr} {m : Str → Option Value} {nm nx cat cx : Str} {t1 t2 : Tok} {px ox : Value} {kn : Nat} {ks : List Value} {ms sn : List (Addr × Obj)} 
    (F : Fr b L s.heap m) (N : News b L s.heap ((kl, listOf ks.toArray kn) :: (ms ++ sn))) (ap : ∀ p ∈ sn, ∀ q ∈ (kl, listOf ks.toArray kn) :: ms, p.1 ≠ q.1) (kms : ∀ q ∈ ms, q.1 ≠ kl) (X : (hd.heap_39 w.params).In b) (T : Top V LS mean mg mb b) (hdp : dp + 20 < 900) (hun : un + 200 < 9000)
    (M : ItM (fun a o => (a, o) ∈ sn) x nx px ox cx kl) (hks : ks.length ≤ 100) 
    (hQ : ∀ it ki kn2 sn' h' tk, Fr b L h' m → News b L h' (ms ++ sn') → (∀ p ∈ sn, p ∈ sn') → (∀ p ∈ sn', ∀ q ∈ ms, p.1 ≠ q.1) → ItM (fun a o => (a, o) ∈ sn') it nm (.ref x) .none cat ki → (kl, listOf (ks ++ [Value.ref it]).toArray kn2) ∈ sn' → (ki, listOf #[] 0) ∈ sn' → Q (.ref it) { s with heap := h', toks := tk }) :
    wpAny (model PySem.Challenge.rw_og0093_01.row.prog w) (AT none dp fr gd un) (call (.ref 380) [.ref x, .str nm t1, .str cat t2]) Q E s := by
  refine leaf_walk1 (news' := fun it kn2 => (kl, listOf (ks ++ [Value.ref it]).toArray kn2) :: (ms ++ sn)) F N X T hdp hun M (fun p hp => .tail _ (List.mem_append_right _ hp)) (fun p hp => ap p hp _ (.head _)) (.head _) hks (fun it kn2 => .head fun p hp => ?_) ?_
  · rcases List.mem_append.mp hp with hp | hp
    · exact kms p hp
    · exact ap p hp _ (.head _)
  intro it ki kn2 sn2 h' tk F6 N6 M6 z1 z2 z3
  obtain ⟨y1, y2⟩ := ledD ap kms N6 z1 z2 z3
  exact hQ it ki kn2 _ h' tk F6 y1 (fun p hp => .tail _ (.tail _ (List.mem_append_right _ hp))) y2 (M6.mono fun a o z => .tail _ (.tail _ (List.mem_append_left _ z))) (.head _) (.tail _ (.head _))
end
section
-- Q37
example : True := by
  w_top off
  trivial
noncomputable abbrev dnames : List (Str × Str) := [(Str.ofString "AL", Str.ofString "alphabetic"), (Str.ofString "AN", Str.ofString "alphanumeric"), (Str.ofString "AE", Str.ofString "alnum-edited"), (Str.ofString "NU", Str.ofString "numeric"), (Str.ofString "NE", Str.ofString "edited"), (Str.ofString "IX", Str.ofString "index")]
theorem idx_nil {α : Type} {P : Nat → α → Prop} : ∀ j v, ([] : List α)[j]? = some v → P j v := fun j v e => by simp at e
theorem idx_cons {α : Type} {P : Nat → α → Prop} {a : α} {l : List α} (h0 : P 0 a) (h : ∀ j v, l[j]? = some v → P (j + 1) v) : ∀ j v, (a :: l)[j]? = some v → P j v
  | 0, _, e => Option.some.inj e ▸ h0
  | j + 1, v, e => h j v e
theorem data_st1 {b h : Heap} {L D0 D1 D2 D3 D4 D5 D6 sh dsh kl ci R dR wl fd ll d dd : Addr} {o_sh o_dsh o_kl o_ci o_R o_dR o_wl o_fd o_ll o_d o_dd : Obj} {t1 t2 t3 t4 t5 t6 u1 u2 u3 u4 u5 u6 : Tok} {n0 n1 n2 n3 n4 n5 n6 : Nat} (N : News b L h [(D0, tupOf #[Value.ref D6, Value.ref D5, Value.ref D4, Value.ref D3, Value.ref D2, Value.ref D1] n0), (D1, tupOf #[Value.str (Str.ofString "IX") t1, Value.str (Str.ofString "index") u1] n1), (D2, tupOf #[Value.str (Str.ofString "NE") t2, Value.str (Str.ofString "edited") u2] n2), (D3, tupOf #[Value.str (Str.ofString "NU") t3, Value.str (Str.ofString "numeric") u3] n3), (D4, tupOf #[Value.str (Str.ofString "AE") t4, Value.str (Str.ofString "alnum-edited") u4] n4), (D5, tupOf #[Value.str (Str.ofString "AN") t5, Value.str (Str.ofString "alphanumeric") u5] n5), (D6, tupOf #[Value.str (Str.ofString "AL") t6, Value.str (Str.ofString "alphabetic") u6] n6), (sh, o_sh), (dsh, o_dsh), (kl, o_kl), (ci, o_ci), (R, o_R), (dR, o_dR), (wl, o_wl), (fd, o_fd), (ll, o_ll), (d, o_d), (dd, o_dd)]) : ∃ sn, News b L h ((kl, o_kl) :: (wl, o_wl) :: (dd, o_dd) :: sn) ∧ sn = [(D0, tupOf #[Value.ref D6, Value.ref D5, Value.ref D4, Value.ref D3, Value.ref D2, Value.ref D1] n0), (D1, tupOf #[Value.str (Str.ofString "IX") t1, Value.str (Str.ofString "index") u1] n1), (D2, tupOf #[Value.str (Str.ofString "NE") t2, Value.str (Str.ofString "edited") u2] n2), (D3, tupOf #[Value.str (Str.ofString "NU") t3, Value.str (Str.ofString "numeric") u3] n3), (D4, tupOf #[Value.str (Str.ofString "AE") t4, Value.str (Str.ofString "alnum-edited") u4] n4), (D5, tupOf #[Value.str (Str.ofString "AN") t5, Value.str (Str.ofString "alphanumeric") u5] n5), (D6, tupOf #[Value.str (Str.ofString "AL") t6, Value.str (Str.ofString "alphabetic") u6] n6), (sh, o_sh), (dsh, o_dsh), (ci, o_ci), (R, o_R), (dR, o_dR), (fd, o_fd), (ll, o_ll), (d, o_d)] ∧ (D0, tupOf #[Value.ref D6, Value.ref D5, Value.ref D4, Value.ref D3, Value.ref D2, Value.ref D1] n0) ∈ sn ∧ ∀ (j : Nat) (v : Value), (#[Value.ref D6, Value.ref D5, Value.ref D4, Value.ref D3, Value.ref D2, Value.ref D1] : Array Value)[j]? = some v → ∃ (D : Addr) (nm cat : Str) (t t' : Tok) (n : Nat), v = Value.ref D ∧ (D, tupOf #[Value.str nm t, Value.str cat t'] n) ∈ sn ∧ dnames[j]? = some (nm, cat) := by
  have hs : List.Sublist [(D0, tupOf #[Value.ref D6, Value.ref D5, Value.ref D4, Value.ref D3, Value.ref D2, Value.ref D1] n0), (D1, tupOf #[Value.str (Str.ofString "IX") t1, Value.str (Str.ofString "index") u1] n1), (D2, tupOf #[Value.str (Str.ofString "NE") t2, Value.str (Str.ofString "edited") u2] n2), (D3, tupOf #[Value.str (Str.ofString "NU") t3, Value.str (Str.ofString "numeric") u3] n3), (D4, tupOf #[Value.str (Str.ofString "AE") t4, Value.str (Str.ofString "alnum-edited") u4] n4), (D5, tupOf #[Value.str (Str.ofString "AN") t5, Value.str (Str.ofString "alphanumeric") u5] n5), (D6, tupOf #[Value.str (Str.ofString "AL") t6, Value.str (Str.ofString "alphabetic") u6] n6), (sh, o_sh), (dsh, o_dsh), (ci, o_ci), (R, o_R), (dR, o_dR), (fd, o_fd), (ll, o_ll), (d, o_d)] [(D0, tupOf #[Value.ref D6, Value.ref D5, Value.ref D4, Value.ref D3, Value.ref D2, Value.ref D1] n0), (D1, tupOf #[Value.str (Str.ofString "IX") t1, Value.str (Str.ofString "index") u1] n1), (D2, tupOf #[Value.str (Str.ofString "NE") t2, Value.str (Str.ofString "edited") u2] n2), (D3, tupOf #[Value.str (Str.ofString "NU") t3, Value.str (Str.ofString "numeric") u3] n3), (D4, tupOf #[Value.str (Str.ofString "AE") t4, Value.str (Str.ofString "alnum-edited") u4] n4), (D5, tupOf #[Value.str (Str.ofString "AN") t5, Value.str (Str.ofString "alphanumeric") u5] n5), (D6, tupOf #[Value.str (Str.ofString "AL") t6, Value.str (Str.ofString "alphabetic") u6] n6), (sh, o_sh), (dsh, o_dsh), (kl, o_kl), (ci, o_ci), (R, o_R), (dR, o_dR), (wl, o_wl), (fd, o_fd), (ll, o_ll), (d, o_d), (dd, o_dd)] := by
    repeat' (first | exact .slnil | with_reducible refine .cons_cons _ ?_ | with_reducible refine .cons _ ?_)
  refine ⟨_, newsDrop N fun p hp => ?_, rfl, .head _, ?_⟩
  · rcases List.mem_cons.mp hp with rfl | hp
    · exact .tail _ (.tail _ (.tail _ (.tail _ (.tail _ (.tail _ (.tail _ (.tail _ (.tail _ (.head _)))))))))
    rcases List.mem_cons.mp hp with rfl | hp
    · exact .tail _ (.tail _ (.tail _ (.tail _ (.tail _ (.tail _ (.tail _ (.tail _ (.tail _ (.tail _ (.tail _ (.tail _ (.tail _ (.head _)))))))))))))
    rcases List.mem_cons.mp hp with rfl | hp
    · exact .tail _ (.tail _ (.tail _ (.tail _ (.tail _ (.tail _ (.tail _ (.tail _ (.tail _ (.tail _ (.tail _ (.tail _ (.tail _ (.tail _ (.tail _ (.tail _ (.tail _ (.head _)))))))))))))))))
    · exact hs.subset hp
  · intro j v hv
    refine idx_cons (P := fun j v => ∃ (D : Addr) (nm cat : Str) (t t' : Tok) (n : Nat), v = Value.ref D ∧ (D, tupOf #[Value.str nm t, Value.str cat t'] n) ∈ _ ∧ dnames[j]? = some (nm, cat)) ?_ (idx_cons ?_ (idx_cons ?_ (idx_cons ?_ (idx_cons ?_ (idx_cons ?_ idx_nil))))) j v (by simpa only [List.getElem?_toArray] using hv)
    · exact ⟨_, _, _, _, _, _, rfl, .tail _ (.tail _ (.tail _ (.tail _ (.tail _ (.tail _ (.head _)))))), rfl⟩
    · exact ⟨_, _, _, _, _, _, rfl, .tail _ (.tail _ (.tail _ (.tail _ (.tail _ (.head _))))), rfl⟩
    · exact ⟨_, _, _, _, _, _, rfl, .tail _ (.tail _ (.tail _ (.tail _ (.head _)))), rfl⟩
    · exact ⟨_, _, _, _, _, _, rfl, .tail _ (.tail _ (.tail _ (.head _))), rfl⟩
    · exact ⟨_, _, _, _, _, _, rfl, .tail _ (.tail _ (.head _)), rfl⟩
    · exact ⟨_, _, _, _, _, _, rfl, .tail _ (.head _), rfl⟩
theorem for_gen {M : Model} {A : Around} {tgt iter : PySem.Expr} {body : List Stmt} {pos : Pos} {env : Env} {Q : Flow → Shared → Prop} (h : ∀ tg it bd, tg = tgt → it = iter → bd = body → wpAny M A (exec (.For tg it bd [] pos) env) Q E s) : wpAny M A (exec (.For tgt iter body [] pos) env) Q E s := h _ _ _ rfl rfl rfl
noncomputable def LfM (P : Addr → Obj → Prop) (it : Addr) (nm : Str) (par occ : Value) (cat : Str) (ks : List Value) : Prop := ∃ ki kn, ItM P it nm par occ cat ki ∧ P ki (listOf ks.toArray kn)
theorem LfM.mono {P P' : Addr → Obj → Prop} {it : Addr} {nm cat : Str} {par occ : Value} {ks : List Value} (x : LfM P it nm par occ cat ks) (h : ∀ a o, P a o → P' a o) : LfM P' it nm par occ cat ks := by
  obtain ⟨ki, kn, a, b⟩ := x
  exact ⟨ki, kn, a.mono h, h _ _ b⟩
theorem ap3 {sn : List (Addr × Obj)} {a b c : Addr × Obj} (h : ∀ p ∈ sn, p.1 ≠ a.1 ∧ p.1 ≠ b.1 ∧ p.1 ≠ c.1) : ∀ p ∈ sn, ∀ q ∈ [a, b, c], p.1 ≠ q.1 := fun p hp q hq => by
  simp only [List.mem_cons, List.not_mem_nil, or_false] at hq
  rcases hq with rfl | rfl | rfl
  · exact (h p hp).1
  · exact (h p hp).2.1
  · exact (h p hp).2.2
theorem km2 {k : Addr} {a b : Addr × Obj} (h1 : k ≠ a.1) (h2 : k ≠ b.1) : ∀ q ∈ [a, b], q.1 ≠ k := fun q hq => by
  simp only [List.mem_cons, List.not_mem_nil, or_false] at hq
  rcases hq with rfl | rfl
  · exact Ne.symm h1
  · exact Ne.symm h2
theorem set_indexes {A : Around} {h₀ : Heap} {L x dx wl fd ll : Addr} {m : Str → Option Value} {news : List (Addr × Obj)} {news' : List DictEntry → Nat → List (Addr × Obj)} {es : List DictEntry} {n : Nat} {xd v : Value} {Q : Unit → Shared → Prop}
    (F : Fr h₀ L s.heap m) (X : (hd.heap_39 w.params).In h₀) (N : News h₀ L s.heap news) (h1 : (x, instObj 162 dx) ∈ news) (h2 : (dx, dictOf es n) ∈ news) (P : DatD w es wl fd ll xd) (U : ∀ es2 n2, Upd dx (dictOf es n) (dictOf es2 n2) news (news' es2 n2))
    (h : ∀ es2 n2 h' tk, DatD w es2 wl fd ll v → Fr h₀ L h' m → News h₀ L h' (news' es2 n2) → Q () { s with heap := h', toks := tk }) : wpAny (model PySem.Challenge.rw_og0093_01.row.prog w) A (setAttr (.ref x) (Str.ofString "indexes") v) Q E s := by
  have P2 := P.indexes (hsh := PyData.keyHash w.params (Str.ofString "indexes")) (t := s.toks + 1) (v := v)
  refine set_dict F X N (InstAt.of_news N h1 h2) rfl (by k_is) (by k_is) (by k_is) (by k_is) ?_ rfl (U _ _) (Nat.le_trans P2.1 (Nat.le_of_ble_eq_true rfl)) fun h' F' N' => h _ _ _ _ P2 F' N'
  rw [P.2.2.2.2]; rfl
noncomputable abbrev qnames : List Str := [Str.ofString "Q0", Str.ofString "Q1"]
noncomputable def JQ (d R wl : Addr) (sn0 : List (Addr × Obj)) (i : Nat) (m : Str → Option Value) (nw : List (Addr × Obj)) : Prop :=
  m (Str.ofString "data") = some (.ref d) ∧ ∃ (qs : List (Addr × Addr)) (kn : Nat) (sn : List (Addr × Obj)), nw = (wl, listOf (Value.ref R :: qs.map fun q => Value.ref q.1).toArray kn) :: sn ∧ (∀ p ∈ sn0, p ∈ sn) ∧ (∀ p ∈ sn, p.1 ≠ wl) ∧ qs.length = i ∧
    ∀ (j : Nat) (q : Addr × Addr), qs[j]? = some q → ∃ (nm : Str), qnames[j]? = some nm ∧ LfM (fun a o => (a, o) ∈ sn) q.1 nm .none .none (Str.ofString "group") [.ref q.2] ∧ LfM (fun a o => (a, o) ∈ sn) q.2 (Str.ofString "TWICE") (.ref q.1) .none (Str.ofString "numeric") []
/-- what was made since -/
noncomputable def freshOf (h h' : Heap) : Heap := hideAll h' ((List.range h.objs.size).filter fun b => (h.get? b).isSome)
theorem fresh_get {h h' : Heap} {a : Addr} {o : Obj} (e : h'.get? a = some o) (n : h.get? a = none) : (freshOf h h').get? a = some o := hideAll_get _ e fun m => by
  have := (List.mem_filter.mp m).2
  rw [n] at this; cases this
theorem fresh_old {h h' : Heap} {a : Addr} {o : Obj} (e : (freshOf h h').get? a = some o) : h'.get? a = some o ∧ h.get? a = none := by
  refine ⟨of_hideAll _ e, ?_⟩
  cases q : h.get? a with
  | none => rfl
  | some o2 =>
    unfold freshOf at e
    rw [hideAll_none _ (List.mem_filter.mpr ⟨List.mem_range.mpr (Heap.lt_size q), by rw [q]; rfl⟩)] at e
    cases e
theorem LfM.its {g : Heap} {sn : List (Addr × Obj)} {it : Addr} {nm cat : Str} {par occ : Value} {ks : List Value} (x : LfM (fun a o => (a, o) ∈ sn) it nm par occ cat ks) (h : ∀ p ∈ sn, g.get? p.1 = some p.2) : ItS g it nm par occ cat ks := by
  obtain ⟨ki, kn, a, b⟩ := x
  exact ItM.itS (a.mono fun a o z => h (a, o) z) (h _ b)
theorem q_st {b h : Heap} {L : Addr} {a1 a2 a3 a4 a5 a6 i9 w9 : Addr × Obj} {sn : List (Addr × Obj)} (N : News b L h (a1 :: a2 :: a3 :: a4 :: a5 :: a6 :: i9 :: w9 :: sn)) : News b L h (a3 :: ([i9, w9] ++ (a1 :: a2 :: a4 :: a5 :: a6 :: sn))) := newsDrop N fun p hp => by
  simp only [List.mem_cons, List.mem_append, List.not_mem_nil, or_false] at hp ⊢
  rcases hp with rfl | (rfl | rfl) | rfl | rfl | rfl | rfl | rfl | hp <;> simp_all
noncomputable def JR (d R kl wl dd : Addr) (ow od : Obj) (sn0 : List (Addr × Obj)) (i : Nat) (m : Str → Option Value) (nw : List (Addr × Obj)) : Prop :=
  m (Str.ofString "data") = some (.ref d) ∧ m (Str.ofString "root") = some (.ref R) ∧ ∃ (its : List Addr) (kn : Nat) (sn : List (Addr × Obj)), nw = (kl, listOf (its.map Value.ref).toArray kn) :: (wl, ow) :: (dd, od) :: sn ∧ (∀ p ∈ sn0, p ∈ sn) ∧ (∀ p ∈ sn, p.1 ≠ kl ∧ p.1 ≠ wl ∧ p.1 ≠ dd) ∧ its.length = i ∧
    ∀ (j : Nat) (x : Addr), its[j]? = some x → ∃ (nm cat : Str), dnames[j]? = some (nm, cat) ∧ LfM (fun a o => (a, o) ∈ sn) x nm (.ref R) .none cat []
section
local macro_rules | `(tactic| size_fits) => `(tactic| first | exact (Nat.zero_le _ : 0 ≤ _) | exact (show (1:Nat) ≤ 16777216 by decide) | exact (show (2:Nat) ≤ 16777216 by decide))
theorem data_spec (X : (hd.heap_39 w.params).In s.heap) (T : Top V LS mean mg mb s.heap) (hdp : dp + 50 < 900) (hun : un + 500 < 9000)
    (hQ : ∀ (a : Ad) h' tk, Ext s.heap h' → Dat w (freshOf s.heap h') a → Q (.ref a.d) { s with heap := h', toks := tk }) :
    wpAny (model PySem.Challenge.rw_og0093_01.row.prog w) (AT none dp fr gd un) (call (.ref 387) []) Q E s := by
  ((refine wpAny_call ?_; k_dflt (refine' code0 ?k19 ?k59 ?k69 ?k79 ?k89 ?k99 ?kB9 ?_ ?c29 ?c39 ?c49 ?c59; (case k19 => k_asm); (case k59 => k_asm); (case k69 => k_is); (case k79 => k_is); (case k89 => (simp only [recursionLimit]; omega)); (case k99 => first | exact BindsTo.of_eq rfl | exact binds_K (by k_in) rfl (by k_is) rfl rfl rfl); (case c59 => decide); (case kB9 => exact locs rfl); (case c29 => exact rfl); (case c39 => exact rfl); (case c49 => exact rfl); k_whole; intro L'9 h'9 F'9 N'9 X'9 T'9; (try dsimp only); (try k_fold))))
  (repeat' (first | wtm_at "s1" | ((fail_if_success fail_if_success with_reducible refine at_call ?_); (first | (with_reducible refine hold_at 380 ?_) | ((with_reducible show wpAny _ _ (call (.ref 353) _ _) _ _ _); (k_dflt (refine' mkShape_spec (by k_in) (by wtm_at "T") (by first | exact rm1 hdp rfl rfl | wtm_at "D") (by first | exact um1 hun rfl rfl | wtm_at "U") ?_; k_whole); intro sh'9 ds'9 es'9 n'9 h'9 tk'9 hE'9 hD'9 hN'9 hne1'9; (rename Fr _ _ _ _ => kF0); (rename News _ _ _ _ => kN0); (have F'9 := Fr.keeps kF0 hE'9); (have N'9 := newsAddAll kF0 kN0 hE'9 hN'9); (have l0'9 := newsNe kN0 (hN'9 _ (.head _)).2); (have l1'9 := newsNe kN0 (hN'9 _ (.tail _ (.head _))).2); clear kF0 kN0 hE'9 hN'9; (try simp only [List.cons_append, List.nil_append] at N'9); (try k_sweep))) | ((with_reducible show wpAny _ _ (call (.ref 136) _ _) _ _ _); (k_dflt (refine' mkItem_spec (by k_in) (by wtm_at "T") (by first | exact rm1 hdp rfl rfl | wtm_at "D") (by first | exact um1 hun rfl rfl | wtm_at "U") ?_; k_whole); intro R di'9 kl cl'9 es'9 n'9 h'9 tk'9 hE'9 hD'9 hN'9 hne'9; obtain ⟨hne1'9, hne2'9, hne3'9, hne4'9, hne5'9, hne6'9⟩ := hne'9; (rename Fr _ _ _ _ => kF0); (rename News _ _ _ _ => kN0); (have F'9 := Fr.keeps kF0 hE'9); (have N'9 := newsAddAll kF0 kN0 hE'9 hN'9); (have l0'9 := newsNe kN0 (hN'9 _ (.head _)).2); (have l1'9 := newsNe kN0 (hN'9 _ (.tail _ (.head _))).2); (have l2'9 := newsNe kN0 (hN'9 _ (.tail _ (.tail _ (.head _)))).2); (have l3'9 := newsNe kN0 (hN'9 _ (.tail _ (.tail _ (.tail _ (.head _))))).2); clear kF0 kN0 hE'9 hN'9; (try simp only [List.cons_append, List.nil_append] at N'9); (try k_sweep))) | ((with_reducible show wpAny _ _ (call (.ref 162) _ _) _ _ _); (k_dflt (refine' mkData_spec (by k_in) (by wtm_at "T") (by first | exact rm1 hdp rfl rfl | wtm_at "D") (by first | exact um1 hun rfl rfl | wtm_at "U") ?_; k_whole); intro d dd wl ll fd es'9 n'9 of'9 h'9 tk'9 hE'9 hD'9 hlo'9 his'9 hN'9 hne'9; obtain ⟨xd'9, hD'9⟩ := hD'9; (obtain ⟨_, _, _, _, _⟩ := id hD'9); (rename Fr _ _ _ _ => kF0); (rename News _ _ _ _ => kN0); (have F'9 := Fr.keeps kF0 hE'9); (have N'9 := newsAddAll kF0 kN0 hE'9 hN'9); clear kF0 kN0 hE'9 hN'9; (obtain ⟨q1'9, q2'9, q3'9, q4'9, q5'9, q6'9, q7'9, q8'9, q9'9, q10'9⟩ := hne'9); (try simp only [List.cons_append, List.nil_append] at N'9); (try k_sweep))))) | ((fail_if_success fail_if_success with_reducible refine at_app ?_); (with_reducible refine hold ?_)) | ((fail_if_success fail_if_success with_reducible refine at_set ?_); (first | ((with_reducible show wpAny _ _ (setAttr _ (Str.ofString "indexes") _) _ _ _); k_dflt (refine' set_indexes ?F9 ?X9 ?N9 ?h19 ?h29 ?P9 ?U9 ?_; (case F9 => k_asm); (case X9 => k_asm); (case N9 => k_asm); (case h19 => k_mem); (case h29 => k_mem); (case P9 => assumption); (case U9 => (intro es9 n9; k_upd)); k_whole; intro es'9 n'9 h'9 tk'9 P'9 F'9 N'9; (try k_sweep))) | (k_dflt (first | (refine' set_shape ?F9 ?X9 ?N9 ?h19 ?h29 ?P9 ?U9 ?_; (case F9 => k_asm); (case X9 => k_asm); (case N9 => k_asm); (case h19 => k_mem); (case h29 => k_mem); (case P9 => assumption); (case U9 => (intro es9 n9; k_upd)); k_whole; intro es'9 n'9 h'9 tk'9 P'9 F'9 N'9; (try k_sweep)) | (refine' set_occurs ?F9 ?X9 ?N9 ?h19 ?h29 ?P9 ?U9 ?_; (case F9 => k_asm); (case X9 => k_asm); (case N9 => k_asm); (case h19 => k_mem); (case h29 => k_mem); (case P9 => assumption); (case U9 => (intro es9 n9; k_upd)); k_whole; intro es'9 n'9 h'9 tk'9 P'9 F'9 N'9; (try k_sweep)) | (refine' set_parent ?F9 ?X9 ?N9 ?h19 ?h29 ?P9 ?U9 ?_; (case F9 => k_asm); (case X9 => k_asm); (case N9 => k_asm); (case h19 => k_mem); (case h29 => k_mem); (case P9 => assumption); (case U9 => (intro es9 n9; k_upd)); k_whole; intro es'9 n'9 h'9 tk'9 P'9 F'9 N'9; (try k_sweep)))))) | ((fail_if_success fail_if_success with_reducible refine at_iter ?_); (with_reducible refine hold ?_)) | ((fail_if_success fail_if_success with_reducible refine at_for ?_); (with_reducible refine hold ?_)) | ((fail_if_success fail_if_success with_reducible refine at_get ?_); (k_dflt (refine' get_own ?k19 ?k29 ?k39 ?k49 ?k59 ?k69 ?k79 ?k89 ?k99 ?_; (case k19 => k_asm); (case k29 => k_asm); (case k39 => exact InstAt.of_news (by k_asm) (by k_mem) (by k_mem)); (case k49 => k_is); (case k59 => k_is); (case k69 => k_is); (case k79 => k_is); (case k89 => assumption); (case k99 => k_handed); k_whole))) | ((fail_if_success fail_if_success with_reducible refine at_name ?_); (k_dflt (refine' ld ?k19 ?k29 ?_; (case k19 => k_asm); (case k29 => first | assumption | ((repeat rw [if_neg (by decide)]); assumption)); k_whole))) | wtm_at "s2"))
  unfold Hold
  rename Fr _ _ _ _ => F9
  rename News _ _ _ _ => N9
  refine' append_K F9 N9 ?k3 ?_ ?z
  (case k3 => k_upd)
  (case z => exact (Nat.zero_le _ : 0 ≤ _))
  k_whole
  clear F9 N9
  intro h' F' N'
  (repeat' (first | wtm_at "s1" | ((fail_if_success fail_if_success with_reducible refine at_call ?_); (first | (with_reducible refine hold_at 380 ?_) | ((with_reducible show wpAny _ _ (call (.ref 353) _ _) _ _ _); (k_dflt (refine' mkShape_spec (by k_in) (by wtm_at "T") (by first | exact rm1 hdp rfl rfl | wtm_at "D") (by first | exact um1 hun rfl rfl | wtm_at "U") ?_; k_whole); intro sh'9 ds'9 es'9 n'9 h'9 tk'9 hE'9 hD'9 hN'9 hne1'9; (rename Fr _ _ _ _ => kF0); (rename News _ _ _ _ => kN0); (have F'9 := Fr.keeps kF0 hE'9); (have N'9 := newsAddAll kF0 kN0 hE'9 hN'9); (have l0'9 := newsNe kN0 (hN'9 _ (.head _)).2); (have l1'9 := newsNe kN0 (hN'9 _ (.tail _ (.head _))).2); clear kF0 kN0 hE'9 hN'9; (try simp only [List.cons_append, List.nil_append] at N'9); (try k_sweep))) | ((with_reducible show wpAny _ _ (call (.ref 136) _ _) _ _ _); (k_dflt (refine' mkItem_spec (by k_in) (by wtm_at "T") (by first | exact rm1 hdp rfl rfl | wtm_at "D") (by first | exact um1 hun rfl rfl | wtm_at "U") ?_; k_whole); intro it'9 di'9 kl'9 cl'9 es'9 n'9 h'9 tk'9 hE'9 hD'9 hN'9 hne'9; obtain ⟨hne1'9, hne2'9, hne3'9, hne4'9, hne5'9, hne6'9⟩ := hne'9; (rename Fr _ _ _ _ => kF0); (rename News _ _ _ _ => kN0); (have F'9 := Fr.keeps kF0 hE'9); (have N'9 := newsAddAll kF0 kN0 hE'9 hN'9); (have l0'9 := newsNe kN0 (hN'9 _ (.head _)).2); (have l1'9 := newsNe kN0 (hN'9 _ (.tail _ (.head _))).2); (have l2'9 := newsNe kN0 (hN'9 _ (.tail _ (.tail _ (.head _)))).2); (have l3'9 := newsNe kN0 (hN'9 _ (.tail _ (.tail _ (.tail _ (.head _))))).2); clear kF0 kN0 hE'9 hN'9; (try simp only [List.cons_append, List.nil_append] at N'9); (try k_sweep))))) | ((fail_if_success fail_if_success with_reducible refine at_app ?_); (with_reducible refine hold ?_)) | ((fail_if_success fail_if_success with_reducible refine at_set ?_); (first | ((with_reducible show wpAny _ _ (setAttr _ (Str.ofString "indexes") _) _ _ _); k_dflt (refine' set_indexes ?F9 ?X9 ?N9 ?h19 ?h29 ?P9 ?U9 ?_; (case F9 => k_asm); (case X9 => k_asm); (case N9 => k_asm); (case h19 => k_mem); (case h29 => k_mem); (case P9 => assumption); (case U9 => (intro es9 n9; k_upd)); k_whole; intro es'9 n'9 h'9 tk'9 P'9 F'9 N'9; (try k_sweep))) | (k_dflt (first | (refine' set_shape ?F9 ?X9 ?N9 ?h19 ?h29 ?P9 ?U9 ?_; (case F9 => k_asm); (case X9 => k_asm); (case N9 => k_asm); (case h19 => k_mem); (case h29 => k_mem); (case P9 => assumption); (case U9 => (intro es9 n9; k_upd)); k_whole; intro es'9 n'9 h'9 tk'9 P'9 F'9 N'9; (try k_sweep)) | (refine' set_occurs ?F9 ?X9 ?N9 ?h19 ?h29 ?P9 ?U9 ?_; (case F9 => k_asm); (case X9 => k_asm); (case N9 => k_asm); (case h19 => k_mem); (case h29 => k_mem); (case P9 => assumption); (case U9 => (intro es9 n9; k_upd)); k_whole; intro es'9 n'9 h'9 tk'9 P'9 F'9 N'9; (try k_sweep)) | (refine' set_parent ?F9 ?X9 ?N9 ?h19 ?h29 ?P9 ?U9 ?_; (case F9 => k_asm); (case X9 => k_asm); (case N9 => k_asm); (case h19 => k_mem); (case h29 => k_mem); (case P9 => assumption); (case U9 => (intro es9 n9; k_upd)); k_whole; intro es'9 n'9 h'9 tk'9 P'9 F'9 N'9; (try k_sweep)))))) | ((fail_if_success fail_if_success with_reducible refine at_iter ?_); (with_reducible refine hold ?_)) | ((fail_if_success fail_if_success with_reducible refine at_for ?_); (with_reducible refine hold ?_)) | ((fail_if_success fail_if_success with_reducible refine at_get ?_); (k_dflt (refine' get_own ?k19 ?k29 ?k39 ?k49 ?k59 ?k69 ?k79 ?k89 ?k99 ?_; (case k19 => k_asm); (case k29 => k_asm); (case k39 => exact InstAt.of_news (by k_asm) (by k_mem) (by k_mem)); (case k49 => k_is); (case k59 => k_is); (case k69 => k_is); (case k79 => k_is); (case k89 => assumption); (case k99 => k_handed); k_whole))) | ((fail_if_success fail_if_success with_reducible refine at_name ?_); (k_dflt (refine' ld ?k19 ?k29 ?_; (case k19 => k_asm); (case k29 => first | assumption | ((repeat rw [if_neg (by decide)]); assumption)); k_whole))) | wtm_at "s2"))
  unfold Hold
  with_reducible refine for_gen ?_
  intro tg it bd ht hi hb
  with_reducible refine' For_turns ?F ?h ?hs ?hE
  (case F => k_asm)
  (case hs => intro _; rw [hi]; rfl)
  (case hE => passes_own)
  subst hi
  (repeat' (first | wtm_at "s1" | ((fail_if_success fail_if_success with_reducible refine at_call ?_); (first | (with_reducible refine hold_at 380 ?_) | ((with_reducible show wpAny _ _ (call (.ref 353) _ _) _ _ _); (k_dflt (refine' mkShape_spec (by k_in) (by wtm_at "T") (by first | exact rm1 hdp rfl rfl | wtm_at "D") (by first | exact um1 hun rfl rfl | wtm_at "U") ?_; k_whole); intro sh'9 ds'9 es'9 n'9 h'9 tk'9 hE'9 hD'9 hN'9 hne1'9; (rename Fr _ _ _ _ => kF0); (rename News _ _ _ _ => kN0); (have F'9 := Fr.keeps kF0 hE'9); (have N'9 := newsAddAll kF0 kN0 hE'9 hN'9); (have l0'9 := newsNe kN0 (hN'9 _ (.head _)).2); (have l1'9 := newsNe kN0 (hN'9 _ (.tail _ (.head _))).2); clear kF0 kN0 hE'9 hN'9; (try simp only [List.cons_append, List.nil_append] at N'9); (try k_sweep))) | ((with_reducible show wpAny _ _ (call (.ref 136) _ _) _ _ _); (k_dflt (refine' mkItem_spec (by k_in) (by wtm_at "T") (by first | exact rm1 hdp rfl rfl | wtm_at "D") (by first | exact um1 hun rfl rfl | wtm_at "U") ?_; k_whole); intro it'9 di'9 kl'9 cl'9 es'9 n'9 h'9 tk'9 hE'9 hD'9 hN'9 hne'9; obtain ⟨hne1'9, hne2'9, hne3'9, hne4'9, hne5'9, hne6'9⟩ := hne'9; (rename Fr _ _ _ _ => kF0); (rename News _ _ _ _ => kN0); (have F'9 := Fr.keeps kF0 hE'9); (have N'9 := newsAddAll kF0 kN0 hE'9 hN'9); (have l0'9 := newsNe kN0 (hN'9 _ (.head _)).2); (have l1'9 := newsNe kN0 (hN'9 _ (.tail _ (.head _))).2); (have l2'9 := newsNe kN0 (hN'9 _ (.tail _ (.tail _ (.head _)))).2); (have l3'9 := newsNe kN0 (hN'9 _ (.tail _ (.tail _ (.tail _ (.head _))))).2); clear kF0 kN0 hE'9 hN'9; (try simp only [List.cons_append, List.nil_append] at N'9); (try k_sweep))))) | ((fail_if_success fail_if_success with_reducible refine at_app ?_); (with_reducible refine hold ?_)) | ((fail_if_success fail_if_success with_reducible refine at_set ?_); (first | ((with_reducible show wpAny _ _ (setAttr _ (Str.ofString "indexes") _) _ _ _); k_dflt (refine' set_indexes ?F9 ?X9 ?N9 ?h19 ?h29 ?P9 ?U9 ?_; (case F9 => k_asm); (case X9 => k_asm); (case N9 => k_asm); (case h19 => k_mem); (case h29 => k_mem); (case P9 => assumption); (case U9 => (intro es9 n9; k_upd)); k_whole; intro es'9 n'9 h'9 tk'9 P'9 F'9 N'9; (try k_sweep))) | (k_dflt (first | (refine' set_shape ?F9 ?X9 ?N9 ?h19 ?h29 ?P9 ?U9 ?_; (case F9 => k_asm); (case X9 => k_asm); (case N9 => k_asm); (case h19 => k_mem); (case h29 => k_mem); (case P9 => assumption); (case U9 => (intro es9 n9; k_upd)); k_whole; intro es'9 n'9 h'9 tk'9 P'9 F'9 N'9; (try k_sweep)) | (refine' set_occurs ?F9 ?X9 ?N9 ?h19 ?h29 ?P9 ?U9 ?_; (case F9 => k_asm); (case X9 => k_asm); (case N9 => k_asm); (case h19 => k_mem); (case h29 => k_mem); (case P9 => assumption); (case U9 => (intro es9 n9; k_upd)); k_whole; intro es'9 n'9 h'9 tk'9 P'9 F'9 N'9; (try k_sweep)) | (refine' set_parent ?F9 ?X9 ?N9 ?h19 ?h29 ?P9 ?U9 ?_; (case F9 => k_asm); (case X9 => k_asm); (case N9 => k_asm); (case h19 => k_mem); (case h29 => k_mem); (case P9 => assumption); (case U9 => (intro es9 n9; k_upd)); k_whole; intro es'9 n'9 h'9 tk'9 P'9 F'9 N'9; (try k_sweep)))))) | ((fail_if_success fail_if_success with_reducible refine at_iter ?_); (with_reducible refine hold ?_)) | ((fail_if_success fail_if_success with_reducible refine at_for ?_); (with_reducible refine hold ?_)) | ((fail_if_success fail_if_success with_reducible refine at_get ?_); (k_dflt (refine' get_own ?k19 ?k29 ?k39 ?k49 ?k59 ?k69 ?k79 ?k89 ?k99 ?_; (case k19 => k_asm); (case k29 => k_asm); (case k39 => exact InstAt.of_news (by k_asm) (by k_mem) (by k_mem)); (case k49 => k_is); (case k59 => k_is); (case k69 => k_is); (case k79 => k_is); (case k89 => assumption); (case k99 => k_handed); k_whole))) | ((fail_if_success fail_if_success with_reducible refine at_name ?_); (k_dflt (refine' ld ?k19 ?k29 ?_; (case k19 => k_asm); (case k29 => first | assumption | ((repeat rw [if_neg (by decide)]); assumption)); k_whole))) | wtm_at "s2"))
  unfold Hold
  rename Fr _ _ _ _ => F9
  rename News _ _ _ _ => N9
  obtain ⟨sn, N1, hsn, hD0, hpairs⟩ := data_st1 N9
  have hk : ∀ p ∈ sn, p.1 ≠ kl ∧ p.1 ≠ wl ∧ p.1 ≠ dd := by
    rw [hsn]
    simp only [List.forall_mem_cons, List.not_mem_nil, false_imp_iff, implies_true, and_true]
    repeat' (first | (refine And.intro ?_ ?_) | k_ne)
  have k1 : kl ≠ wl := by k_ne
  have k2 : kl ≠ dd := by k_ne
  have k3 : wl ≠ dd := by k_ne
  have MR : ItM (fun a o => (a, o) ∈ sn) R (Str.ofString "R") .none .none (Str.ofString "group") kl := by
    rw [hsn]
    exact ⟨_, _, _, _, _, _, _, by k_mem, by k_mem, by assumption, by k_mem, by k_mem, by assumption⟩
  obtain ⟨of, mfd, fd1⟩ : ∃ of, (fd, of) ∈ sn ∧ Obj.IsDictOf (PySem.strKind PySem.Challenge.rw_og0093_01.row.prog w) of [] := ⟨_, by rw [hsn]; exact .tail _ (.tail _ (.tail _ (.tail _ (.tail _ (.tail _ (.tail _ (.tail _ (.tail _ (.tail _ (.tail _ (.tail _ (.head _)))))))))))), by assumption⟩
  have fd2 : (fd == sysModules) = false := by assumption
  have mll : (ll, listOf #[] 0) ∈ sn := by rw [hsn]; k_mem
  have md : (d, instObj 162 dd) ∈ sn := by rw [hsn]; k_mem
  obtain ⟨esd, nd, xd, Dd, N1⟩ : ∃ es n xd, DatD w es wl fd ll xd ∧ News _ _ _ ((kl, listOf #[] 0) :: (wl, listOf #[Value.ref R] 1) :: (dd, dictOf es n) :: sn) := ⟨_, _, _, by assumption, N1⟩
  clear hsn N9
  refine turnsTupN rfl F9 N1 (.tail _ (.tail _ (.tail _ hD0))) (JR d R kl wl dd (listOf #[Value.ref R] 1) (dictOf esd nd) sn) ?hJ ?h0 ?step ?fin
  (case hJ =>
    rintro i m nw ⟨_, _, its, kn, sn1, rfl, hs, _⟩
    exact .tail _ (.tail _ (.tail _ (hs _ hD0))))
  (case h0 =>
    exact ⟨(if_neg (by decide)).trans (if_pos rfl), if_pos rfl, [], 0, sn, rfl, fun p hp => hp, hk, rfl, fun j x hx => absurd hx (by simp)⟩)
  (case step =>
    intro i v m₁ news₁ h₁ tk₁ I oI hv hJ ho F1 N2
    clear F9 N1
    obtain ⟨hm1, hm2, its, kn, sn1, rfl, hs, hk1, hlen, hits⟩ := hJ
    obtain ⟨D, nm, cat, t, t', n, rfl, hD, hnm⟩ := hpairs i v hv
    have hD := hs _ hD
    have hI1 : kl ≠ I := ho _ (.head _)
    have hi6 : i < 6 := (Array.getElem?_eq_some_iff.mp hv).1
    subst ht hb
    (show wpAny _ _ _ _ _ _); k_fold
    (repeat' (first | wtm_at "s1" | ((fail_if_success fail_if_success with_reducible refine at_call ?_); (first | (with_reducible refine hold_at 380 ?_) | ((with_reducible show wpAny _ _ (call (.ref 353) _ _) _ _ _); (k_dflt (refine' mkShape_spec (by k_in) (by wtm_at "T") (by first | exact rm1 hdp rfl rfl | wtm_at "D") (by first | exact um1 hun rfl rfl | wtm_at "U") ?_; k_whole); intro sh'9 ds'9 es'9 n'9 h'9 tk'9 hE'9 hD'9 hN'9 hne1'9; (rename Fr _ _ _ _ => kF0); (rename News _ _ _ _ => kN0); (have F'9 := Fr.keeps kF0 hE'9); (have N'9 := newsAddAll kF0 kN0 hE'9 hN'9); (have l0'9 := newsNe kN0 (hN'9 _ (.head _)).2); (have l1'9 := newsNe kN0 (hN'9 _ (.tail _ (.head _))).2); clear kF0 kN0 hE'9 hN'9; (try simp only [List.cons_append, List.nil_append] at N'9); (try k_sweep))) | ((with_reducible show wpAny _ _ (call (.ref 136) _ _) _ _ _); (k_dflt (refine' mkItem_spec (by k_in) (by wtm_at "T") (by first | exact rm1 hdp rfl rfl | wtm_at "D") (by first | exact um1 hun rfl rfl | wtm_at "U") ?_; k_whole); intro it'9 di'9 kl'9 cl'9 es'9 n'9 h'9 tk'9 hE'9 hD'9 hN'9 hne'9; obtain ⟨hne1'9, hne2'9, hne3'9, hne4'9, hne5'9, hne6'9⟩ := hne'9; (rename Fr _ _ _ _ => kF0); (rename News _ _ _ _ => kN0); (have F'9 := Fr.keeps kF0 hE'9); (have N'9 := newsAddAll kF0 kN0 hE'9 hN'9); (have l0'9 := newsNe kN0 (hN'9 _ (.head _)).2); (have l1'9 := newsNe kN0 (hN'9 _ (.tail _ (.head _))).2); (have l2'9 := newsNe kN0 (hN'9 _ (.tail _ (.tail _ (.head _)))).2); (have l3'9 := newsNe kN0 (hN'9 _ (.tail _ (.tail _ (.tail _ (.head _))))).2); clear kF0 kN0 hE'9 hN'9; (try simp only [List.cons_append, List.nil_append] at N'9); (try k_sweep))))) | ((fail_if_success fail_if_success with_reducible refine at_app ?_); (with_reducible refine hold ?_)) | ((fail_if_success fail_if_success with_reducible refine at_set ?_); (first | ((with_reducible show wpAny _ _ (setAttr _ (Str.ofString "indexes") _) _ _ _); k_dflt (refine' set_indexes ?F9 ?X9 ?N9 ?h19 ?h29 ?P9 ?U9 ?_; (case F9 => k_asm); (case X9 => k_asm); (case N9 => k_asm); (case h19 => k_mem); (case h29 => k_mem); (case P9 => assumption); (case U9 => (intro es9 n9; k_upd)); k_whole; intro es'9 n'9 h'9 tk'9 P'9 F'9 N'9; (try k_sweep))) | (k_dflt (first | (refine' set_shape ?F9 ?X9 ?N9 ?h19 ?h29 ?P9 ?U9 ?_; (case F9 => k_asm); (case X9 => k_asm); (case N9 => k_asm); (case h19 => k_mem); (case h29 => k_mem); (case P9 => assumption); (case U9 => (intro es9 n9; k_upd)); k_whole; intro es'9 n'9 h'9 tk'9 P'9 F'9 N'9; (try k_sweep)) | (refine' set_occurs ?F9 ?X9 ?N9 ?h19 ?h29 ?P9 ?U9 ?_; (case F9 => k_asm); (case X9 => k_asm); (case N9 => k_asm); (case h19 => k_mem); (case h29 => k_mem); (case P9 => assumption); (case U9 => (intro es9 n9; k_upd)); k_whole; intro es'9 n'9 h'9 tk'9 P'9 F'9 N'9; (try k_sweep)) | (refine' set_parent ?F9 ?X9 ?N9 ?h19 ?h29 ?P9 ?U9 ?_; (case F9 => k_asm); (case X9 => k_asm); (case N9 => k_asm); (case h19 => k_mem); (case h29 => k_mem); (case P9 => assumption); (case U9 => (intro es9 n9; k_upd)); k_whole; intro es'9 n'9 h'9 tk'9 P'9 F'9 N'9; (try k_sweep)))))) | ((fail_if_success fail_if_success with_reducible refine at_iter ?_); (with_reducible refine hold ?_)) | ((fail_if_success fail_if_success with_reducible refine at_for ?_); (with_reducible refine hold ?_)) | ((fail_if_success fail_if_success with_reducible refine at_get ?_); (k_dflt (refine' get_own ?k19 ?k29 ?k39 ?k49 ?k59 ?k69 ?k79 ?k89 ?k99 ?_; (case k19 => k_asm); (case k29 => k_asm); (case k39 => exact InstAt.of_news (by k_asm) (by k_mem) (by k_mem)); (case k49 => k_is); (case k59 => k_is); (case k69 => k_is); (case k79 => k_is); (case k89 => assumption); (case k99 => k_handed); k_whole))) | ((fail_if_success fail_if_success with_reducible refine at_name ?_); (k_dflt (refine' ld ?k19 ?k29 ?_; (case k19 => k_asm); (case k29 => first | assumption | ((repeat rw [if_neg (by decide)]); assumption)); k_whole))) | wtm_at "s2"))
    unfold Hold
    rename Fr _ _ _ _ => F5
    rename News _ _ _ _ => N5
    refine leaf_walk1 F5 N5 (by assumption) (by assumption) (by first | omega | (simp only [depth_deeper]; omega)) (by first | omega | (simp only [units_deeper]; omega)) (MR.mono fun a o z => hs _ z) (fun p hp => .tail _ (.tail _ (.tail _ (.tail _ hp)))) (fun p hp => (hk1 p hp).1) (.tail _ (.head _)) (by rw [List.length_map]; omega)
      (fun it kn2 => .tail (Ne.symm hI1) (.head fun p hp => ?_)) ?_
    · rcases List.mem_cons.mp hp with rfl | hp
      · exact Ne.symm k1
      rcases List.mem_cons.mp hp with rfl | hp
      · exact Ne.symm k2
      · exact (hk1 p hp).1
    intro it ki kn2 sn2 h' tk' F6 N6 M6 z1 z2 z3
    clear F5 N5
    (repeat' (first | wtm_at "s1" | ((fail_if_success fail_if_success with_reducible refine at_call ?_); (first | (with_reducible refine hold_at 380 ?_) | ((with_reducible show wpAny _ _ (call (.ref 353) _ _) _ _ _); (k_dflt (refine' mkShape_spec (by k_in) (by wtm_at "T") (by first | exact rm1 hdp rfl rfl | wtm_at "D") (by first | exact um1 hun rfl rfl | wtm_at "U") ?_; k_whole); intro sh'9 ds'9 es'9 n'9 h'9 tk'9 hE'9 hD'9 hN'9 hne1'9; (rename Fr _ _ _ _ => kF0); (rename News _ _ _ _ => kN0); (have F'9 := Fr.keeps kF0 hE'9); (have N'9 := newsAddAll kF0 kN0 hE'9 hN'9); (have l0'9 := newsNe kN0 (hN'9 _ (.head _)).2); (have l1'9 := newsNe kN0 (hN'9 _ (.tail _ (.head _))).2); clear kF0 kN0 hE'9 hN'9; (try simp only [List.cons_append, List.nil_append] at N'9); (try k_sweep))) | ((with_reducible show wpAny _ _ (call (.ref 136) _ _) _ _ _); (k_dflt (refine' mkItem_spec (by k_in) (by wtm_at "T") (by first | exact rm1 hdp rfl rfl | wtm_at "D") (by first | exact um1 hun rfl rfl | wtm_at "U") ?_; k_whole); intro it'9 di'9 kl'9 cl'9 es'9 n'9 h'9 tk'9 hE'9 hD'9 hN'9 hne'9; obtain ⟨hne1'9, hne2'9, hne3'9, hne4'9, hne5'9, hne6'9⟩ := hne'9; (rename Fr _ _ _ _ => kF0); (rename News _ _ _ _ => kN0); (have F'9 := Fr.keeps kF0 hE'9); (have N'9 := newsAddAll kF0 kN0 hE'9 hN'9); (have l0'9 := newsNe kN0 (hN'9 _ (.head _)).2); (have l1'9 := newsNe kN0 (hN'9 _ (.tail _ (.head _))).2); (have l2'9 := newsNe kN0 (hN'9 _ (.tail _ (.tail _ (.head _)))).2); (have l3'9 := newsNe kN0 (hN'9 _ (.tail _ (.tail _ (.tail _ (.head _))))).2); clear kF0 kN0 hE'9 hN'9; (try simp only [List.cons_append, List.nil_append] at N'9); (try k_sweep))))) | ((fail_if_success fail_if_success with_reducible refine at_app ?_); (with_reducible refine hold ?_)) | ((fail_if_success fail_if_success with_reducible refine at_set ?_); (first | ((with_reducible show wpAny _ _ (setAttr _ (Str.ofString "indexes") _) _ _ _); k_dflt (refine' set_indexes ?F9 ?X9 ?N9 ?h19 ?h29 ?P9 ?U9 ?_; (case F9 => k_asm); (case X9 => k_asm); (case N9 => k_asm); (case h19 => k_mem); (case h29 => k_mem); (case P9 => assumption); (case U9 => (intro es9 n9; k_upd)); k_whole; intro es'9 n'9 h'9 tk'9 P'9 F'9 N'9; (try k_sweep))) | (k_dflt (first | (refine' set_shape ?F9 ?X9 ?N9 ?h19 ?h29 ?P9 ?U9 ?_; (case F9 => k_asm); (case X9 => k_asm); (case N9 => k_asm); (case h19 => k_mem); (case h29 => k_mem); (case P9 => assumption); (case U9 => (intro es9 n9; k_upd)); k_whole; intro es'9 n'9 h'9 tk'9 P'9 F'9 N'9; (try k_sweep)) | (refine' set_occurs ?F9 ?X9 ?N9 ?h19 ?h29 ?P9 ?U9 ?_; (case F9 => k_asm); (case X9 => k_asm); (case N9 => k_asm); (case h19 => k_mem); (case h29 => k_mem); (case P9 => assumption); (case U9 => (intro es9 n9; k_upd)); k_whole; intro es'9 n'9 h'9 tk'9 P'9 F'9 N'9; (try k_sweep)) | (refine' set_parent ?F9 ?X9 ?N9 ?h19 ?h29 ?P9 ?U9 ?_; (case F9 => k_asm); (case X9 => k_asm); (case N9 => k_asm); (case h19 => k_mem); (case h29 => k_mem); (case P9 => assumption); (case U9 => (intro es9 n9; k_upd)); k_whole; intro es'9 n'9 h'9 tk'9 P'9 F'9 N'9; (try k_sweep)))))) | ((fail_if_success fail_if_success with_reducible refine at_iter ?_); (with_reducible refine hold ?_)) | ((fail_if_success fail_if_success with_reducible refine at_for ?_); (with_reducible refine hold ?_)) | ((fail_if_success fail_if_success with_reducible refine at_get ?_); (k_dflt (refine' get_own ?k19 ?k29 ?k39 ?k49 ?k59 ?k69 ?k79 ?k89 ?k99 ?_; (case k19 => k_asm); (case k29 => k_asm); (case k39 => exact InstAt.of_news (by k_asm) (by k_mem) (by k_mem)); (case k49 => k_is); (case k59 => k_is); (case k69 => k_is); (case k79 => k_is); (case k89 => assumption); (case k99 => k_handed); k_whole))) | ((fail_if_success fail_if_success with_reducible refine at_name ?_); (k_dflt (refine' ld ?k19 ?k29 ?_; (case k19 => k_asm); (case k29 => first | assumption | ((repeat rw [if_neg (by decide)]); assumption)); k_whole))) | wtm_at "s2"))
    rename Fr _ _ _ _ => F11
    rename News _ _ _ _ => N11
    refine ⟨_, _, _, (kl, listOf ((its ++ [it]).map Value.ref).toArray kn2) :: (wl, listOf #[Value.ref R] 1) :: (dd, dictOf esd nd) :: (ki, listOf #[] 0) :: (sn2 ++ sn1), rfl, F11, ?_, ?_, (if_neg (by decide)).trans ((if_neg (by decide)).trans hm1), (if_neg (by decide)).trans ((if_neg (by decide)).trans hm2),
      its ++ [it], kn2, (ki, listOf #[] 0) :: (sn2 ++ sn1), rfl, fun p hp => .tail _ (List.mem_append_right _ (hs p hp)), ?_, by rw [List.length_append, hlen]; rfl, ?_⟩
    · rw [List.map_append]
      refine newsDrop N11 fun p hp => ?_
      rcases List.mem_cons.mp hp with rfl | hp
      · exact .tail _ (List.mem_append_right _ (.head _))
      rcases List.mem_cons.mp hp with rfl | hp
      · exact .tail _ (List.mem_append_right _ (.tail _ (.head _)))
      rcases List.mem_cons.mp hp with rfl | hp
      · exact .tail _ (List.mem_append_right _ (.tail _ (.tail _ (.head _))))
      rcases List.mem_cons.mp hp with rfl | hp
      · exact .tail _ (List.mem_append_right _ (.tail _ (.tail _ (.tail _ (.head _)))))
      rcases List.mem_cons.mp hp with rfl | hp
      · exact .head _
      rcases List.mem_append.mp hp with hp | hp
      · exact .tail _ (List.mem_append_left _ hp)
      · exact .tail _ (List.mem_append_right _ (.tail _ (.tail _ (.tail _ (.tail _ hp)))))
    · intro p hp
      rcases List.mem_cons.mp hp with rfl | hp
      · exact hI1
      rcases List.mem_cons.mp hp with rfl | hp
      · exact ho _ (.tail _ (.head _))
      rcases List.mem_cons.mp hp with rfl | hp
      · exact ho _ (.tail _ (.tail _ (.head _)))
      rcases List.mem_cons.mp hp with rfl | hp
      · exact Ne.symm (z2 _ (.head _))
      rcases List.mem_append.mp hp with hp | hp
      · exact Ne.symm (z3 _ hp _ (.head _))
      · exact ho _ (.tail _ (.tail _ (.tail _ hp)))
    · intro p hp
      rcases List.mem_cons.mp hp with rfl | hp
      · exact ⟨Ne.symm (z2 _ (.tail _ (.head _))), Ne.symm (z2 _ (.tail _ (.tail _ (.head _)))), Ne.symm (z2 _ (.tail _ (.tail _ (.tail _ (.head _)))))⟩
      rcases List.mem_append.mp hp with hp | hp
      · exact ⟨Ne.symm (z3 _ hp _ (.tail _ (.head _))), Ne.symm (z3 _ hp _ (.tail _ (.tail _ (.head _)))), Ne.symm (z3 _ hp _ (.tail _ (.tail _ (.tail _ (.head _)))))⟩
      · exact hk1 p hp
    · intro j x hx
      rcases Nat.lt_or_ge j its.length with hj | hj
      · rw [List.getElem?_append_left hj] at hx
        obtain ⟨nm', cat', e1, e2⟩ := hits j x hx
        exact ⟨nm', cat', e1, e2.mono fun a o z => .tail _ (List.mem_append_right _ z)⟩
      · rw [List.getElem?_append_right hj] at hx
        have hj0 : j - its.length = 0 := by
          rcases Nat.eq_zero_or_pos (j - its.length) with e | e
          · exact e
          · rw [List.getElem?_eq_none (show [it].length ≤ j - its.length from e)] at hx; cases hx
        rw [hj0] at hx
        have hjl : j = i := by omega
        cases hx
        exact ⟨nm, cat, by rw [hjl]; exact hnm, ki, 0, M6.mono fun a o z => .tail _ (List.mem_append_left _ z), .head _⟩)
  (case fin =>
    intro h' tk' m' news' F1 N2 hJ
    clear F9 N1
    obtain ⟨hm1, hm2, its, kn, sn1, rfl, hs, hk1, hlen, hits⟩ := hJ
    clear hpairs ht hb
    have MR := MR.mono fun a o z => hs _ z
    have mfd := hs _ mfd
    have mll := hs _ mll
    have md := hs _ md
    clear hs hD0 hk
    have ap1 := ap3 (a := (kl, listOf (its.map Value.ref).toArray kn)) (b := (wl, listOf #[Value.ref R] 1)) (c := (dd, dictOf esd nd)) hk1
    have hl6 : its.length = 6 := hlen
    clear hk1 hlen
    (repeat' (first | wtm_at "s1" | ((fail_if_success fail_if_success with_reducible refine at_call ?_); (first | (with_reducible refine hold_at 380 ?_) | ((with_reducible show wpAny _ _ (call (.ref 353) _ _) _ _ _); (k_dflt (refine' mkShape_spec (by k_in) (by wtm_at "T") (by first | exact rm1 hdp rfl rfl | wtm_at "D") (by first | exact um1 hun rfl rfl | wtm_at "U") ?_; k_whole); intro sh'9 ds'9 es'9 n'9 h'9 tk'9 hE'9 hD'9 hN'9 hne1'9; (rename Fr _ _ _ _ => kF0); (rename News _ _ _ _ => kN0); (have F'9 := Fr.keeps kF0 hE'9); (have N'9 := newsAddAll kF0 kN0 hE'9 hN'9); (have l0'9 := newsNe kN0 (hN'9 _ (.head _)).2); (have l1'9 := newsNe kN0 (hN'9 _ (.tail _ (.head _))).2); clear kF0 kN0 hE'9 hN'9; (try simp only [List.cons_append, List.nil_append] at N'9); (try k_sweep))) | ((with_reducible show wpAny _ _ (call (.ref 136) _ _) _ _ _); (k_dflt (refine' mkItem_spec (by k_in) (by wtm_at "T") (by first | exact rm1 hdp rfl rfl | wtm_at "D") (by first | exact um1 hun rfl rfl | wtm_at "U") ?_; k_whole); intro it'9 di'9 kl'9 cl'9 es'9 n'9 h'9 tk'9 hE'9 hD'9 hN'9 hne'9; obtain ⟨hne1'9, hne2'9, hne3'9, hne4'9, hne5'9, hne6'9⟩ := hne'9; (rename Fr _ _ _ _ => kF0); (rename News _ _ _ _ => kN0); (have F'9 := Fr.keeps kF0 hE'9); (have N'9 := newsAddAll kF0 kN0 hE'9 hN'9); (have l0'9 := newsNe kN0 (hN'9 _ (.head _)).2); (have l1'9 := newsNe kN0 (hN'9 _ (.tail _ (.head _))).2); (have l2'9 := newsNe kN0 (hN'9 _ (.tail _ (.tail _ (.head _)))).2); (have l3'9 := newsNe kN0 (hN'9 _ (.tail _ (.tail _ (.tail _ (.head _))))).2); clear kF0 kN0 hE'9 hN'9; (try simp only [List.cons_append, List.nil_append] at N'9); (try k_sweep))))) | ((fail_if_success fail_if_success with_reducible refine at_app ?_); (with_reducible refine hold ?_)) | ((fail_if_success fail_if_success with_reducible refine at_set ?_); (first | ((with_reducible show wpAny _ _ (setAttr _ (Str.ofString "indexes") _) _ _ _); k_dflt (refine' set_indexes ?F9 ?X9 ?N9 ?h19 ?h29 ?P9 ?U9 ?_; (case F9 => k_asm); (case X9 => k_asm); (case N9 => k_asm); (case h19 => k_mem); (case h29 => k_mem); (case P9 => assumption); (case U9 => (intro es9 n9; k_upd)); k_whole; intro es'9 n'9 h'9 tk'9 P'9 F'9 N'9; (try k_sweep))) | (k_dflt (first | (refine' set_shape ?F9 ?X9 ?N9 ?h19 ?h29 ?P9 ?U9 ?_; (case F9 => k_asm); (case X9 => k_asm); (case N9 => k_asm); (case h19 => k_mem); (case h29 => k_mem); (case P9 => assumption); (case U9 => (intro es9 n9; k_upd)); k_whole; intro es'9 n'9 h'9 tk'9 P'9 F'9 N'9; (try k_sweep)) | (refine' set_occurs ?F9 ?X9 ?N9 ?h19 ?h29 ?P9 ?U9 ?_; (case F9 => k_asm); (case X9 => k_asm); (case N9 => k_asm); (case h19 => k_mem); (case h29 => k_mem); (case P9 => assumption); (case U9 => (intro es9 n9; k_upd)); k_whole; intro es'9 n'9 h'9 tk'9 P'9 F'9 N'9; (try k_sweep)) | (refine' set_parent ?F9 ?X9 ?N9 ?h19 ?h29 ?P9 ?U9 ?_; (case F9 => k_asm); (case X9 => k_asm); (case N9 => k_asm); (case h19 => k_mem); (case h29 => k_mem); (case P9 => assumption); (case U9 => (intro es9 n9; k_upd)); k_whole; intro es'9 n'9 h'9 tk'9 P'9 F'9 N'9; (try k_sweep)))))) | ((fail_if_success fail_if_success with_reducible refine at_iter ?_); (with_reducible refine hold ?_)) | ((fail_if_success fail_if_success with_reducible refine at_for ?_); (with_reducible refine hold ?_)) | ((fail_if_success fail_if_success with_reducible refine at_get ?_); (k_dflt (refine' get_own ?k19 ?k29 ?k39 ?k49 ?k59 ?k69 ?k79 ?k89 ?k99 ?_; (case k19 => k_asm); (case k29 => k_asm); (case k39 => exact InstAt.of_news (by k_asm) (by k_mem) (by k_mem)); (case k49 => k_is); (case k59 => k_is); (case k69 => k_is); (case k79 => k_is); (case k89 => assumption); (case k99 => k_handed); k_whole))) | ((fail_if_success fail_if_success with_reducible refine at_name ?_); (k_dflt (refine' ld ?k19 ?k29 ?_; (case k19 => k_asm); (case k29 => first | assumption | ((repeat rw [if_neg (by decide)]); assumption)); k_whole))) | wtm_at "s2"))
    unfold Hold
    rename Fr _ _ _ _ => F5
    rename News _ _ _ _ => N5
    refine leafA3 (ms := [(wl, listOf #[Value.ref R] 1), (dd, dictOf esd nd)]) F5 N5 ap1 (km2 k1 k2) (by assumption) (by assumption) (by first | omega | (simp only [depth_deeper]; omega)) (by first | omega | (simp only [units_deeper]; omega)) MR (by rw [List.length_map]; omega) (by decide) (by decide) (by decide) ?_
    clear F5 N5
    intro T kiT knR sn2 h2 tk2 F6 N6 s2 ap2 km2 ⟨oT, MT⟩ mR
    simp only [List.cons_append, List.nil_append] at N6
    (repeat' (first | wtm_at "s1" | ((fail_if_success fail_if_success with_reducible refine at_call ?_); (first | (with_reducible refine hold_at 380 ?_) | ((with_reducible show wpAny _ _ (call (.ref 353) _ _) _ _ _); (k_dflt (refine' mkShape_spec (by k_in) (by wtm_at "T") (by first | exact rm1 hdp rfl rfl | wtm_at "D") (by first | exact um1 hun rfl rfl | wtm_at "U") ?_; k_whole); intro sh'9 ds'9 es'9 n'9 h'9 tk'9 hE'9 hD'9 hN'9 hne1'9; (rename Fr _ _ _ _ => kF0); (rename News _ _ _ _ => kN0); (have F'9 := Fr.keeps kF0 hE'9); (have N'9 := newsAddAll kF0 kN0 hE'9 hN'9); (have l0'9 := newsNe kN0 (hN'9 _ (.head _)).2); (have l1'9 := newsNe kN0 (hN'9 _ (.tail _ (.head _))).2); clear kF0 kN0 hE'9 hN'9; (try simp only [List.cons_append, List.nil_append] at N'9); (try k_sweep))) | ((with_reducible show wpAny _ _ (call (.ref 136) _ _) _ _ _); (k_dflt (refine' mkItem_spec (by k_in) (by wtm_at "T") (by first | exact rm1 hdp rfl rfl | wtm_at "D") (by first | exact um1 hun rfl rfl | wtm_at "U") ?_; k_whole); intro it'9 di'9 kl'9 cl'9 es'9 n'9 h'9 tk'9 hE'9 hD'9 hN'9 hne'9; obtain ⟨hne1'9, hne2'9, hne3'9, hne4'9, hne5'9, hne6'9⟩ := hne'9; (rename Fr _ _ _ _ => kF0); (rename News _ _ _ _ => kN0); (have F'9 := Fr.keeps kF0 hE'9); (have N'9 := newsAddAll kF0 kN0 hE'9 hN'9); (have l0'9 := newsNe kN0 (hN'9 _ (.head _)).2); (have l1'9 := newsNe kN0 (hN'9 _ (.tail _ (.head _))).2); (have l2'9 := newsNe kN0 (hN'9 _ (.tail _ (.tail _ (.head _)))).2); (have l3'9 := newsNe kN0 (hN'9 _ (.tail _ (.tail _ (.tail _ (.head _))))).2); clear kF0 kN0 hE'9 hN'9; (try simp only [List.cons_append, List.nil_append] at N'9); (try k_sweep))))) | ((fail_if_success fail_if_success with_reducible refine at_app ?_); (with_reducible refine hold ?_)) | ((fail_if_success fail_if_success with_reducible refine at_set ?_); (first | ((with_reducible show wpAny _ _ (setAttr _ (Str.ofString "indexes") _) _ _ _); k_dflt (refine' set_indexes ?F9 ?X9 ?N9 ?h19 ?h29 ?P9 ?U9 ?_; (case F9 => k_asm); (case X9 => k_asm); (case N9 => k_asm); (case h19 => k_mem); (case h29 => k_mem); (case P9 => assumption); (case U9 => (intro es9 n9; k_upd)); k_whole; intro es'9 n'9 h'9 tk'9 P'9 F'9 N'9; (try k_sweep))) | (k_dflt (first | (refine' set_shape ?F9 ?X9 ?N9 ?h19 ?h29 ?P9 ?U9 ?_; (case F9 => k_asm); (case X9 => k_asm); (case N9 => k_asm); (case h19 => k_mem); (case h29 => k_mem); (case P9 => assumption); (case U9 => (intro es9 n9; k_upd)); k_whole; intro es'9 n'9 h'9 tk'9 P'9 F'9 N'9; (try k_sweep)) | (refine' set_occurs ?F9 ?X9 ?N9 ?h19 ?h29 ?P9 ?U9 ?_; (case F9 => k_asm); (case X9 => k_asm); (case N9 => k_asm); (case h19 => k_mem); (case h29 => k_mem); (case P9 => assumption); (case U9 => (intro es9 n9; k_upd)); k_whole; intro es'9 n'9 h'9 tk'9 P'9 F'9 N'9; (try k_sweep)) | (refine' set_parent ?F9 ?X9 ?N9 ?h19 ?h29 ?P9 ?U9 ?_; (case F9 => k_asm); (case X9 => k_asm); (case N9 => k_asm); (case h19 => k_mem); (case h29 => k_mem); (case P9 => assumption); (case U9 => (intro es9 n9; k_upd)); k_whole; intro es'9 n'9 h'9 tk'9 P'9 F'9 N'9; (try k_sweep)))))) | ((fail_if_success fail_if_success with_reducible refine at_iter ?_); (with_reducible refine hold ?_)) | ((fail_if_success fail_if_success with_reducible refine at_for ?_); (with_reducible refine hold ?_)) | ((fail_if_success fail_if_success with_reducible refine at_get ?_); (k_dflt (refine' get_own ?k19 ?k29 ?k39 ?k49 ?k59 ?k69 ?k79 ?k89 ?k99 ?_; (case k19 => k_asm); (case k29 => k_asm); (case k39 => exact InstAt.of_news (by k_asm) (by k_mem) (by k_mem)); (case k49 => k_is); (case k59 => k_is); (case k69 => k_is); (case k79 => k_is); (case k89 => assumption); (case k99 => k_handed); k_whole))) | ((fail_if_success fail_if_success with_reducible refine at_name ?_); (k_dflt (refine' ld ?k19 ?k29 ?_; (case k19 => k_asm); (case k29 => first | assumption | ((repeat rw [if_neg (by decide)]); assumption)); k_whole))) | wtm_at "s2"))
    unfold Hold
    rename Fr _ _ _ _ => F5
    rename News _ _ _ _ => N5
    refine leafB1 (ks := []) (ms := [(wl, listOf #[Value.ref R] 1), (dd, dictOf esd nd)]) F5 N5 ap2 km2 (by assumption) (by assumption) (by first | omega | (simp only [depth_deeper]; omega)) (by first | omega | (simp only [units_deeper]; omega)) MT (by decide) ?_
    clear F5 N5
    intro K kiK knT sn3 h3 tk3 F7 N7 s3 ap3 MK mK
    simp only [List.cons_append, List.nil_append] at N7
    (repeat' (first | wtm_at "s1" | ((fail_if_success fail_if_success with_reducible refine at_call ?_); (first | (with_reducible refine hold_at 380 ?_) | ((with_reducible show wpAny _ _ (call (.ref 353) _ _) _ _ _); (k_dflt (refine' mkShape_spec (by k_in) (by wtm_at "T") (by first | exact rm1 hdp rfl rfl | wtm_at "D") (by first | exact um1 hun rfl rfl | wtm_at "U") ?_; k_whole); intro sh'9 ds'9 es'9 n'9 h'9 tk'9 hE'9 hD'9 hN'9 hne1'9; (rename Fr _ _ _ _ => kF0); (rename News _ _ _ _ => kN0); (have F'9 := Fr.keeps kF0 hE'9); (have N'9 := newsAddAll kF0 kN0 hE'9 hN'9); (have l0'9 := newsNe kN0 (hN'9 _ (.head _)).2); (have l1'9 := newsNe kN0 (hN'9 _ (.tail _ (.head _))).2); clear kF0 kN0 hE'9 hN'9; (try simp only [List.cons_append, List.nil_append] at N'9); (try k_sweep))) | ((with_reducible show wpAny _ _ (call (.ref 136) _ _) _ _ _); (k_dflt (refine' mkItem_spec (by k_in) (by wtm_at "T") (by first | exact rm1 hdp rfl rfl | wtm_at "D") (by first | exact um1 hun rfl rfl | wtm_at "U") ?_; k_whole); intro it'9 di'9 kl'9 cl'9 es'9 n'9 h'9 tk'9 hE'9 hD'9 hN'9 hne'9; obtain ⟨hne1'9, hne2'9, hne3'9, hne4'9, hne5'9, hne6'9⟩ := hne'9; (rename Fr _ _ _ _ => kF0); (rename News _ _ _ _ => kN0); (have F'9 := Fr.keeps kF0 hE'9); (have N'9 := newsAddAll kF0 kN0 hE'9 hN'9); (have l0'9 := newsNe kN0 (hN'9 _ (.head _)).2); (have l1'9 := newsNe kN0 (hN'9 _ (.tail _ (.head _))).2); (have l2'9 := newsNe kN0 (hN'9 _ (.tail _ (.tail _ (.head _)))).2); (have l3'9 := newsNe kN0 (hN'9 _ (.tail _ (.tail _ (.tail _ (.head _))))).2); clear kF0 kN0 hE'9 hN'9; (try simp only [List.cons_append, List.nil_append] at N'9); (try k_sweep))))) | ((fail_if_success fail_if_success with_reducible refine at_app ?_); (with_reducible refine hold ?_)) | ((fail_if_success fail_if_success with_reducible refine at_set ?_); (first | ((with_reducible show wpAny _ _ (setAttr _ (Str.ofString "indexes") _) _ _ _); k_dflt (refine' set_indexes ?F9 ?X9 ?N9 ?h19 ?h29 ?P9 ?U9 ?_; (case F9 => k_asm); (case X9 => k_asm); (case N9 => k_asm); (case h19 => k_mem); (case h29 => k_mem); (case P9 => assumption); (case U9 => (intro es9 n9; k_upd)); k_whole; intro es'9 n'9 h'9 tk'9 P'9 F'9 N'9; (try k_sweep))) | (k_dflt (first | (refine' set_shape ?F9 ?X9 ?N9 ?h19 ?h29 ?P9 ?U9 ?_; (case F9 => k_asm); (case X9 => k_asm); (case N9 => k_asm); (case h19 => k_mem); (case h29 => k_mem); (case P9 => assumption); (case U9 => (intro es9 n9; k_upd)); k_whole; intro es'9 n'9 h'9 tk'9 P'9 F'9 N'9; (try k_sweep)) | (refine' set_occurs ?F9 ?X9 ?N9 ?h19 ?h29 ?P9 ?U9 ?_; (case F9 => k_asm); (case X9 => k_asm); (case N9 => k_asm); (case h19 => k_mem); (case h29 => k_mem); (case P9 => assumption); (case U9 => (intro es9 n9; k_upd)); k_whole; intro es'9 n'9 h'9 tk'9 P'9 F'9 N'9; (try k_sweep)) | (refine' set_parent ?F9 ?X9 ?N9 ?h19 ?h29 ?P9 ?U9 ?_; (case F9 => k_asm); (case X9 => k_asm); (case N9 => k_asm); (case h19 => k_mem); (case h29 => k_mem); (case P9 => assumption); (case U9 => (intro es9 n9; k_upd)); k_whole; intro es'9 n'9 h'9 tk'9 P'9 F'9 N'9; (try k_sweep)))))) | ((fail_if_success fail_if_success with_reducible refine at_iter ?_); (with_reducible refine hold ?_)) | ((fail_if_success fail_if_success with_reducible refine at_for ?_); (with_reducible refine hold ?_)) | ((fail_if_success fail_if_success with_reducible refine at_get ?_); (k_dflt (refine' get_own ?k19 ?k29 ?k39 ?k49 ?k59 ?k69 ?k79 ?k89 ?k99 ?_; (case k19 => k_asm); (case k29 => k_asm); (case k39 => exact InstAt.of_news (by k_asm) (by k_mem) (by k_mem)); (case k49 => k_is); (case k59 => k_is); (case k69 => k_is); (case k79 => k_is); (case k89 => assumption); (case k99 => k_handed); k_whole))) | ((fail_if_success fail_if_success with_reducible refine at_name ?_); (k_dflt (refine' ld ?k19 ?k29 ?_; (case k19 => k_asm); (case k29 => first | assumption | ((repeat rw [if_neg (by decide)]); assumption)); k_whole))) | wtm_at "s2"))
    unfold Hold
    rename Fr _ _ _ _ => F5
    rename News _ _ _ _ => N5
    refine leafA3 (ks := [Value.ref K]) (ms := [(wl, listOf #[Value.ref R] 1), (dd, dictOf esd nd)]) F5 N5 ap3 km2 (by assumption) (by assumption) (by first | omega | (simp only [depth_deeper]; omega)) (by first | omega | (simp only [units_deeper]; omega)) (MT.mono fun a o z => s3 _ z) (Nat.le_of_ble_eq_true rfl) (by decide) (by decide) (by decide) ?_
    clear F5 N5
    intro U kiU knT2 sn4 h4 tk4 F8 N8 s4 ap4 km4 ⟨oU, MU⟩ mT
    simp only [List.cons_append, List.nil_append] at N8
    (repeat' (first | wtm_at "s1" | ((fail_if_success fail_if_success with_reducible refine at_call ?_); (first | (with_reducible refine hold_at 380 ?_) | ((with_reducible show wpAny _ _ (call (.ref 353) _ _) _ _ _); (k_dflt (refine' mkShape_spec (by k_in) (by wtm_at "T") (by first | exact rm1 hdp rfl rfl | wtm_at "D") (by first | exact um1 hun rfl rfl | wtm_at "U") ?_; k_whole); intro sh'9 ds'9 es'9 n'9 h'9 tk'9 hE'9 hD'9 hN'9 hne1'9; (rename Fr _ _ _ _ => kF0); (rename News _ _ _ _ => kN0); (have F'9 := Fr.keeps kF0 hE'9); (have N'9 := newsAddAll kF0 kN0 hE'9 hN'9); (have l0'9 := newsNe kN0 (hN'9 _ (.head _)).2); (have l1'9 := newsNe kN0 (hN'9 _ (.tail _ (.head _))).2); clear kF0 kN0 hE'9 hN'9; (try simp only [List.cons_append, List.nil_append] at N'9); (try k_sweep))) | ((with_reducible show wpAny _ _ (call (.ref 136) _ _) _ _ _); (k_dflt (refine' mkItem_spec (by k_in) (by wtm_at "T") (by first | exact rm1 hdp rfl rfl | wtm_at "D") (by first | exact um1 hun rfl rfl | wtm_at "U") ?_; k_whole); intro it'9 di'9 kl'9 cl'9 es'9 n'9 h'9 tk'9 hE'9 hD'9 hN'9 hne'9; obtain ⟨hne1'9, hne2'9, hne3'9, hne4'9, hne5'9, hne6'9⟩ := hne'9; (rename Fr _ _ _ _ => kF0); (rename News _ _ _ _ => kN0); (have F'9 := Fr.keeps kF0 hE'9); (have N'9 := newsAddAll kF0 kN0 hE'9 hN'9); (have l0'9 := newsNe kN0 (hN'9 _ (.head _)).2); (have l1'9 := newsNe kN0 (hN'9 _ (.tail _ (.head _))).2); (have l2'9 := newsNe kN0 (hN'9 _ (.tail _ (.tail _ (.head _)))).2); (have l3'9 := newsNe kN0 (hN'9 _ (.tail _ (.tail _ (.tail _ (.head _))))).2); clear kF0 kN0 hE'9 hN'9; (try simp only [List.cons_append, List.nil_append] at N'9); (try k_sweep))))) | ((fail_if_success fail_if_success with_reducible refine at_app ?_); (with_reducible refine hold ?_)) | ((fail_if_success fail_if_success with_reducible refine at_set ?_); (first | ((with_reducible show wpAny _ _ (setAttr _ (Str.ofString "indexes") _) _ _ _); k_dflt (refine' set_indexes ?F9 ?X9 ?N9 ?h19 ?h29 ?P9 ?U9 ?_; (case F9 => k_asm); (case X9 => k_asm); (case N9 => k_asm); (case h19 => k_mem); (case h29 => k_mem); (case P9 => assumption); (case U9 => (intro es9 n9; k_upd)); k_whole; intro es'9 n'9 h'9 tk'9 P'9 F'9 N'9; (try k_sweep))) | (k_dflt (first | (refine' set_shape ?F9 ?X9 ?N9 ?h19 ?h29 ?P9 ?U9 ?_; (case F9 => k_asm); (case X9 => k_asm); (case N9 => k_asm); (case h19 => k_mem); (case h29 => k_mem); (case P9 => assumption); (case U9 => (intro es9 n9; k_upd)); k_whole; intro es'9 n'9 h'9 tk'9 P'9 F'9 N'9; (try k_sweep)) | (refine' set_occurs ?F9 ?X9 ?N9 ?h19 ?h29 ?P9 ?U9 ?_; (case F9 => k_asm); (case X9 => k_asm); (case N9 => k_asm); (case h19 => k_mem); (case h29 => k_mem); (case P9 => assumption); (case U9 => (intro es9 n9; k_upd)); k_whole; intro es'9 n'9 h'9 tk'9 P'9 F'9 N'9; (try k_sweep)) | (refine' set_parent ?F9 ?X9 ?N9 ?h19 ?h29 ?P9 ?U9 ?_; (case F9 => k_asm); (case X9 => k_asm); (case N9 => k_asm); (case h19 => k_mem); (case h29 => k_mem); (case P9 => assumption); (case U9 => (intro es9 n9; k_upd)); k_whole; intro es'9 n'9 h'9 tk'9 P'9 F'9 N'9; (try k_sweep)))))) | ((fail_if_success fail_if_success with_reducible refine at_iter ?_); (with_reducible refine hold ?_)) | ((fail_if_success fail_if_success with_reducible refine at_for ?_); (with_reducible refine hold ?_)) | ((fail_if_success fail_if_success with_reducible refine at_get ?_); (k_dflt (refine' get_own ?k19 ?k29 ?k39 ?k49 ?k59 ?k69 ?k79 ?k89 ?k99 ?_; (case k19 => k_asm); (case k29 => k_asm); (case k39 => exact InstAt.of_news (by k_asm) (by k_mem) (by k_mem)); (case k49 => k_is); (case k59 => k_is); (case k69 => k_is); (case k79 => k_is); (case k89 => assumption); (case k99 => k_handed); k_whole))) | ((fail_if_success fail_if_success with_reducible refine at_name ?_); (k_dflt (refine' ld ?k19 ?k29 ?_; (case k19 => k_asm); (case k29 => first | assumption | ((repeat rw [if_neg (by decide)]); assumption)); k_whole))) | wtm_at "s2"))
    unfold Hold
    rename Fr _ _ _ _ => F5
    rename News _ _ _ _ => N5
    refine leafD1 (ks := []) (ms := [(wl, listOf #[Value.ref R] 1), (dd, dictOf esd nd)]) F5 N5 ap4 km4 (by assumption) (by assumption) (by first | omega | (simp only [depth_deeper]; omega)) (by first | omega | (simp only [units_deeper]; omega)) MU (by decide) ?_
    clear F5 N5
    intro V kiV knU sn5 h5 tk5 F9 N9 s5 ap5 MV mU mV
    simp only [List.cons_append, List.nil_append] at N9
    have kwl : ∀ p ∈ sn5, p.1 ≠ wl := fun p hp => ap5 p hp _ (.head _)
    have kdd : ∀ p ∈ sn5, p.1 ≠ dd := fun p hp => ap5 p hp _ (.tail _ (.head _))
    have md5 := s5 _ (s4 _ (s3 _ (s2 _ md)))
    (repeat' (first | wtm_at "s1" | ((fail_if_success fail_if_success with_reducible refine at_call ?_); (first | (with_reducible refine hold_at 380 ?_) | ((with_reducible show wpAny _ _ (call (.ref 353) _ _) _ _ _); (k_dflt (refine' mkShape_spec (by k_in) (by wtm_at "T") (by first | exact rm1 hdp rfl rfl | wtm_at "D") (by first | exact um1 hun rfl rfl | wtm_at "U") ?_; k_whole); intro sh'9 ds'9 es'9 n'9 h'9 tk'9 hE'9 hD'9 hN'9 hne1'9; (rename Fr _ _ _ _ => kF0); (rename News _ _ _ _ => kN0); (have F'9 := Fr.keeps kF0 hE'9); (have N'9 := newsAddAll kF0 kN0 hE'9 hN'9); (have l0'9 := newsNe kN0 (hN'9 _ (.head _)).2); (have l1'9 := newsNe kN0 (hN'9 _ (.tail _ (.head _))).2); clear kF0 kN0 hE'9 hN'9; (try simp only [List.cons_append, List.nil_append] at N'9); (try k_sweep))) | ((with_reducible show wpAny _ _ (call (.ref 136) _ _) _ _ _); (k_dflt (refine' mkItem_spec (by k_in) (by wtm_at "T") (by first | exact rm1 hdp rfl rfl | wtm_at "D") (by first | exact um1 hun rfl rfl | wtm_at "U") ?_; k_whole); intro it'9 di'9 kl'9 cl'9 es'9 n'9 h'9 tk'9 hE'9 hD'9 hN'9 hne'9; obtain ⟨hne1'9, hne2'9, hne3'9, hne4'9, hne5'9, hne6'9⟩ := hne'9; (rename Fr _ _ _ _ => kF0); (rename News _ _ _ _ => kN0); (have F'9 := Fr.keeps kF0 hE'9); (have N'9 := newsAddAll kF0 kN0 hE'9 hN'9); (have l0'9 := newsNe kN0 (hN'9 _ (.head _)).2); (have l1'9 := newsNe kN0 (hN'9 _ (.tail _ (.head _))).2); (have l2'9 := newsNe kN0 (hN'9 _ (.tail _ (.tail _ (.head _)))).2); (have l3'9 := newsNe kN0 (hN'9 _ (.tail _ (.tail _ (.tail _ (.head _))))).2); clear kF0 kN0 hE'9 hN'9; (try simp only [List.cons_append, List.nil_append] at N'9); (try k_sweep))))) | ((fail_if_success fail_if_success with_reducible refine at_app ?_); (with_reducible refine hold ?_)) | ((fail_if_success fail_if_success with_reducible refine at_set ?_); (first | ((with_reducible show wpAny _ _ (setAttr _ (Str.ofString "indexes") _) _ _ _); k_dflt (refine' set_indexes ?F9 ?X9 ?N9 ?h19 ?h29 ?P9 ?U9 ?_; (case F9 => k_asm); (case X9 => k_asm); (case N9 => k_asm); (case h19 => k_mem); (case h29 => k_mem); (case P9 => assumption); (case U9 => (intro es9 n9; k_upd)); k_whole; intro es'9 n'9 h'9 tk'9 P'9 F'9 N'9; (try k_sweep))) | (k_dflt (first | (refine' set_shape ?F9 ?X9 ?N9 ?h19 ?h29 ?P9 ?U9 ?_; (case F9 => k_asm); (case X9 => k_asm); (case N9 => k_asm); (case h19 => k_mem); (case h29 => k_mem); (case P9 => assumption); (case U9 => (intro es9 n9; k_upd)); k_whole; intro es'9 n'9 h'9 tk'9 P'9 F'9 N'9; (try k_sweep)) | (refine' set_occurs ?F9 ?X9 ?N9 ?h19 ?h29 ?P9 ?U9 ?_; (case F9 => k_asm); (case X9 => k_asm); (case N9 => k_asm); (case h19 => k_mem); (case h29 => k_mem); (case P9 => assumption); (case U9 => (intro es9 n9; k_upd)); k_whole; intro es'9 n'9 h'9 tk'9 P'9 F'9 N'9; (try k_sweep)) | (refine' set_parent ?F9 ?X9 ?N9 ?h19 ?h29 ?P9 ?U9 ?_; (case F9 => k_asm); (case X9 => k_asm); (case N9 => k_asm); (case h19 => k_mem); (case h29 => k_mem); (case P9 => assumption); (case U9 => (intro es9 n9; k_upd)); k_whole; intro es'9 n'9 h'9 tk'9 P'9 F'9 N'9; (try k_sweep)))))) | ((fail_if_success fail_if_success with_reducible refine at_iter ?_); (with_reducible refine hold ?_)) | ((fail_if_success fail_if_success with_reducible refine at_for ?_); (with_reducible refine hold ?_)) | ((fail_if_success fail_if_success with_reducible refine at_get ?_); (k_dflt (refine' get_own ?k19 ?k29 ?k39 ?k49 ?k59 ?k69 ?k79 ?k89 ?k99 ?_; (case k19 => k_asm); (case k29 => k_asm); (case k39 => exact InstAt.of_news (by k_asm) (by k_mem) (by k_mem)); (case k49 => k_is); (case k59 => k_is); (case k69 => k_is); (case k79 => k_is); (case k89 => assumption); (case k99 => k_handed); k_whole))) | ((fail_if_success fail_if_success with_reducible refine at_name ?_); (k_dflt (refine' ld ?k19 ?k29 ?_; (case k19 => k_asm); (case k29 => first | assumption | ((repeat rw [if_neg (by decide)]); assumption)); k_whole))) | wtm_at "s2"))
    unfold Hold
    rename Fr _ _ _ _ => F5
    rename News _ _ _ _ => N5
    rename DatD _ _ _ _ _ _ => Dd2
    rename Obj.IsDictOf _ _ (strPairs _) => xd1
    have xd2 : (h5.objs.size == sysModules) = false := by assumption
    with_reducible refine for_gen ?_
    intro tg it bd ht hi hb
    with_reducible refine' For_turns ?F ?h ?hs ?hE
    (case F => k_asm)
    (case hs => intro _; rw [hi]; rfl)
    (case hE => passes_own)
    subst hi
    (repeat' (first | wtm_at "s1" | ((fail_if_success fail_if_success with_reducible refine at_call ?_); (first | (with_reducible refine hold_at 380 ?_) | ((with_reducible show wpAny _ _ (call (.ref 353) _ _) _ _ _); (k_dflt (refine' mkShape_spec (by k_in) (by wtm_at "T") (by first | exact rm1 hdp rfl rfl | wtm_at "D") (by first | exact um1 hun rfl rfl | wtm_at "U") ?_; k_whole); intro sh'9 ds'9 es'9 n'9 h'9 tk'9 hE'9 hD'9 hN'9 hne1'9; (rename Fr _ _ _ _ => kF0); (rename News _ _ _ _ => kN0); (have F'9 := Fr.keeps kF0 hE'9); (have N'9 := newsAddAll kF0 kN0 hE'9 hN'9); (have l0'9 := newsNe kN0 (hN'9 _ (.head _)).2); (have l1'9 := newsNe kN0 (hN'9 _ (.tail _ (.head _))).2); clear kF0 kN0 hE'9 hN'9; (try simp only [List.cons_append, List.nil_append] at N'9); (try k_sweep))) | ((with_reducible show wpAny _ _ (call (.ref 136) _ _) _ _ _); (k_dflt (refine' mkItem_spec (by k_in) (by wtm_at "T") (by first | exact rm1 hdp rfl rfl | wtm_at "D") (by first | exact um1 hun rfl rfl | wtm_at "U") ?_; k_whole); intro it'9 di'9 kl'9 cl'9 es'9 n'9 h'9 tk'9 hE'9 hD'9 hN'9 hne'9; obtain ⟨hne1'9, hne2'9, hne3'9, hne4'9, hne5'9, hne6'9⟩ := hne'9; (rename Fr _ _ _ _ => kF0); (rename News _ _ _ _ => kN0); (have F'9 := Fr.keeps kF0 hE'9); (have N'9 := newsAddAll kF0 kN0 hE'9 hN'9); (have l0'9 := newsNe kN0 (hN'9 _ (.head _)).2); (have l1'9 := newsNe kN0 (hN'9 _ (.tail _ (.head _))).2); (have l2'9 := newsNe kN0 (hN'9 _ (.tail _ (.tail _ (.head _)))).2); (have l3'9 := newsNe kN0 (hN'9 _ (.tail _ (.tail _ (.tail _ (.head _))))).2); clear kF0 kN0 hE'9 hN'9; (try simp only [List.cons_append, List.nil_append] at N'9); (try k_sweep))))) | ((fail_if_success fail_if_success with_reducible refine at_app ?_); (with_reducible refine hold ?_)) | ((fail_if_success fail_if_success with_reducible refine at_set ?_); (first | ((with_reducible show wpAny _ _ (setAttr _ (Str.ofString "indexes") _) _ _ _); k_dflt (refine' set_indexes ?F9 ?X9 ?N9 ?h19 ?h29 ?P9 ?U9 ?_; (case F9 => k_asm); (case X9 => k_asm); (case N9 => k_asm); (case h19 => k_mem); (case h29 => k_mem); (case P9 => assumption); (case U9 => (intro es9 n9; k_upd)); k_whole; intro es'9 n'9 h'9 tk'9 P'9 F'9 N'9; (try k_sweep))) | (k_dflt (first | (refine' set_shape ?F9 ?X9 ?N9 ?h19 ?h29 ?P9 ?U9 ?_; (case F9 => k_asm); (case X9 => k_asm); (case N9 => k_asm); (case h19 => k_mem); (case h29 => k_mem); (case P9 => assumption); (case U9 => (intro es9 n9; k_upd)); k_whole; intro es'9 n'9 h'9 tk'9 P'9 F'9 N'9; (try k_sweep)) | (refine' set_occurs ?F9 ?X9 ?N9 ?h19 ?h29 ?P9 ?U9 ?_; (case F9 => k_asm); (case X9 => k_asm); (case N9 => k_asm); (case h19 => k_mem); (case h29 => k_mem); (case P9 => assumption); (case U9 => (intro es9 n9; k_upd)); k_whole; intro es'9 n'9 h'9 tk'9 P'9 F'9 N'9; (try k_sweep)) | (refine' set_parent ?F9 ?X9 ?N9 ?h19 ?h29 ?P9 ?U9 ?_; (case F9 => k_asm); (case X9 => k_asm); (case N9 => k_asm); (case h19 => k_mem); (case h29 => k_mem); (case P9 => assumption); (case U9 => (intro es9 n9; k_upd)); k_whole; intro es'9 n'9 h'9 tk'9 P'9 F'9 N'9; (try k_sweep)))))) | ((fail_if_success fail_if_success with_reducible refine at_iter ?_); (with_reducible refine hold ?_)) | ((fail_if_success fail_if_success with_reducible refine at_for ?_); (with_reducible refine hold ?_)) | ((fail_if_success fail_if_success with_reducible refine at_get ?_); (k_dflt (refine' get_own ?k19 ?k29 ?k39 ?k49 ?k59 ?k69 ?k79 ?k89 ?k99 ?_; (case k19 => k_asm); (case k29 => k_asm); (case k39 => exact InstAt.of_news (by k_asm) (by k_mem) (by k_mem)); (case k49 => k_is); (case k59 => k_is); (case k69 => k_is); (case k79 => k_is); (case k89 => assumption); (case k99 => k_handed); k_whole))) | ((fail_if_success fail_if_success with_reducible refine at_name ?_); (k_dflt (refine' ld ?k19 ?k29 ?_; (case k19 => k_asm); (case k29 => first | assumption | ((repeat rw [if_neg (by decide)]); assumption)); k_whole))) | wtm_at "s2"))
    unfold Hold
    rename IsRange _ _ _ _ _ _ _ _ => hr
    rename Fr _ _ _ _ => F5
    rename News _ _ _ _ => N5
    have hw : wl ≠ h5.objs.size := by k_ne
    obtain ⟨esf, nf, ox, Dd, xd3, N1⟩ : ∃ es n o, DatD w es wl fd ll (.ref h5.objs.size) ∧ Obj.IsDictOf (PySem.strKind PySem.Challenge.rw_og0093_01.row.prog w) o [(Str.ofString "T-I", Value.ref T), (Str.ofString "U-I", Value.ref U)] ∧ News _ _ _ ((wl, listOf #[Value.ref R] 1) :: (h5.objs.size, o) :: (dd, dictOf es n) :: sn5) := ⟨_, _, _, Dd2, xd1, newsDrop N5 fun p hp => by
      rcases List.mem_cons.mp hp with rfl | hp
      · exact .tail _ (.head _)
      rcases List.mem_cons.mp hp with rfl | hp
      · exact .head _
      · exact .tail _ (.tail _ hp)⟩
    obtain ⟨sn6, hsn6⟩ : ∃ sn6, sn6 = (h5.objs.size, ox) :: (dd, dictOf esf nf) :: sn5 := ⟨_, rfl⟩
    rw [← hsn6] at N1
    have kw6 : ∀ p ∈ sn6, p.1 ≠ wl := fun p hp => by
      rw [hsn6] at hp
      rcases List.mem_cons.mp hp with rfl | hp
      · exact Ne.symm hw
      rcases List.mem_cons.mp hp with rfl | hp
      · exact Ne.symm k3
      · exact kwl p hp
    have s6 : ∀ p ∈ sn5, p ∈ sn6 := fun p hp => by rw [hsn6]; exact .tail _ (.tail _ hp)
    have md6 := s6 _ md5
    have mdd : (dd, dictOf esf nf) ∈ sn6 := by rw [hsn6]; exact .tail _ (.head _)
    have mx : (h5.objs.size, ox) ∈ sn6 := by rw [hsn6]; exact .head _
    clear N5 Dd2 xd1
    refine turnsRange rfl F5 N1 hr (by decide) (by decide) (JQ d R wl sn6) ⟨(if_neg (by decide)).trans ((if_neg (by decide)).trans hm1), [], 1, sn6, rfl, fun p hp => hp, kw6, rfl, fun j q hq => absurd hq (by simp)⟩ ?step ?fin
    (case step =>
      intro i tki m₁ nw h₁ tk₁ I oI hi hJ ho F1 N2
      clear F5 N1
      obtain ⟨hq1, qs, knw, sn7, rfl, s7, kw7, hlen, hqs⟩ := hJ
      have hI7 : ∀ p ∈ sn7, p.1 ≠ I := fun p hp => ho p (.tail _ hp)
      have hIw : wl ≠ I := ho _ (.head _)
      have md7 := s7 _ md6
      have mdd7 := s7 _ mdd
      have hi2 : i = 0 ∨ i = 1 := by
        have : i < 2 := hi
        omega
      subst ht hb
      obtain ⟨d1, d2, d3, d4, d5⟩ := id Dd
      all_goals
        (show wpAny _ _ _ _ _ _); k_fold
        (repeat' (first | wtm_at "s1" | ((fail_if_success fail_if_success with_reducible refine at_call ?_); (first | (with_reducible refine hold_at 380 ?_) | ((with_reducible show wpAny _ _ (call (.ref 353) _ _) _ _ _); (k_dflt (refine' mkShape_spec (by k_in) (by wtm_at "T") (by first | exact rm1 hdp rfl rfl | wtm_at "D") (by first | exact um1 hun rfl rfl | wtm_at "U") ?_; k_whole); intro sh'9 ds'9 es'9 n'9 h'9 tk'9 hE'9 hD'9 hN'9 hne1'9; (rename Fr _ _ _ _ => kF0); (rename News _ _ _ _ => kN0); (have F'9 := Fr.keeps kF0 hE'9); (have N'9 := newsAddAll kF0 kN0 hE'9 hN'9); (have l0'9 := newsNe kN0 (hN'9 _ (.head _)).2); (have l1'9 := newsNe kN0 (hN'9 _ (.tail _ (.head _))).2); clear kF0 kN0 hE'9 hN'9; (try simp only [List.cons_append, List.nil_append] at N'9); (try k_sweep))) | ((with_reducible show wpAny _ _ (call (.ref 136) _ _) _ _ _); (k_dflt (refine' mkItem_spec (by k_in) (by wtm_at "T") (by first | exact rm1 hdp rfl rfl | wtm_at "D") (by first | exact um1 hun rfl rfl | wtm_at "U") ?_; k_whole); intro IQ di'9 klQ cl'9 es'9 n'9 h'9 tk'9 hE'9 hD'9 hN'9 hne'9; obtain ⟨hne1'9, hne2'9, hne3'9, hne4'9, hne5'9, hne6'9⟩ := hne'9; (rename Fr _ _ _ _ => kF0); (rename News _ _ _ _ => kN0); (have F'9 := Fr.keeps kF0 hE'9); (have N'9 := newsAddAll kF0 kN0 hE'9 hN'9); (have l0'9 := newsNe kN0 (hN'9 _ (.head _)).2); (have l1'9 := newsNe kN0 (hN'9 _ (.tail _ (.head _))).2); (have l2'9 := newsNe kN0 (hN'9 _ (.tail _ (.tail _ (.head _)))).2); (have l3'9 := newsNe kN0 (hN'9 _ (.tail _ (.tail _ (.tail _ (.head _))))).2); clear kF0 kN0 hE'9 hN'9; (try simp only [List.cons_append, List.nil_append] at N'9); (try k_sweep))))) | ((fail_if_success fail_if_success with_reducible refine at_app ?_); (with_reducible refine hold ?_)) | ((fail_if_success fail_if_success with_reducible refine at_set ?_); (first | ((with_reducible show wpAny _ _ (setAttr _ (Str.ofString "indexes") _) _ _ _); k_dflt (refine' set_indexes ?F9 ?X9 ?N9 ?h19 ?h29 ?P9 ?U9 ?_; (case F9 => k_asm); (case X9 => k_asm); (case N9 => k_asm); (case h19 => k_mem); (case h29 => k_mem); (case P9 => assumption); (case U9 => (intro es9 n9; k_upd)); k_whole; intro es'9 n'9 h'9 tk'9 P'9 F'9 N'9; (try k_sweep))) | (k_dflt (first | (refine' set_shape ?F9 ?X9 ?N9 ?h19 ?h29 ?P9 ?U9 ?_; (case F9 => k_asm); (case X9 => k_asm); (case N9 => k_asm); (case h19 => k_mem); (case h29 => k_mem); (case P9 => assumption); (case U9 => (intro es9 n9; k_upd)); k_whole; intro es'9 n'9 h'9 tk'9 P'9 F'9 N'9; (try k_sweep)) | (refine' set_occurs ?F9 ?X9 ?N9 ?h19 ?h29 ?P9 ?U9 ?_; (case F9 => k_asm); (case X9 => k_asm); (case N9 => k_asm); (case h19 => k_mem); (case h29 => k_mem); (case P9 => assumption); (case U9 => (intro es9 n9; k_upd)); k_whole; intro es'9 n'9 h'9 tk'9 P'9 F'9 N'9; (try k_sweep)) | (refine' set_parent ?F9 ?X9 ?N9 ?h19 ?h29 ?P9 ?U9 ?_; (case F9 => k_asm); (case X9 => k_asm); (case N9 => k_asm); (case h19 => k_mem); (case h29 => k_mem); (case P9 => assumption); (case U9 => (intro es9 n9; k_upd)); k_whole; intro es'9 n'9 h'9 tk'9 P'9 F'9 N'9; (try k_sweep)))))) | ((fail_if_success fail_if_success with_reducible refine at_iter ?_); (with_reducible refine hold ?_)) | ((fail_if_success fail_if_success with_reducible refine at_for ?_); (with_reducible refine hold ?_)) | ((fail_if_success fail_if_success with_reducible refine at_get ?_); (k_dflt (refine' get_own ?k19 ?k29 ?k39 ?k49 ?k59 ?k69 ?k79 ?k89 ?k99 ?_; (case k19 => k_asm); (case k29 => k_asm); (case k39 => exact InstAt.of_news (by k_asm) (by k_mem) (by k_mem)); (case k49 => k_is); (case k59 => k_is); (case k69 => k_is); (case k79 => k_is); (case k89 => assumption); (case k99 => k_handed); k_whole))) | ((fail_if_success fail_if_success with_reducible refine at_name ?_); (k_dflt (refine' ld ?k19 ?k29 ?_; (case k19 => k_asm); (case k29 => first | assumption | ((repeat rw [if_neg (by decide)]); assumption)); k_whole))) | wtm_at "s2"))
        unfold Hold
        rename Fr _ _ _ _ => F5
        rename News _ _ _ _ => N5
        have N6 := q_st N5
        obtain ⟨nmq, sn8, N7, MQ, ap8, s8, hkI, hkw, hnm⟩ : ∃ (nmq : Str) (sn8 : List (Addr × Obj)), News _ _ _ ((klQ, listOf #[] 0) :: ([(I, oI), (wl, listOf (Value.ref R :: qs.map fun q => Value.ref q.1).toArray knw)] ++ sn8)) ∧ ItM (fun a o => (a, o) ∈ sn8) IQ nmq .none .none (Str.ofString "group") klQ ∧ (∀ p ∈ sn8, p.1 ≠ klQ ∧ p.1 ≠ I ∧ p.1 ≠ wl) ∧ (∀ p ∈ sn7, p ∈ sn8) ∧ klQ ≠ I ∧ klQ ≠ wl ∧ qnames[qs.length]? = some nmq := by
          refine ⟨_, _, N6, ⟨_, _, _, _, _, _, _, by k_mem, by k_mem, by assumption, by k_mem, by k_mem, by assumption⟩, ?_, fun p hp => .tail _ (.tail _ (.tail _ (.tail _ (.tail _ hp)))), by k_ne, by k_ne, ?_⟩
          · simp only [List.forall_mem_cons]
            refine ⟨⟨by k_ne, by k_ne, by k_ne⟩, ⟨by k_ne, by k_ne, by k_ne⟩, ⟨by k_ne, by k_ne, by k_ne⟩, ⟨by k_ne, by k_ne, by k_ne⟩, ⟨by k_ne, by k_ne, by k_ne⟩, fun p hp => ⟨?_, hI7 p hp, kw7 p hp⟩⟩
            exact (show ∀ q : Addr × Obj, q ∈ ((I, oI) :: (wl, listOf (Value.ref R :: qs.map fun q => Value.ref q.1).toArray knw) :: sn7) → Prod.fst q ≠ klQ by assumption) p (.tail _ (.tail _ hp))
          · rw [hlen]
            rcases hi2 with rfl | rfl <;> exact congrArg some (by decide +kernel)
        clear N5 N6
        refine leafD1 (ks := []) (ms := [(I, oI), (wl, listOf (Value.ref R :: qs.map fun q => Value.ref q.1).toArray knw)]) F5 N7 (Mine.ap3 (a := (klQ, listOf #[] 0)) ap8) (Mine.km2 hkI hkw) (by assumption) (by assumption) (by first | omega | (simp only [depth_deeper]; omega)) (by first | omega | (simp only [units_deeper]; omega)) MQ (by decide) ?_
        clear F5 N7
        intro W kiW kn2 sn9 h2 tk2 F6 N8 s9 ap9 MW mQ mW
        simp only [List.cons_append, List.nil_append] at N8
        have hI9 : ∀ p ∈ sn9, p.1 ≠ I := fun p hp => ap9 p hp _ (.head _)
        have kw9 : ∀ p ∈ sn9, p.1 ≠ wl := fun p hp => ap9 p hp _ (.tail _ (.head _))
        have md9 := s9 _ (s8 _ md7)
        have mdd9 := s9 _ (s8 _ mdd7)
        (repeat' (first | wtm_at "s1" | ((fail_if_success fail_if_success with_reducible refine at_call ?_); (first | (with_reducible refine hold_at 380 ?_) | ((with_reducible show wpAny _ _ (call (.ref 353) _ _) _ _ _); (k_dflt (refine' mkShape_spec (by k_in) (by wtm_at "T") (by first | exact rm1 hdp rfl rfl | wtm_at "D") (by first | exact um1 hun rfl rfl | wtm_at "U") ?_; k_whole); intro sh'9 ds'9 es'9 n'9 h'9 tk'9 hE'9 hD'9 hN'9 hne1'9; (rename Fr _ _ _ _ => kF0); (rename News _ _ _ _ => kN0); (have F'9 := Fr.keeps kF0 hE'9); (have N'9 := newsAddAll kF0 kN0 hE'9 hN'9); (have l0'9 := newsNe kN0 (hN'9 _ (.head _)).2); (have l1'9 := newsNe kN0 (hN'9 _ (.tail _ (.head _))).2); clear kF0 kN0 hE'9 hN'9; (try simp only [List.cons_append, List.nil_append] at N'9); (try k_sweep))) | ((with_reducible show wpAny _ _ (call (.ref 136) _ _) _ _ _); (k_dflt (refine' mkItem_spec (by k_in) (by wtm_at "T") (by first | exact rm1 hdp rfl rfl | wtm_at "D") (by first | exact um1 hun rfl rfl | wtm_at "U") ?_; k_whole); intro it'9 di'9 kl'9 cl'9 es'9 n'9 h'9 tk'9 hE'9 hD'9 hN'9 hne'9; obtain ⟨hne1'9, hne2'9, hne3'9, hne4'9, hne5'9, hne6'9⟩ := hne'9; (rename Fr _ _ _ _ => kF0); (rename News _ _ _ _ => kN0); (have F'9 := Fr.keeps kF0 hE'9); (have N'9 := newsAddAll kF0 kN0 hE'9 hN'9); (have l0'9 := newsNe kN0 (hN'9 _ (.head _)).2); (have l1'9 := newsNe kN0 (hN'9 _ (.tail _ (.head _))).2); (have l2'9 := newsNe kN0 (hN'9 _ (.tail _ (.tail _ (.head _)))).2); (have l3'9 := newsNe kN0 (hN'9 _ (.tail _ (.tail _ (.tail _ (.head _))))).2); clear kF0 kN0 hE'9 hN'9; (try simp only [List.cons_append, List.nil_append] at N'9); (try k_sweep))))) | ((fail_if_success fail_if_success with_reducible refine at_app ?_); (with_reducible refine hold ?_)) | ((fail_if_success fail_if_success with_reducible refine at_set ?_); (first | ((with_reducible show wpAny _ _ (setAttr _ (Str.ofString "indexes") _) _ _ _); k_dflt (refine' set_indexes ?F9 ?X9 ?N9 ?h19 ?h29 ?P9 ?U9 ?_; (case F9 => k_asm); (case X9 => k_asm); (case N9 => k_asm); (case h19 => k_mem); (case h29 => k_mem); (case P9 => assumption); (case U9 => (intro es9 n9; k_upd)); k_whole; intro es'9 n'9 h'9 tk'9 P'9 F'9 N'9; (try k_sweep))) | (k_dflt (first | (refine' set_shape ?F9 ?X9 ?N9 ?h19 ?h29 ?P9 ?U9 ?_; (case F9 => k_asm); (case X9 => k_asm); (case N9 => k_asm); (case h19 => k_mem); (case h29 => k_mem); (case P9 => assumption); (case U9 => (intro es9 n9; k_upd)); k_whole; intro es'9 n'9 h'9 tk'9 P'9 F'9 N'9; (try k_sweep)) | (refine' set_occurs ?F9 ?X9 ?N9 ?h19 ?h29 ?P9 ?U9 ?_; (case F9 => k_asm); (case X9 => k_asm); (case N9 => k_asm); (case h19 => k_mem); (case h29 => k_mem); (case P9 => assumption); (case U9 => (intro es9 n9; k_upd)); k_whole; intro es'9 n'9 h'9 tk'9 P'9 F'9 N'9; (try k_sweep)) | (refine' set_parent ?F9 ?X9 ?N9 ?h19 ?h29 ?P9 ?U9 ?_; (case F9 => k_asm); (case X9 => k_asm); (case N9 => k_asm); (case h19 => k_mem); (case h29 => k_mem); (case P9 => assumption); (case U9 => (intro es9 n9; k_upd)); k_whole; intro es'9 n'9 h'9 tk'9 P'9 F'9 N'9; (try k_sweep)))))) | ((fail_if_success fail_if_success with_reducible refine at_iter ?_); (with_reducible refine hold ?_)) | ((fail_if_success fail_if_success with_reducible refine at_for ?_); (with_reducible refine hold ?_)) | ((fail_if_success fail_if_success with_reducible refine at_get ?_); (k_dflt (refine' get_own ?k19 ?k29 ?k39 ?k49 ?k59 ?k69 ?k79 ?k89 ?k99 ?_; (case k19 => k_asm); (case k29 => k_asm); (case k39 => exact InstAt.of_news (by k_asm) (by k_mem) (by k_mem)); (case k49 => k_is); (case k59 => k_is); (case k69 => k_is); (case k79 => k_is); (case k89 => assumption); (case k99 => k_handed); k_whole))) | ((fail_if_success fail_if_success with_reducible refine at_name ?_); (k_dflt (refine' ld ?k19 ?k29 ?_; (case k19 => k_asm); (case k29 => first | assumption | ((repeat rw [if_neg (by decide)]); assumption)); k_whole))) | wtm_at "s2"))
        unfold Hold
        rename Fr _ _ _ _ => F9
        rename News _ _ _ _ => N9
        refine' append_K F9 N9 (.tail (Ne.symm hIw) (.head kw9)) ?_ ?z
        (case z =>
          show _ ≤ 16777216
          rw [List.size_toArray, List.length_cons, List.length_map, hlen]; omega)
        k_whole
        clear F9 N9
        intro h3 F8 N10
        simp only [List.push_toArray] at N10
        (repeat' (first | wtm_at "s1" | ((fail_if_success fail_if_success with_reducible refine at_call ?_); (first | (with_reducible refine hold_at 380 ?_) | ((with_reducible show wpAny _ _ (call (.ref 353) _ _) _ _ _); (k_dflt (refine' mkShape_spec (by k_in) (by wtm_at "T") (by first | exact rm1 hdp rfl rfl | wtm_at "D") (by first | exact um1 hun rfl rfl | wtm_at "U") ?_; k_whole); intro sh'9 ds'9 es'9 n'9 h'9 tk'9 hE'9 hD'9 hN'9 hne1'9; (rename Fr _ _ _ _ => kF0); (rename News _ _ _ _ => kN0); (have F'9 := Fr.keeps kF0 hE'9); (have N'9 := newsAddAll kF0 kN0 hE'9 hN'9); (have l0'9 := newsNe kN0 (hN'9 _ (.head _)).2); (have l1'9 := newsNe kN0 (hN'9 _ (.tail _ (.head _))).2); clear kF0 kN0 hE'9 hN'9; (try simp only [List.cons_append, List.nil_append] at N'9); (try k_sweep))) | ((with_reducible show wpAny _ _ (call (.ref 136) _ _) _ _ _); (k_dflt (refine' mkItem_spec (by k_in) (by wtm_at "T") (by first | exact rm1 hdp rfl rfl | wtm_at "D") (by first | exact um1 hun rfl rfl | wtm_at "U") ?_; k_whole); intro it'9 di'9 kl'9 cl'9 es'9 n'9 h'9 tk'9 hE'9 hD'9 hN'9 hne'9; obtain ⟨hne1'9, hne2'9, hne3'9, hne4'9, hne5'9, hne6'9⟩ := hne'9; (rename Fr _ _ _ _ => kF0); (rename News _ _ _ _ => kN0); (have F'9 := Fr.keeps kF0 hE'9); (have N'9 := newsAddAll kF0 kN0 hE'9 hN'9); (have l0'9 := newsNe kN0 (hN'9 _ (.head _)).2); (have l1'9 := newsNe kN0 (hN'9 _ (.tail _ (.head _))).2); (have l2'9 := newsNe kN0 (hN'9 _ (.tail _ (.tail _ (.head _)))).2); (have l3'9 := newsNe kN0 (hN'9 _ (.tail _ (.tail _ (.tail _ (.head _))))).2); clear kF0 kN0 hE'9 hN'9; (try simp only [List.cons_append, List.nil_append] at N'9); (try k_sweep))))) | ((fail_if_success fail_if_success with_reducible refine at_app ?_); (with_reducible refine hold ?_)) | ((fail_if_success fail_if_success with_reducible refine at_set ?_); (first | ((with_reducible show wpAny _ _ (setAttr _ (Str.ofString "indexes") _) _ _ _); k_dflt (refine' set_indexes ?F9 ?X9 ?N9 ?h19 ?h29 ?P9 ?U9 ?_; (case F9 => k_asm); (case X9 => k_asm); (case N9 => k_asm); (case h19 => k_mem); (case h29 => k_mem); (case P9 => assumption); (case U9 => (intro es9 n9; k_upd)); k_whole; intro es'9 n'9 h'9 tk'9 P'9 F'9 N'9; (try k_sweep))) | (k_dflt (first | (refine' set_shape ?F9 ?X9 ?N9 ?h19 ?h29 ?P9 ?U9 ?_; (case F9 => k_asm); (case X9 => k_asm); (case N9 => k_asm); (case h19 => k_mem); (case h29 => k_mem); (case P9 => assumption); (case U9 => (intro es9 n9; k_upd)); k_whole; intro es'9 n'9 h'9 tk'9 P'9 F'9 N'9; (try k_sweep)) | (refine' set_occurs ?F9 ?X9 ?N9 ?h19 ?h29 ?P9 ?U9 ?_; (case F9 => k_asm); (case X9 => k_asm); (case N9 => k_asm); (case h19 => k_mem); (case h29 => k_mem); (case P9 => assumption); (case U9 => (intro es9 n9; k_upd)); k_whole; intro es'9 n'9 h'9 tk'9 P'9 F'9 N'9; (try k_sweep)) | (refine' set_parent ?F9 ?X9 ?N9 ?h19 ?h29 ?P9 ?U9 ?_; (case F9 => k_asm); (case X9 => k_asm); (case N9 => k_asm); (case h19 => k_mem); (case h29 => k_mem); (case P9 => assumption); (case U9 => (intro es9 n9; k_upd)); k_whole; intro es'9 n'9 h'9 tk'9 P'9 F'9 N'9; (try k_sweep)))))) | ((fail_if_success fail_if_success with_reducible refine at_iter ?_); (with_reducible refine hold ?_)) | ((fail_if_success fail_if_success with_reducible refine at_for ?_); (with_reducible refine hold ?_)) | ((fail_if_success fail_if_success with_reducible refine at_get ?_); (k_dflt (refine' get_own ?k19 ?k29 ?k39 ?k49 ?k59 ?k69 ?k79 ?k89 ?k99 ?_; (case k19 => k_asm); (case k29 => k_asm); (case k39 => exact InstAt.of_news (by k_asm) (by k_mem) (by k_mem)); (case k49 => k_is); (case k59 => k_is); (case k69 => k_is); (case k79 => k_is); (case k89 => assumption); (case k99 => k_handed); k_whole))) | ((fail_if_success fail_if_success with_reducible refine at_name ?_); (k_dflt (refine' ld ?k19 ?k29 ?_; (case k19 => k_asm); (case k29 => first | assumption | ((repeat rw [if_neg (by decide)]); assumption)); k_whole))) | wtm_at "s2"))
        rename Fr _ _ _ _ => F11
        rename News _ _ _ _ => N11
        refine ⟨_, _, _, (wl, listOf (Value.ref R :: (qs ++ [(IQ, W)]).map fun q => Value.ref q.1).toArray (knw + 1)) :: sn9, rfl, F11, ?_, ?_, (if_neg (by decide)).trans ((if_neg (by decide)).trans hq1), qs ++ [(IQ, W)], knw + 1, sn9, rfl, fun p hp => s9 _ (s8 _ (s7 _ hp)), kw9, by rw [List.length_append, hlen]; rfl, ?_⟩
        · rw [List.map_append]
          exact N11
        · intro p hp
          rcases List.mem_cons.mp hp with rfl | hp
          · exact hIw
          · exact hI9 p hp
        · intro j q hx
          rcases Nat.lt_or_ge j qs.length with hj | hj
          · rw [List.getElem?_append_left hj] at hx
            obtain ⟨nm', e1, e2, e3⟩ := hqs j q hx
            exact ⟨nm', e1, e2.mono fun a o z => s9 _ (s8 _ z), e3.mono fun a o z => s9 _ (s8 _ z)⟩
          · rw [List.getElem?_append_right hj] at hx
            have hj0 : j - qs.length = 0 := by
              rcases Nat.eq_zero_or_pos (j - qs.length) with e | e
              · exact e
              · rw [List.getElem?_eq_none (show [(IQ, W)].length ≤ j - qs.length from e)] at hx; cases hx
            rw [hj0] at hx
            have hjl : j = qs.length := by omega
            cases hx
            exact ⟨nmq, by rw [hjl]; exact hnm, ⟨klQ, kn2, MQ.mono fun a o z => s9 _ z, mQ⟩, ⟨kiW, 0, MW, mW⟩⟩)
    (case fin =>
      intro h9 tk9 m9 nw F1 N2 hJ
      clear F5 N1 ht hb
      obtain ⟨hq1, qs, knw, sn7, rfl, s7, kw7, hlen, hqs⟩ := hJ
      obtain ⟨q0, q1, rfl⟩ : ∃ a b, qs = [a, b] := match qs, hlen with | [a, b], _ => ⟨a, b, rfl⟩
      obtain ⟨nm0, e0, A0, B0⟩ := hqs 0 q0 rfl
      obtain ⟨nm1, e1, A1, B1⟩ := hqs 1 q1 rfl
      cases e0
      cases e1
      obtain ⟨AL, AN, AE, NU, NE, IX, rfl⟩ : ∃ a b c d e f, its = [a, b, c, d, e, f] := match its, hl6 with | [a, b, c, d, e, f], _ => ⟨a, b, c, d, e, f, rfl⟩
      obtain ⟨n1, c1, f1, x1⟩ := hits 0 AL rfl
      obtain ⟨n2, c2, f2, x2⟩ := hits 1 AN rfl
      obtain ⟨n3, c3, f3, x3⟩ := hits 2 AE rfl
      obtain ⟨n4, c4, f4, x4⟩ := hits 3 NU rfl
      obtain ⟨n5, c5, f5, x5⟩ := hits 4 NE rfl
      obtain ⟨n6, c6, f6, x6⟩ := hits 5 IX rfl
      cases f1; cases f2; cases f3; cases f4; cases f5; cases f6
      (repeat' (first | wtm_at "s1" | ((fail_if_success fail_if_success with_reducible refine at_call ?_); (first | (with_reducible refine hold_at 380 ?_) | ((with_reducible show wpAny _ _ (call (.ref 353) _ _) _ _ _); (k_dflt (refine' mkShape_spec (by k_in) (by wtm_at "T") (by first | exact rm1 hdp rfl rfl | wtm_at "D") (by first | exact um1 hun rfl rfl | wtm_at "U") ?_; k_whole); intro sh'9 ds'9 es'9 n'9 h'9 tk'9 hE'9 hD'9 hN'9 hne1'9; (rename Fr _ _ _ _ => kF0); (rename News _ _ _ _ => kN0); (have F'9 := Fr.keeps kF0 hE'9); (have N'9 := newsAddAll kF0 kN0 hE'9 hN'9); (have l0'9 := newsNe kN0 (hN'9 _ (.head _)).2); (have l1'9 := newsNe kN0 (hN'9 _ (.tail _ (.head _))).2); clear kF0 kN0 hE'9 hN'9; (try simp only [List.cons_append, List.nil_append] at N'9); (try k_sweep))) | ((with_reducible show wpAny _ _ (call (.ref 136) _ _) _ _ _); (k_dflt (refine' mkItem_spec (by k_in) (by wtm_at "T") (by first | exact rm1 hdp rfl rfl | wtm_at "D") (by first | exact um1 hun rfl rfl | wtm_at "U") ?_; k_whole); intro it'9 di'9 kl'9 cl'9 es'9 n'9 h'9 tk'9 hE'9 hD'9 hN'9 hne'9; obtain ⟨hne1'9, hne2'9, hne3'9, hne4'9, hne5'9, hne6'9⟩ := hne'9; (rename Fr _ _ _ _ => kF0); (rename News _ _ _ _ => kN0); (have F'9 := Fr.keeps kF0 hE'9); (have N'9 := newsAddAll kF0 kN0 hE'9 hN'9); (have l0'9 := newsNe kN0 (hN'9 _ (.head _)).2); (have l1'9 := newsNe kN0 (hN'9 _ (.tail _ (.head _))).2); (have l2'9 := newsNe kN0 (hN'9 _ (.tail _ (.tail _ (.head _)))).2); (have l3'9 := newsNe kN0 (hN'9 _ (.tail _ (.tail _ (.tail _ (.head _))))).2); clear kF0 kN0 hE'9 hN'9; (try simp only [List.cons_append, List.nil_append] at N'9); (try k_sweep))))) | ((fail_if_success fail_if_success with_reducible refine at_app ?_); (with_reducible refine hold ?_)) | ((fail_if_success fail_if_success with_reducible refine at_set ?_); (first | ((with_reducible show wpAny _ _ (setAttr _ (Str.ofString "indexes") _) _ _ _); k_dflt (refine' set_indexes ?F9 ?X9 ?N9 ?h19 ?h29 ?P9 ?U9 ?_; (case F9 => k_asm); (case X9 => k_asm); (case N9 => k_asm); (case h19 => k_mem); (case h29 => k_mem); (case P9 => assumption); (case U9 => (intro es9 n9; k_upd)); k_whole; intro es'9 n'9 h'9 tk'9 P'9 F'9 N'9; (try k_sweep))) | (k_dflt (first | (refine' set_shape ?F9 ?X9 ?N9 ?h19 ?h29 ?P9 ?U9 ?_; (case F9 => k_asm); (case X9 => k_asm); (case N9 => k_asm); (case h19 => k_mem); (case h29 => k_mem); (case P9 => assumption); (case U9 => (intro es9 n9; k_upd)); k_whole; intro es'9 n'9 h'9 tk'9 P'9 F'9 N'9; (try k_sweep)) | (refine' set_occurs ?F9 ?X9 ?N9 ?h19 ?h29 ?P9 ?U9 ?_; (case F9 => k_asm); (case X9 => k_asm); (case N9 => k_asm); (case h19 => k_mem); (case h29 => k_mem); (case P9 => assumption); (case U9 => (intro es9 n9; k_upd)); k_whole; intro es'9 n'9 h'9 tk'9 P'9 F'9 N'9; (try k_sweep)) | (refine' set_parent ?F9 ?X9 ?N9 ?h19 ?h29 ?P9 ?U9 ?_; (case F9 => k_asm); (case X9 => k_asm); (case N9 => k_asm); (case h19 => k_mem); (case h29 => k_mem); (case P9 => assumption); (case U9 => (intro es9 n9; k_upd)); k_whole; intro es'9 n'9 h'9 tk'9 P'9 F'9 N'9; (try k_sweep)))))) | ((fail_if_success fail_if_success with_reducible refine at_iter ?_); (with_reducible refine hold ?_)) | ((fail_if_success fail_if_success with_reducible refine at_for ?_); (with_reducible refine hold ?_)) | ((fail_if_success fail_if_success with_reducible refine at_get ?_); (k_dflt (refine' get_own ?k19 ?k29 ?k39 ?k49 ?k59 ?k69 ?k79 ?k89 ?k99 ?_; (case k19 => k_asm); (case k29 => k_asm); (case k39 => exact InstAt.of_news (by k_asm) (by k_mem) (by k_mem)); (case k49 => k_is); (case k59 => k_is); (case k69 => k_is); (case k79 => k_is); (case k89 => assumption); (case k99 => k_handed); k_whole))) | ((fail_if_success fail_if_success with_reducible refine at_name ?_); (k_dflt (refine' ld ?k19 ?k29 ?_; (case k19 => k_asm); (case k29 => first | assumption | ((repeat rw [if_neg (by decide)]); assumption)); k_whole))) | wtm_at "s2"))
      rename Fr _ _ _ _ => F9
      rename News _ _ _ _ => N9
      have hg : ∀ p ∈ (wl, _) :: sn7, (freshOf s.heap _).get? p.1 = some p.2 := fun p hp => fresh_get (N9.get hp) (N9.fresh hp)
      have hs : ∀ p ∈ sn7, (freshOf s.heap _).get? p.1 = some p.2 := fun p hp => hg p (.tail _ hp)
      have z6 : ∀ p ∈ sn5, p ∈ sn7 := fun p hp => s7 _ (s6 _ hp)
      have z4 : ∀ p ∈ sn4, p ∈ sn7 := fun p hp => z6 _ (s5 _ hp)
      have z3 : ∀ p ∈ sn3, p ∈ sn7 := fun p hp => z4 _ (s4 _ hp)
      have z2 : ∀ p ∈ sn2, p ∈ sn7 := fun p hp => z3 _ (s3 _ hp)
      have z1 : ∀ p ∈ sn1, p ∈ sn7 := fun p hp => z2 _ (s2 _ hp)
      obtain ⟨d1, d2, d3, d4, d5⟩ := Dd
      refine hQ ⟨d, R, AL, AN, AE, NU, NE, IX, T, K, U, V, q0.1, q0.2, q1.1, q1.2, oT, oU⟩ _ _ F9.keep ⟨⟨dd, esf, nf, fd, wl, knw, ll, 0, h5.objs.size, hs _ (s7 _ md6), hs _ (s7 _ mdd), d2, d3, d4, d5, ⟨fd2, [], Heap.dictOf_iff.mpr ⟨of, hs _ (z2 _ (s2 _ mfd)), fd1⟩, ?_⟩, hg _ (.head _), hs _ (z2 _ (s2 _ mll)), xd2, Heap.dictOf_iff.mpr ⟨ox, hs _ (s7 _ mx), xd3⟩⟩, ?_, ?_, ?_, ?_, ?_, ?_, ?_, ?_, ?_, ?_, ?_, ?_, ?_, ?_, ?_⟩
      · exact PyProof.V.FlatPairs.nil
      · exact LfM.its ⟨kl, knR, MR.mono fun a o z => z1 _ z, z2 _ mR⟩ hs
      · exact (x1.mono fun a o z => z1 _ z).its hs
      · exact (x2.mono fun a o z => z1 _ z).its hs
      · exact (x3.mono fun a o z => z1 _ z).its hs
      · exact (x4.mono fun a o z => z1 _ z).its hs
      · exact (x5.mono fun a o z => z1 _ z).its hs
      · exact (x6.mono fun a o z => z1 _ z).its hs
      · exact LfM.its ⟨kiT, knT2, MT.mono fun a o z => z2 _ z, z4 _ mT⟩ hs
      · exact LfM.its ⟨kiK, 0, MK.mono fun a o z => z3 _ z, z3 _ mK⟩ hs
      · exact LfM.its ⟨kiU, knU, MU.mono fun a o z => z4 _ z, z6 _ mU⟩ hs
      · exact LfM.its ⟨kiV, 0, MV.mono fun a o z => z6 _ z, z6 _ mV⟩ hs
      · exact A0.its hs
      · exact B0.its hs
      · exact A1.its hs
      · exact B1.its hs))
end
end
section
-- Q38
example : True := by
  w_top off
  trivial
theorem nilT {g : Heap} (X : (hd.heap_39 w.params).In g) : g.IsTuple 388 #[] ∧ g.IsTuple 389 #[] :=
  ⟨⟨_, X _ _ (by k_is), rfl, _, rfl⟩, ⟨_, X _ _ (by k_is), rfl, _, rfl⟩⟩
theorem refOf {g : Heap} (X : (hd.heap_39 w.params).In g) {o sb : Addr} {nm : Str} {t0 t1 : Tok} {k : Nat} (h : g.get? o = some (tupOf #[.str (Str.ofString "ref") t0, .str nm t1, .ref 389, .ref sb, .none] k)) : RefT g o nm sb := ⟨t0, t1, 389, k, h, (nilT X).2⟩
theorem ex_of {a : Ad} {g : Heap} (X : (hd.heap_39 w.params).In g) (T : Top V LS mean mg mb g) (D : Dat w g a) {n : Nat} {o : Addr} {due : List Str} (t : Tr (fun a o => g.get? a = some o) n o due) : Ex w a g n o due := by
  have N1 := (nilT X).1
  induction t with
  | name h hd =>
    have R := refOf X h
    rcases hd with ⟨hm, rfl⟩ | ⟨hm, rfl⟩
    · simp only [List.mem_cons, List.not_mem_nil, or_false] at hm
      rcases hm with rfl | rfl | rfl | rfl
      · exact .nil ((leaf_hit X T D R N1 (by rfl) D.hNU (by decide)).le (by decide))
      · exact .nil ((leaf_hit X T D R N1 (by rfl) D.hIX (by decide)).le (by decide))
      · exact .nil ((leaf_ix X T D R N1 (by rfl)).le (by decide))
      · exact .nil ((leaf_ix X T D R N1 (by rfl)).le (by decide))
    · simp only [List.mem_cons, List.not_mem_nil, or_false] at hm
      rcases hm with rfl | rfl | rfl | rfl | rfl | rfl
      · exact .one ((leaf_bad X T D R N1 (by rfl) D.hAN (by decide)).le (by decide))
      · exact .one ((leaf_bad X T D R N1 (by rfl) D.hAL (by decide)).le (by decide))
      · exact .one ((leaf_bad X T D R N1 (by rfl) D.hAE (by decide)).le (by decide))
      · exact .one ((leaf_bad X T D R N1 (by rfl) D.hNE (by decide)).le (by decide))
      · exact .one ((leaf_bad X T D R N1 (by rfl) D.hR (by decide)).le (by decide))
      · exact .no R N1 (by rfl) (by decide) (by rfl)
  | sub h1 h2 h3 =>
    exact .nil (leaf_K X T D (refOf X h1) ⟨_, h2, rfl, _, rfl⟩ (by rfl) D.hK (by decide) (leaf_hit X T D (refOf X h3) N1 (by rfl) D.hNU (by decide)))
  | number h => exact .nil ((leaf_num X T h).le (by decide))
  | text h => exact .one ((leaf_text X T h).le (by decide))
  | zero h => exact .nil ((leaf_zero X T h).le (by decide))
  | space h => exact .one ((leaf_space X T h).le (by decide))
  | neg h _ ih => exact .neg h ih
  | bin h hop _ _ i1 i2 =>
    refine .bin h ?_ ?_ i1 i2
    · simp only [List.mem_cons, List.not_mem_nil, or_false] at hop
      rcases hop with rfl | rfl | rfl | rfl | rfl <;> decide
    · simp only [List.mem_cons, List.not_mem_nil, or_false] at hop
      rcases hop with rfl | rfl | rfl | rfl | rfl <;> decide
noncomputable abbrev catTab : List (Str × Str) := [(Str.ofString "R", Str.ofString "group"), (Str.ofString "AL", Str.ofString "alphabetic"), (Str.ofString "AN", Str.ofString "alphanumeric"), (Str.ofString "AE", Str.ofString "alnum-edited"), (Str.ofString "NU", Str.ofString "numeric"), (Str.ofString "NE", Str.ofString "edited"), (Str.ofString "IX", Str.ofString "index"), (Str.ofString "T-I", Str.ofString "index")]
noncomputable def kcOf (nm : Str) : Option Str := (catTab.find? fun p => p.1 == nm).map (·.2)
noncomputable abbrev lawNames : List Str := [Str.ofString "R", Str.ofString "AL", Str.ofString "AN", Str.ofString "AE", Str.ofString "NU", Str.ofString "NE", Str.ofString "IX", Str.ofString "T-I", Str.ofString "NO"]
theorem pk_of {a : Ad} {g : Heap} (X : (hd.heap_39 w.params).In g) (T : Top V LS mean mg mb g) (D : Dat w g a) {o : Addr} {nm : Str} {t0 t1 : Tok} {k : Nat} (h : g.get? o = some (tupOf #[.str (Str.ofString "ref") t0, .str nm t1, .ref 389, .ref 388, .none] k)) (hm : nm ∈ lawNames) : Pk w a g o nm (kcOf nm) := by
  have N1 := (nilT X).1
  have R := refOf X h
  have key : ∀ {x : Addr} {cat : Str}, (valueAt a.ix nm).isSome = false → Hit g a nm x cat 0 → kcOf nm = some cat → Pk w a g o nm (kcOf nm) := fun hi H e => by
    rw [e]; exact .known R (ref_hit_nil X T D R N1 hi H) (cat_hit_is X T D R hi H)
  simp only [List.mem_cons, List.not_mem_nil, or_false] at hm
  rcases hm with rfl | rfl | rfl | rfl | rfl | rfl | rfl | rfl | rfl
  · exact key (by rfl) D.hR (by decide)
  · exact key (by rfl) D.hAL (by decide)
  · exact key (by rfl) D.hAN (by decide)
  · exact key (by rfl) D.hAE (by decide)
  · exact key (by rfl) D.hNU (by decide)
  · exact key (by rfl) D.hNE (by decide)
  · exact key (by rfl) D.hIX (by decide)
  · have e : kcOf (Str.ofString "T-I") = some (Str.ofString "index") := by decide
    rw [e]; exact .known R (ref_ix_nil X T D R N1 (by rfl)) (cat_ix_is X T D R (by rfl))
  · have e : kcOf (Str.ofString "NO") = none := by decide
    rw [e]; exact .no R N1 (by rfl) (by decide) (by rfl)
end
section
-- Q39
example : True := by
  w_top off
  trivial
/-- the law's own frame: all but the frame and the source -/
noncomputable abbrev two (h : Heap) (L src : Addr) : Heap := hideAll h [L, src]
theorem two_get {h : Heap} {L src b : Addr} {o : Obj} (e : h.get? b = some o) (n : b ≠ L) (n2 : b ≠ src) : (two h L src).get? b = some o := hideAll_get _ e fun m => by
  rcases List.mem_cons.mp m with e | m
  · exact n e
  · exact n2 (List.mem_singleton.mp m)
section
variable {b h h' : Heap} {L src cl : Addr} {m : Str → Option Value} {os : Obj} {news sn : List (Addr × Obj)}
theorem two_ext : Ext (two h L src) h := fun b o q => of_hideAll _ q
theorem two_base (F : Fr b L h m) (hs : b.get? src = none) : Ext b (two h L src) := fun a o q => two_get (F.keep _ _ q) (fun e => by
  have := Heap.lt_size q
  rw [e] at this
  exact absurd this (Nat.not_lt.mpr F.above)) (fun e => by rw [e, hs] at q; cases q)
theorem two_L : (two h L src).get? L = none := hideAll_none _ (.head _)
theorem two_src : (two h L src).get? src = none := hideAll_none _ (.tail _ (.head _))
theorem two_news (N : News b L h news) {p : Addr × Obj} (hp : p ∈ news) (n : p.1 ≠ src) : (two h L src).get? p.1 = some p.2 := two_get (N p hp).1 (N p hp).2.1 n
theorem sx_law {at_ : Int} {tk : Tok} {n nn : Nat} {its : Array Value} {ns : List Int} (F : Fr b L h m) (N : News b L h news) (X : (hd.heap_39 w.params).In b) (T : Top V LS mean mg mb b) (hm : (src, listOf #[.ref cl, .int at_ tk] n) ∈ news) (hc : (cl, listOf its nn) ∈ news) (hcs : cl ≠ src)
    (hI : IntsAre its.toList ns) (h0 : 0 < ns.length) (h1 : ns.length ≤ 100) : Sx w mean mg mb (two h L src) h src cl at_ := by
  have hb := two_base F (N.fresh hm)
  exact ⟨two_ext, X.keeps hb, T.keeps hb, two_src, ⟨tk, n, N.get hm⟩, ⟨its, nn, ns, two_news N hc hcs, hI, h0, h1⟩⟩
theorem fr_x (F : Fr b L h m) (hm : (src, os) ∈ news) (N : News b L h news) (x : ExtB src h h') : Fr b L h' m := by
  refine ⟨?_, fun a o q => x _ _ (fun e => ?_) (F.keep _ _ q), F.above⟩
  · obtain ⟨o, es, ep, ho, hd, r⟩ := F.ns
    exact ⟨o, es, ep, x _ _ (Ne.symm (N _ hm).2.1) ho, hd, r⟩
  · rw [e, N.fresh hm] at q; cases q
theorem draw_law {at_ lim : Int} {tl tk : Tok} {n nn : Nat} {its : Array Value} {ns : List Int} {news' : Tok → Nat → List (Addr × Obj)} (F : Fr b L s.heap m) (N : News b L s.heap news) (X : (hd.heap_39 w.params).In b) (T : Top V LS mean mg mb b) (hm : (src, listOf #[.ref cl, .int at_ tk] n) ∈ news) (hc : (cl, listOf its nn) ∈ news) (hcs : cl ≠ src)
    (hI : IntsAre its.toList ns) (h0 : 0 < ns.length) (h1 : ns.length ≤ 100) (U : ∀ t2 n2, Upd src (listOf #[.ref cl, .int at_ tk] n) (listOf #[.ref cl, .int (at_ + 1) t2] n2) news (news' t2 n2)) (hdp : dp + 1 < 900) (hun : un + 10 < 9000) (hat0 : 0 ≤ at_) (hat : at_ < 100000) (hl0 : 0 < lim) (hl1 : lim < 100)
    (hQ : ∀ k h' tk' tk2 t2 n2, 0 ≤ k → k < lim → Fr b L h' m → News b L h' (news' t2 n2) → Q (.int k tk') { s with heap := h', toks := tk2 }) :
    wpAny (model PySem.Challenge.rw_og0093_01.row.prog w) (AT none dp fr gd un) (call (.ref 372) [.ref src, .int lim tl]) Q E s := by
  refine draw_spec (sx_law F N X T hm hc hcs hI h0 h1) hdp hun hat0 hat hl0 hl1 fun k h' tk' tk2 hk0 hk1 x S' => ?_
  obtain ⟨t2, n2, g2⟩ := S'.gs
  refine hQ k h' tk' tk2 t2 n2 hk0 hk1 (fr_x F hm N x) ?_
  obtain ⟨pre, post, e1, e2, h1, h2⟩ := (U t2 n2).split
  have z1 := N _ hm
  rw [e2]
  rw [e1] at N
  intro p hp
  rcases List.mem_append.mp hp with hp | hp
  · have q := N p (List.mem_append_left _ hp)
    exact ⟨x _ _ (h1 p hp) q.1, q.2⟩
  rcases List.mem_cons.mp hp with rfl | hp
  · exact ⟨g2, z1.2⟩
  · have q := N p (List.mem_append_right _ (.tail _ hp))
    exact ⟨x _ _ (h2 p hp) q.1, q.2⟩
theorem out_law {b₀ : Heap} {r : Addr} {n : Nat} {lo hi : Int} (F : Fr b L h m) (N : News b L h ((src, os) :: sn)) (ap : ∀ p ∈ sn, p.1 ≠ src) (O : Out w mean mg mb b₀ h h' src cl n lo hi r) :
    ∃ o f due its k1 k2 at' t2 n2 sn2, Fr b L h' m ∧ News b L h' ((r, tupOf #[.ref o, .ref f] k1) :: (src, listOf #[.ref cl, .int at' t2] n2) :: ((f, listOf (List.toArray its) k2) :: (sn2 ++ sn))) ∧ lo ≤ at' ∧ at' ≤ hi ∧ StrsAre its due ∧ Tr (fun a ob => (a, ob) ∈ sn2) n o due ∧ due.length ≤ dl n ∧
      r ≠ src ∧ ∀ p ∈ (f, listOf (List.toArray its) k2) :: (sn2 ++ sn), p.1 ≠ src := by
  obtain ⟨o, f, due, its, k1, k2, at', a1, a2, a3, a4, a5, a6, a7, a8, a9⟩ := O
  obtain ⟨t2, n2, g2⟩ := a2.gs
  obtain ⟨sn2, s1, s2⟩ := a8.ledger
  have z1 := N _ (.head _)
  have hne : ∀ {x : Addr} {ob : Obj}, NB h h' x ob → x ≠ src := fun q z => by
    have := q.2
    rw [z, z1.1] at this; cases this
  have hnb : ∀ {x : Addr} {ob : Obj}, NB h h' x ob → h'.get? x = some ob ∧ x ≠ L ∧ b.get? x = none := fun q => ⟨q.1, noneOf F q.2⟩
  refine ⟨o, f, due, its, k1, k2, at', t2, n2, sn2, fr_x F (.head _) N a1, fun p hp => ?_, a3, a4, a7, s2, a9, hne a5, fun p hp => ?_⟩
  · rcases List.mem_cons.mp hp with rfl | hp
    · exact hnb a5
    rcases List.mem_cons.mp hp with rfl | hp
    · exact ⟨g2, z1.2⟩
    rcases List.mem_cons.mp hp with rfl | hp
    · exact hnb a6
    rcases List.mem_append.mp hp with hp | hp
    · exact hnb (s1 p hp)
    · have q := N p (.tail _ hp)
      exact ⟨a1 _ _ (ap p hp) q.1, q.2⟩
  · rcases List.mem_cons.mp hp with rfl | hp
    · exact hne a6
    rcases List.mem_append.mp hp with hp | hp
    · exact hne (s1 p hp)
    · exact ap p hp
theorem law_after (F : Fr b L h m) (N : News b L h news) (x : ExtF [L] h h') : Fr b L h' m ∧ News b L h' news := by
  refine ⟨⟨?_, fun a o q => x.1 _ _ (F.keep _ _ q) (fun e => ?_), F.above⟩, fun p hp => ⟨x.1 _ _ (N p hp).1 (fun e => (N p hp).2.1 (List.mem_singleton.mp e)), (N p hp).2⟩⟩
  · obtain ⟨o, es, ep, ho, hd, r⟩ := F.ns
    obtain ⟨sl, hs⟩ := x.2 _ _ ho (.head _)
    exact ⟨_, es, ep, hs, hd, r⟩
  · have := Heap.lt_size q
    rw [List.mem_singleton.mp e] at this
    exact absurd this (Nat.not_lt.mpr F.above)
theorem newsPlus {ls : List (Addr × Obj)} (F : Fr b L h m) (N : News b L h' news) (hs : ∀ p ∈ ls, h'.get? p.1 = some p.2 ∧ h.get? p.1 = none) : News b L h' (ls ++ news) := by
  intro p hp
  rcases List.mem_append.mp hp with hp | hp
  · exact ⟨(hs p hp).1, noneOf F (hs p hp).2⟩
  · exact N p hp
/-- the data's objects, kept in a ledger -/
noncomputable def DatL (w : World) (a : Ad) (sn : List (Addr × Obj)) : Prop := ∃ g, Dat w g a ∧ ∀ b o, g.get? b = some o → (b, o) ∈ sn
theorem DatL.mono {a : Ad} {sn sn' : List (Addr × Obj)} (x : DatL w a sn) (h : ∀ p ∈ sn, p ∈ sn') : DatL w a sn' := by
  obtain ⟨g, d, e⟩ := x
  exact ⟨g, d, fun b o q => h _ (e b o q)⟩
theorem DatL.at {a : Ad} {sn : List (Addr × Obj)} {g : Heap} (x : DatL w a sn) (h : ∀ p ∈ sn, g.get? p.1 = some p.2) : Dat w g a := by
  obtain ⟨g', d, e⟩ := x
  exact d.ext fun b o q => h _ (e b o q)
noncomputable def snap (g : Heap) : List (Addr × Obj) := (List.range g.objs.size).filterMap fun b => (g.get? b).map fun o => (b, o)
theorem snap_of {g : Heap} {p : Addr × Obj} (h : p ∈ snap g) : g.get? p.1 = some p.2 := by
  obtain ⟨b, _, e⟩ := List.mem_filterMap.mp h
  obtain ⟨o, e1, rfl⟩ := Option.map_eq_some_iff.mp e
  exact e1
theorem snap_mem {g : Heap} {b : Addr} {o : Obj} (h : g.get? b = some o) : (b, o) ∈ snap g := List.mem_filterMap.mpr ⟨b, List.mem_range.mpr (Heap.lt_size h), by rw [h]; rfl⟩
theorem cx_law {a : Ad} {env : Env} (F : Fr b L h m) (N : News b L h news) (X : (hd.heap_39 w.params).In b) (T : Top V LS mean mg mb b) (hm : (src, os) ∈ news) (hf : env.frame = some L) (hk : env.scope.kind = .function) (D : Dat w (two h L src) a) : Cx w mean mg mb (two h L src) h [env] a := by
  have hb := two_base F (N.fresh hm)
  exact ⟨two_ext, .cons (by rw [hk]; decide) hf F.ns two_L trivial, X.keeps hb, T.keeps hb, D⟩
end
theorem restIndG {prog : Program} {A : Around} {h₀ : Heap} {L : Addr} {m : Str → Option Value} {env : Env} {elt : Expr} {x : Str} {scope : Scope} {cl : List (Str × Addr)} {S : List (Addr × Obj) → Prop} {P : Nat → Value → Prop} {Fin : List Value → List (Addr × Obj) → Prop} {news : List (Addr × Obj)} {n : Nat}
    (J : Nat → List Value → Prop) (h0 : J 0 [])
    (step : ∀ k i ys, J i ys → (∀ ys', J (i + 1) ys' → LCg.CompRest prog w A h₀ L m env elt x scope cl s S P Fin k (i + 1) ys' news) → LCg.CompRest prog w A h₀ L m env elt x scope cl s S P Fin (k + 1) i ys news)
    (fin : ∀ ys, J n ys → Fin ys news) : LCg.CompRest prog w A h₀ L m env elt x scope cl s S P Fin n 0 [] news := by
  have key : ∀ k i ys, i + k = n → J i ys → LCg.CompRest prog w A h₀ L m env elt x scope cl s S P Fin k i ys news := by
    intro k
    induction k with
    | zero =>
      intro i ys hi hJ
      obtain rfl : i = n := by omega
      exact LCg.CompRest.zero (fin ys hJ)
    | succ k ih =>
      intro i ys hi hJ
      exact step k i ys hJ fun ys' h' => ih (i + 1) ys' (by omega) h'
  exact key n 0 [] (by omega) h0
theorem sa_same {v : List Value} {d : List Str} (x : StrsAre v d) : ∀ {v' : List Value}, StrsAre v' d → ∀ j (h1 : j < v.length) (h2 : j < v'.length), ∃ y t t', v[j] = .str y t ∧ v'[j] = .str y t' := by
  induction x with
  | nil => intro v' _ j h1; exact absurd h1 (Nat.not_lt_zero _)
  | cons y t _ ih =>
    intro v' q j h1 h2
    cases q with
    | cons _ t' q =>
      cases j with
      | zero => exact ⟨y, t, t', rfl, rfl⟩
      | succ j => exact ih q j (by simpa using h1) (by simpa using h2)
theorem all_true (n : Nat) : (List.range n).all (fun _ => true) = true := by simp
/-- two lists of equal texts -/
theorem texts_ne {prog : Program} {A : Around} {a b : Addr} {v v' : List Value} {d : List Str} {Q : Value → Shared → Prop} (hl : s.heap.IsList a v.toArray) (hb : s.heap.IsList b v'.toArray) (hu : A.units < cLine) (x : StrsAre v d) (y : StrsAre v' d) (h : Q (.bool false) s) : wpAny (model prog w) A (compareOp .NotEq (.ref a) (.ref b)) Q E s := by
  refine cmp_ofNotEq ?_
  refine RcNeAt.lists hl hb (by simp [sa_len x, sa_len y]) hu (e := fun _ => true) (fun j h1 h2 => ?_) prog w E Q ?_
  · obtain ⟨z, t, t', e1, e2⟩ := sa_same x y j (by simpa using h1) (by simpa using h2)
    have f1 : v.toArray[j] = .str z t := by simpa using e1
    have f2 : v'.toArray[j] = .str z t' := by simpa using e2
    rw [f1, f2]
    have := EqAt.str_str (A := A.in1) (s := s) z t z t'
    rwa [beq_self_eq_true] at this
  · rw [all_true]; exact h
theorem texts_eq {prog : Program} {A : Around} {a b : Addr} {v v' : List Value} {d : List Str} {Q : Value → Shared → Prop} (hl : s.heap.IsList a v.toArray) (hb : s.heap.IsList b v'.toArray) (hu : A.units < cLine) (x : StrsAre v d) (y : StrsAre v' d) (h : Q (.bool true) s) : wpAny (model prog w) A (compareOp .Eq (.ref a) (.ref b)) Q E s := by
  refine cmp_ofEq ?_
  refine RcAt.lists hl hb (by simp [sa_len x, sa_len y]) hu (e := fun _ => true) (fun j h1 h2 => ?_) prog w E Q ?_
  · obtain ⟨z, t, t', e1, e2⟩ := sa_same x y j (by simpa using h1) (by simpa using h2)
    have f1 : v.toArray[j] = .str z t := by simpa using e1
    have f2 : v'.toArray[j] = .str z t' := by simpa using e2
    rw [f1, f2]
    have := EqAt.str_str (A := A.in1) (s := s) z t z t'
    rwa [beq_self_eq_true] at this
  · rw [all_true]; exact h
end
section
-- Q40
example : True := by
  w_top off
  trivial
section
variable {prog : Program} {A : Around} {env : Env} {h₀ : Heap} {target : Expr} {body : List Stmt} {Q : Flow → Shared → Prop}
/-- a turn's end that neither returns nor breaks -/
noncomputable def TEndF (h₀ : Heap) (L : Addr) (g : Array GenState) (d : Drawn) (os : OsState) (I : Addr) (oI : Obj) (J : (Str → Option Value) → List (Addr × Obj) → Prop) (f : Flow) (s' : Shared) : Prop :=
  f = .next ∧ s'.gens = g ∧ s'.drawn = d ∧ s'.os = os ∧ ∃ m' news', Fr h₀ L s'.heap m' ∧ News h₀ L s'.heap ((I, oI) :: news') ∧ (∀ p ∈ news', p.1 ≠ I) ∧ J m' news'
theorem turnsRangeF {L : Addr} (hL : env.locals = L) {r : Addr} {n : Int} {t u v : Tok} {m₀ : Str → Option Value} {news : List (Addr × Obj)} (hh : A.handled = none) (F : Fr h₀ L s.heap m₀) (N : News h₀ L s.heap news) (hr : IsRange s.heap r 0 n 1 t u v) (hn : n < 1000) (hn0 : 0 ≤ n)
    (J : Nat → (Str → Option Value) → List (Addr × Obj) → Prop) (h0 : J 0 m₀ news)
    (step : ∀ i tk m₁ news₁ h₁ tk₁ I oI, i < n.toNat → J i m₁ news₁ → (∀ p ∈ news₁, p.1 ≠ I) → Fr h₀ L h₁ m₁ → News h₀ L h₁ ((I, oI) :: news₁) →
      wpAny (model prog w) A (assign target env (.int (i : Int) tk)) (fun _ s₃ => wpAny (model prog w) A (execs body env) (TEndF h₀ L s.gens s.drawn s.os I oI (J (i + 1))) E s₃) E { s with heap := h₁, toks := tk₁ })
    (fin : ∀ h' tk m' news', Fr h₀ L h' m' → News h₀ L h' news' → J n.toNat m' news' → Q .next { s with heap := h', toks := tk }) :
    wpAny (model prog w) A (pyIter (.ref r)) (fun it s₂ => TurnsAt prog w A h₀ env target body Q E it s₂) E s := by
  subst hL
  have hsz : Builtin.Range.rangeSize 0 n 1 = (n.toNat : Int) := by rw [rangeSize_one]; split <;> omega
  refine wpAny_pyIter_range hr (small_one (by decide) (by decide) (by omega) (by omega)) ?_
  refine ⟨s.heap.objs.size, _, _, n.toNat, _, _, _, m₀, news, J, rfl, KTurns.ofWalks (Walks.range hh s.heap.objs.size 0 1 n.toNat) (fun i v s Q E st q => letGo_rangeiter st q), ?_, ?_, ?_, ?_, F.push _, fun p hp => ⟨Heap.get?_push_of_some _ (N p hp).1, (N p hp).2⟩, h0, ?_, ?_⟩
  · intro hI
    exact absurd F.ns.lt ((List.mem_singleton.mp hI) ▸ Nat.lt_irrefl _)
  · intro b hb
    rw [List.mem_singleton.mp hb]
    exact next_is_new F
  · intro p hp hI
    exact absurd (Heap.lt_size (N p hp).1) ((List.mem_singleton.mp hI) ▸ Nat.lt_irrefl _)
  · have e1 : (0 + ((0 : Nat) : Int) * 1) = 0 := by simp
    have e2 : ((n.toNat : Int) - ((0 : Nat) : Int)) = Builtin.Range.rangeSize 0 n 1 := by rw [hsz]; simp
    rw [e1, e2]
    exact Heap.get?_push_size _ rfl
  · intro i v m₁ news₁ h₁ tk₁ own hi hP hJ hoff hown hget hall hst F₁ N₁
    obtain ⟨tv, rfl⟩ := hP
    have ev : (0 + (i : Int) * 1) = (i : Int) := by simp
    rw [ev]
    have hoI := hst
    obtain ⟨oI, hoI, hoI2⟩ : ∃ oI, h₁.get? s.heap.objs.size = some oI ∧ True := ⟨_, hst, trivial⟩
    have hIown : (s.heap.objs.size, oI) ∈ own := hall _ (List.mem_cons_self ..) (next_is_new F) oI hoI
    have hsub : ∀ p ∈ own, p = (s.heap.objs.size, oI) := fun p hp => by
      have e := List.mem_singleton.mp (hown p hp)
      have g := hget p hp
      rw [e, hoI] at g
      obtain ⟨pa, po⟩ := p
      cases g
      cases e
      rfl
    have N₂ : News h₀ env.locals h₁ ((s.heap.objs.size, oI) :: news₁) := fun p hp => by
      rcases List.mem_cons.mp hp with rfl | hp
      · exact N₁ _ (List.mem_append_left _ hIown)
      · exact N₁ _ (List.mem_append_right _ hp)
    refine wpAny_mono (step i tv m₁ news₁ h₁ tk₁ _ oI hi hJ (fun p hp e => hoff p hp (by rw [e]; exact List.mem_singleton.mpr rfl)) F₁ N₂) (fun _ s₃ h₃ => wpAny_mono h₃ (fun f s₄ h₄ => ?_) fun _ _ e => e) fun _ _ e => e
    have go : (∃ h' tk' m' news', s₄ = { { s with heap := h₁, toks := tk₁ } with heap := h', toks := tk' } ∧ Fr h₀ env.locals h' m' ∧ News h₀ env.locals h' ((s.heap.objs.size, oI) :: news') ∧ (∀ p ∈ news', p.1 ≠ s.heap.objs.size) ∧ J (i + 1) m' news') →
        LoopStepU h₀ env.locals [s.heap.objs.size] own (J (i + 1)) { s with heap := h₁, toks := tk₁ } .next s₄ := by
      rintro ⟨h', tk', m', news', e, F', N', o', hJ'⟩
      refine ⟨rfl, h', tk', m', news', e, F', ?_, ?_, hJ'⟩
      · intro p hp
        rcases List.mem_append.mp hp with hp | hp
        · rw [hsub p hp]; exact N' _ List.mem_cons_self
        · exact N' _ (List.mem_cons_of_mem _ hp)
      · intro p hp hI
        exact o' p hp (List.mem_singleton.mp hI)
    obtain ⟨rfl, e1, e2, e3, m', news', a1, a2, a3, a4⟩ := h₄
    obtain ⟨hp4, g4, d4, tk4, os4⟩ := s₄
    cases e1; cases e2; cases e3
    exact go ⟨hp4, tk4, m', news', rfl, a1, a2, a3, a4⟩
  · intro h' tk m' news' F' N' _ hJ
    exact fin h' tk m' news' F' N' hJ
end
theorem at_if {M : Model} {A : Around} {E : Value → Shared → Prop} {t : PySem.Expr} {b o : List Stmt} {p : Pos} {env : Env} {Q : Flow → Shared → Prop} (h : wpAny M A (exec (.If t b o p) env) Q E s) : wpAny M A (exec (.If t b o p) env) Q E s := h
theorem at_ifexp {M : Model} {A : Around} {E : Value → Shared → Prop} {t b o : PySem.Expr} {p : Pos} {env : Env} {Q : Value → Shared → Prop} (h : wpAny M A (eval (.IfExp t b o p) env) Q E s) : wpAny M A (eval (.IfExp t b o p) env) Q E s := h
theorem at_ceq {M : Model} {A : Around} {E : Value → Shared → Prop} {a b : Addr} {Q : Value → Shared → Prop} (h : wpAny M A (compareOp .Eq (.ref a) (.ref b)) Q E s) : wpAny M A (compareOp .Eq (.ref a) (.ref b)) Q E s := h
theorem at_cne {M : Model} {A : Around} {E : Value → Shared → Prop} {a b : Addr} {Q : Value → Shared → Prop} (h : wpAny M A (compareOp .NotEq (.ref a) (.ref b)) Q E s) : wpAny M A (compareOp .NotEq (.ref a) (.ref b)) Q E s := h
end
section
-- Q41
example : True := by
  w_top off
  trivial
noncomputable abbrev SV (a0 a1 a2 a3 a4 a5 a6 a7 b0 b1 b2 b3 b4 b5 b6 b7 : Tok) : List (Value × Value) := [(Value.str (Str.ofString "R") a0, Value.str (Str.ofString "group") b0), (Value.str (Str.ofString "AL") a1, Value.str (Str.ofString "alphabetic") b1), (Value.str (Str.ofString "AN") a2, Value.str (Str.ofString "alphanumeric") b2), (Value.str (Str.ofString "AE") a3, Value.str (Str.ofString "alnum-edited") b3), (Value.str (Str.ofString "NU") a4, Value.str (Str.ofString "numeric") b4), (Value.str (Str.ofString "NE") a5, Value.str (Str.ofString "edited") b5), (Value.str (Str.ofString "IX") a6, Value.str (Str.ofString "index") b6), (Value.str (Str.ofString "T-I") a7, Value.str (Str.ofString "index") b7)]
theorem lsorts_spec (X : (hd.heap_39 w.params).In s.heap) (T : Top V LS mean mg mb s.heap) (hdp : dp + 2 < 900) (hun : un + 20 < 9000)
    (hQ : ∀ r o a0 a1 a2 a3 a4 a5 a6 a7 b0 b1 b2 b3 b4 b5 b6 b7 h' tk, Ext s.heap h' → h'.get? r = some o → s.heap.get? r = none → (r == sysModules) = false → o.IsDictOf (PySem.strKind PySem.Challenge.rw_og0093_01.row.prog w) (strPairs (SV a0 a1 a2 a3 a4 a5 a6 a7 b0 b1 b2 b3 b4 b5 b6 b7)) →
      PyProof.V.FlatPairs PyData.str (strPairs (SV a0 a1 a2 a3 a4 a5 a6 a7 b0 b1 b2 b3 b4 b5 b6 b7)) (strData (SV a0 a1 a2 a3 a4 a5 a6 a7 b0 b1 b2 b3 b4 b5 b6 b7)) → Q (.ref r) { s with heap := h', toks := tk }) :
    wpAny (model PySem.Challenge.rw_og0093_01.row.prog w) (AT hh dp fr gd un) (call (.ref 365) []) Q E s := by
  ((refine wpAny_call ?_; k_dflt (refine' code0 ?k19 ?k59 ?k69 ?k79 ?k89 ?k99 ?kB9 ?_ ?c29 ?c39 ?c49 ?c59; (case k19 => k_asm); (case k59 => k_asm); (case k69 => k_is); (case k79 => k_is); (case k89 => (simp only [recursionLimit]; omega)); (case k99 => first | exact BindsTo.of_eq rfl | exact binds_K (by k_in) rfl (by k_is) rfl rfl rfl); (case c59 => decide); (case kB9 => exact locs rfl); (case c29 => exact rfl); (case c39 => exact rfl); (case c49 => exact rfl); k_whole; intro L'9 h'9 F'9 N'9 X'9 T'9; (try dsimp only); (try k_fold))))
  k_steps
  rename Fr _ _ _ _ => F9
  rename News _ _ _ _ => N9
  rename Obj.IsDictOf _ _ (strPairs _) => xd
  rename PyProof.V.FlatPairs _ _ _ => xf
  exact hQ _ _ _ _ _ _ _ _ _ _ _ _ _ _ _ _ _ _ _ _ F9.keep (N9.get (.head _)) (N9.fresh (.head _)) (by assumption) xd xf
end
section
-- QM
example : True := by
  w_top off
  trivial
theorem num_due {nm : Str} (hm : nm ∈ lawNames) : dueOf nm [Str.ofString "numeric"] (kcOf nm) = if (nm == Str.ofString "NU") = true then [] else [nm] := by
  simp only [List.mem_cons, List.not_mem_nil, or_false] at hm
  rcases hm with rfl | rfl | rfl | rfl | rfl | rfl | rfl | rfl | rfl <;> decide
theorem ifx_join {M : Model} {A : Around} {e : PySem.Expr} {env : Env} {b : Heap} {L : Addr} {m : Str → Option Value} {Q : Value → Shared → Prop} (F : Fr b L s.heap m) (h1 : wpAny M A (eval e env) (fun v s' => Hold (∃ cl its nn ns h' tk, v = .ref cl ∧ s' = { s with heap := h', toks := tk } ∧ Fr b L h' m ∧ News b L h' [(cl, listOf its nn)] ∧ IntsAre its.toList ns ∧ 0 < ns.length ∧ ns.length ≤ 100)) E s)
    (h2 : ∀ cl its nn ns h' tk, Fr b L h' m → News b L h' [(cl, listOf its nn)] → IntsAre its.toList ns → 0 < ns.length → ns.length ≤ 100 → Q (.ref cl) { s with heap := h', toks := tk }) : wpAny M A (eval e env) Q E s := by
  refine wpAny_mono h1 (fun v s' h => ?_) fun _ _ h => h
  obtain ⟨cl, its, nn, ns, h', tk, rfl, rfl, a, b, c, d, e⟩ := h
  exact h2 cl its nn ns h' tk a b c d e
theorem pick_ref {prog : Program} {A : Around} {value slice : PySem.Expr} {t : Addr} {u : Tok} {k : Int} {items : List Value} {Q : Value → Shared → Prop} (ht : s.heap.IsTuple t items.toArray) (h0 : 0 ≤ k) (h1 : k < items.length) (h2 : k < 1000)
    (h : ∀ v, v ∈ items → Q v s) (hs : subscripted slice false (.ref t) (.int k u) = operate [.ref t, .int k u] (getItem (.ref t) (.int k u))) : wpAny (model prog w) A (subscriptTail value slice (.ref t) (.int k u)) Q E s := by
  have hk : k.toNat < items.length := by omega
  refine item_tupleT ht (Int.le_trans (by decide) h0) (by omega) (j := k.toNat) ?_ (List.getElem?_eq_getElem hk) (h _ (List.getElem_mem hk)) hs
  have e1 : ¬ (k < 0) := by omega
  have e2 : (decide (0 ≤ k) && decide (k < (items.length : Int))) = true := by simp; omega
  unfold seqIndex?
  simp only [e1, if_false, e2, if_true]
noncomputable abbrev sortsL : List (List Str) := [[Str.ofString "numeric"], [Str.ofString "numeric", Str.ofString "edited"], [Str.ofString "index", Str.ofString "numeric"], [Str.ofString "group"]]
theorem pick_led {b h : Heap} {L src : Addr} {os : Obj} {all sn : List (Addr × Obj)} {c : Addr × Obj} (N : News b L h all) (hs : (src, os) ∈ all) (hsn : ∀ p ∈ sn, p ∈ all) (hc : c ∈ all) : News b L h ((src, os) :: c :: sn) := newsDrop N fun p hp => by
  rcases List.mem_cons.mp hp with rfl | hp
  · exact hs
  rcases List.mem_cons.mp hp with rfl | hp
  · exact hc
  · exact hsn p hp
theorem sort_pick {b h : Heap} {L src D0 D1 D2 D3 D4 : Addr} {os : Obj} {n0 n1 n2 n3 n4 : Nat} {t1 t2 t3 t4 t5 t6 : Tok} {x5 x6 : Addr × Obj} {sn : List (Addr × Obj)}
    (N : News b L h ((D0, tupOf #[.ref D4, .ref D3, .ref D2, .ref D1] n0) :: (D1, tupOf #[.str (Str.ofString "group") t1] n1) :: (D2, tupOf #[.str (Str.ofString "index") t2, .str (Str.ofString "numeric") t3] n2) :: (D3, tupOf #[.str (Str.ofString "numeric") t4, .str (Str.ofString "edited") t5] n3) :: (D4, tupOf #[.str (Str.ofString "numeric") t6] n4) :: x5 :: x6 :: (src, os) :: sn))
    (h1 : src ≠ D1) (h2 : src ≠ D2) (h3 : src ≠ D3) (h4 : src ≠ D4) :
    ∀ v ∈ [Value.ref D4, .ref D3, .ref D2, .ref D1], ∃ cs items n cats, v = .ref cs ∧ News b L h ((src, os) :: (cs, tupOf (List.toArray items) n) :: sn) ∧ cs ≠ src ∧ StrsAre items cats ∧ cats ∈ sortsL := by
  intro v hv
  simp only [List.mem_cons, List.not_mem_nil, or_false] at hv
  have g := fun {c : Addr × Obj} hc => pick_led (c := c) N (.tail _ (.tail _ (.tail _ (.tail _ (.tail _ (.tail _ (.tail _ (.head _)))))))) (fun p hp => .tail _ (.tail _ (.tail _ (.tail _ (.tail _ (.tail _ (.tail _ (.tail _ hp)))))))) hc
  rcases hv with rfl | rfl | rfl | rfl
  · exact ⟨_, [_], _, _, rfl, g (.tail _ (.tail _ (.tail _ (.tail _ (.head _))))), Ne.symm h4, .cons _ _ .nil, .head _⟩
  · exact ⟨_, [_, _], _, _, rfl, g (.tail _ (.tail _ (.tail _ (.head _)))), Ne.symm h3, .cons _ _ (.cons _ _ .nil), .tail _ (.head _)⟩
  · exact ⟨_, [_, _], _, _, rfl, g (.tail _ (.tail _ (.head _))), Ne.symm h2, .cons _ _ (.cons _ _ .nil), .tail _ (.tail _ (.head _))⟩
  · exact ⟨_, [_], _, _, rfl, g (.tail _ (.head _)), Ne.symm h1, .cons _ _ .nil, .tail _ (.tail _ (.tail _ (.head _)))⟩
theorem dueOf_len {nm : Str} {cats : List Str} {k : Option Str} : (dueOf nm cats k).length ≤ 16 := by
  unfold dueOf
  split
  · split <;> simp
  · simp
theorem sorts_get (g : Heap) {v : Value} {nm : Str} {a0 a1 a2 a3 a4 a5 a6 a7 b0 b1 b2 b3 b4 b5 b6 b7 : Tok} (hm : nm ∈ lawNames) (h : PyProof.V.Flat v ((Spec.lookup (PyData.str nm) (strData [(Value.str (Str.ofString "R") a0, Value.str (Str.ofString "group") b0), (Value.str (Str.ofString "AL") a1, Value.str (Str.ofString "alphabetic") b1), (Value.str (Str.ofString "AN") a2, Value.str (Str.ofString "alphanumeric") b2), (Value.str (Str.ofString "AE") a3, Value.str (Str.ofString "alnum-edited") b3), (Value.str (Str.ofString "NU") a4, Value.str (Str.ofString "numeric") b4), (Value.str (Str.ofString "NE") a5, Value.str (Str.ofString "edited") b5), (Value.str (Str.ofString "IX") a6, Value.str (Str.ofString "index") b6), (Value.str (Str.ofString "T-I") a7, Value.str (Str.ofString "index") b7)])).getD (PyData.str (Str.ofString "")))) : ∃ t, v = .str ((kcOf nm).getD (Str.ofString "")) t := by
  have key : ∀ {c : Str}, PyProof.V.Flat v (PyData.str c) → ∃ t, v = .str c t := fun h => by cases h g; exact ⟨_, rfl⟩
  simp only [List.mem_cons, List.not_mem_nil, or_false] at hm
  rcases hm with rfl | rfl | rfl | rfl | rfl | rfl | rfl | rfl | rfl
  · exact key (c := Str.ofString "group") h
  · exact key (c := Str.ofString "alphabetic") h
  · exact key (c := Str.ofString "alphanumeric") h
  · exact key (c := Str.ofString "alnum-edited") h
  · exact key (c := Str.ofString "numeric") h
  · exact key (c := Str.ofString "edited") h
  · exact key (c := Str.ofString "index") h
  · exact key (c := Str.ofString "index") h
  · exact key (c := Str.ofString "") h
theorem due_some {nm : Str} {cats : List Str} (hm : nm ∈ lawNames) (hc : cats ∈ sortsL) : dueOf nm cats (kcOf nm) = if (cats.any fun x => x == (kcOf nm).getD (Str.ofString "")) = true then [] else [nm] := by
  cases h : kcOf nm with
  | some c => rfl
  | none =>
    have : (cats.any fun x => x == (none : Option Str).getD (Str.ofString "")) = false := by
      simp only [List.mem_cons, List.not_mem_nil, or_false] at hc
      rcases hc with rfl | rfl | rfl | rfl <;> decide
    rw [this]; rfl
theorem ify_join {M : Model} {A : Around} {e : PySem.Expr} {env : Env} {b : Heap} {L : Addr} {m : Str → Option Value} {news : List (Addr × Obj)} {due : List Str} {Q : Value → Shared → Prop} (F : Fr b L s.heap m) (N : News b L s.heap news)
    (h1 : wpAny M A (eval e env) (fun v s' => Hold (∃ l vs n h' tk, v = .ref l ∧ s' = { s with heap := h', toks := tk } ∧ Fr b L h' m ∧ News b L h' ((l, listOf (List.toArray vs) n) :: news) ∧ StrsAre vs due)) E s)
    (h2 : ∀ l vs n h' tk, Fr b L h' m → News b L h' ((l, listOf (List.toArray vs) n) :: news) → StrsAre vs due → Q (.ref l) { s with heap := h', toks := tk }) : wpAny M A (eval e env) Q E s := by
  refine wpAny_mono h1 (fun v s' h => ?_) fun _ _ h => h
  obtain ⟨l, vs, n, h', tk, rfl, rfl, a, b, c⟩ := h
  exact h2 l vs n h' tk a b c
theorem allLt_ne {d : Nat} : ∀ {l : List (Addr × Obj)}, AllLt d l → ∀ p ∈ l, p.1 ≠ d
  | [], _, p, hp => nomatch hp
  | q :: r, h, p, hp => by
    rcases List.mem_cons.mp hp with rfl | hp
    · exact Nat.ne_of_lt h.1
    · exact allLt_ne h.2 p hp
theorem for_gen2 {M : Model} {A : Around} {tgt iter : PySem.Expr} {body : List Stmt} {pos : Pos} {env : Env} {Q : Flow → Shared → Prop} (h : ∀ tg it bd, tg = tgt → it = iter → bd = body → wpAny M A (exec (.For tg it bd [] pos) env) Q E s) : wpAny M A (exec (.For tgt iter body [] pos) env) Q E s := h _ _ _ rfl rfl rfl
inductive RwL (P : Addr → Obj → Prop) : List Value → List Str → Prop
  | nil : RwL P [] []
  | snoc {vs : List Value} {due : List Str} {row o : Addr} {nm way : Str} {t t0 t1 : Tok} {n k : Nat} : RwL P vs due → P row (tupOf #[.ref o, .bool false, .str way t] n) → P o (tupOf #[.str (Str.ofString "ref") t0, .str nm t1, .ref 389, .ref 388, .none] k) → nm ∈ lawNames →
      RwL P (vs ++ [Value.ref row]) (due ++ dueOf nm (if (way == Str.ofString "=") = true then [Str.ofString "numeric", Str.ofString "edited"] else [Str.ofString "numeric"]) (kcOf nm))
theorem RwL.mono {P P' : Addr → Obj → Prop} {vs : List Value} {due : List Str} (x : RwL P vs due) (h : ∀ a o, P a o → P' a o) : RwL P' vs due := by
  induction x with
  | nil => exact .nil
  | snoc _ a b c ih => exact .snoc ih (h _ _ a) (h _ _ b) c
theorem rw_app {a : Ad} {g : Heap} {vs vs' : List Value} {d d' : List Str} (x : Rw w a g vs d) (y : Rw w a g vs' d') : Rw w a g (vs ++ vs') (d ++ d') := by
  induction x with
  | nil => exact y
  | cons h p _ ih => rw [List.append_assoc]; exact .cons h p ih
theorem rw_of {a : Ad} {g : Heap} (X : (hd.heap_39 w.params).In g) (T : Top V LS mean mg mb g) (D : Dat w g a) {vs : List Value} {due : List Str} (x : RwL (fun a o => g.get? a = some o) vs due) : Rw w a g vs due := by
  induction x with
  | nil => exact .nil
  | snoc _ h1 h2 h3 ih =>
    have z := Rw.cons h1 (pk_of X T D h2 h3) (Rw.nil (w := w) (a := a) (g := g))
    rw [List.append_nil] at z
    exact rw_app ih z
noncomputable def JL (cl src rwl d o : Addr) (nm : Str) (tn : Tok) (snE : List (Addr × Obj)) (due : List Str) (i : Nat) (m : Str → Option Value) (nw : List (Addr × Obj)) : Prop :=
  m (Str.ofString "data") = some (.ref d) ∧ m (Str.ofString "expr") = some (.ref o) ∧ m (Str.ofString "name") = some (.str nm tn) ∧ m (Str.ofString "source") = some (.ref src) ∧ m (Str.ofString "rows") = some (.ref rwl) ∧
  ∃ (rs : List Value) (kr : Nat) (atj : Int) (tj : Tok) (nj : Nat) (snR : List (Addr × Obj)) (f2 : Addr) (its5 : List Value) (k5 : Nat) (dueR : List Str),
    m (Str.ofString "due") = some (.ref f2) ∧ nw = (rwl, listOf rs.toArray kr) :: (src, listOf #[.ref cl, .int atj tj] nj) :: snR ∧ (∀ p ∈ snE, p ∈ snR) ∧ (∀ p ∈ snR, p.1 ≠ src) ∧ (∀ p ∈ snR, p.1 ≠ rwl) ∧ 0 ≤ atj ∧ atj ≤ 300 + 2 * (i : Int) ∧ rs.length = i ∧
      (f2, listOf its5.toArray k5) ∈ snR ∧ StrsAre its5 (due ++ dueR) ∧ dueR.length ≤ i ∧ RwL (fun a o => (a, o) ∈ snR) rs dueR
theorem row_names {b h : Heap} {L x y : Addr} {o1 o2 : Obj} {r : List (Addr × Obj)} (N : News b L h ((x, o1) :: (y, o2) :: r)) : ∃ x2 y2, x2 = x ∧ y2 = y := ⟨_, _, rfl, rfl⟩
theorem way_name {b h : Heap} {L : Addr} {x : Str} {k : Int} {t : Tok} {r : Str → Option Value} (F : Fr b L h (fun y => if y = Str.ofString "way" then some (Value.str (Txt.item x k) t) else r y)) : ∃ k2, k2 = k := ⟨_, rfl⟩
noncomputable def TEndN (h₀ : Heap) (L : Addr) (s : Shared) (I : Addr) (oI : Obj) (J : (Str → Option Value) → List (Addr × Obj) → Prop) (s' : Shared) : Prop :=
  ∃ h' tk' m' news', s' = { s with heap := h', toks := tk' } ∧ Fr h₀ L h' m' ∧ News h₀ L h' ((I, oI) :: news') ∧ (∀ p ∈ news', p.1 ≠ I) ∧ J m' news'
theorem tend_next {h₀ : Heap} {L L2 : Addr} {s s' : Shared} {I : Addr} {oI : Obj} {J : (Str → Option Value) → List (Addr × Obj) → Prop} {Q : Flow → Shared → Prop} (hL : L = L2) (h : TEndN h₀ L2 s I oI J s') : TEnd h₀ L s I oI J Q .next s' := by
  subst hL; exact h
theorem turn_end {b h : Heap} {L I cl src rwl d o row oR f2 fn : Addr} {oI : Obj} {m : Str → Option Value} {nm gnm way : Str} {tn tw tq t0 t1 : Tok} {snE snR xs : List (Addr × Obj)} {due dueR D : List Str} {i kr nr nq nk kn : Nat} {rs itsN : List Value} {atj : Int} {g g9 : Array GenState} {dd d9 : Drawn} {os o9 : OsState} {tk : Nat}
    (hs1 : g9 = g) (hs2 : d9 = dd) (hs3 : o9 = os) (F : Fr b L h m) (N : News b L h (xs ++ ((row, tupOf #[.ref oR, .bool false, .str way tw] nr) :: (oR, tupOf #[.str (Str.ofString "ref") t0, .str gnm t1, .ref 389, .ref 388, .none] nk) :: (I, oI) :: (rwl, listOf (rs ++ [Value.ref row]).toArray (kr + 1)) :: (src, listOf #[.ref cl, .int atj tq] nq) :: snR)))
    (hm1 : m (Str.ofString "data") = some (.ref d)) (hm2 : m (Str.ofString "expr") = some (.ref o)) (hm3 : m (Str.ofString "name") = some (.str nm tn)) (hm4 : m (Str.ofString "source") = some (.ref src)) (hm5 : m (Str.ofString "rows") = some (.ref rwl)) (hm6 : m (Str.ofString "due") = some (.ref fn))
    (sR : ∀ p ∈ snE, p ∈ snR) (apR1 : ∀ p ∈ snR, p.1 ≠ src) (apR2 : ∀ p ∈ snR, p.1 ≠ rwl) (hI1 : rwl ≠ I) (hI2 : src ≠ I) (hI3 : ∀ p ∈ snR, p.1 ≠ I) (ha1 : 0 ≤ atj) (ha2 : atj ≤ 300 + 2 * ((i + 1 : Nat) : Int)) (hrl : rs.length = i) (hdR : dueR.length ≤ i) (rw' : RwL (fun a o => (a, o) ∈ snR) rs dueR)
    (hg : gnm ∈ lawNames) (hD : D = dueOf gnm (if (way == Str.ofString "=") = true then [Str.ofString "numeric", Str.ofString "edited"] else [Str.ofString "numeric"]) (kcOf gnm)) (hDl : D.length ≤ 1)
    (hrow : row ≠ src ∧ row ≠ rwl ∧ row ≠ I) (hoR : oR ≠ src ∧ oR ≠ rwl ∧ oR ≠ I) (hxs : ∀ p ∈ xs, p.1 ≠ src ∧ p.1 ≠ rwl ∧ p.1 ≠ I) (mfn : (fn, listOf itsN.toArray kn) ∈ xs ++ snR) (saN : StrsAre itsN (due ++ (dueR ++ D))) :
    TEndF b L g dd os I oI (JL cl src rwl d o nm tn snE due (i + 1)) .next ⟨h, g9, d9, tk, o9⟩ := by
  have hsub : ∀ p ∈ snR, p ∈ xs ++ ((row, tupOf #[.ref oR, .bool false, .str way tw] nr) :: (oR, tupOf #[.str (Str.ofString "ref") t0, .str gnm t1, .ref 389, .ref 388, .none] nk) :: snR) := fun p hp => List.mem_append_right _ (.tail _ (.tail _ hp))
  have hall : ∀ p ∈ xs ++ ((row, tupOf #[.ref oR, .bool false, .str way tw] nr) :: (oR, tupOf #[.str (Str.ofString "ref") t0, .str gnm t1, .ref 389, .ref 388, .none] nk) :: snR), p.1 ≠ src ∧ p.1 ≠ rwl ∧ p.1 ≠ I := fun p hp => by
    rcases List.mem_append.mp hp with hp | hp
    · exact hxs p hp
    rcases List.mem_cons.mp hp with rfl | hp
    · exact hrow
    rcases List.mem_cons.mp hp with rfl | hp
    · exact hoR
    · exact ⟨apR1 p hp, apR2 p hp, hI3 p hp⟩
  refine ⟨rfl, hs1, hs2, hs3, m, (rwl, listOf (rs ++ [Value.ref row]).toArray (kr + 1)) :: (src, listOf #[.ref cl, .int atj tq] nq) :: (xs ++ ((row, tupOf #[.ref oR, .bool false, .str way tw] nr) :: (oR, tupOf #[.str (Str.ofString "ref") t0, .str gnm t1, .ref 389, .ref 388, .none] nk) :: snR)), F, newsDrop N fun p hp => ?_, fun p hp => ?_, hm1, hm2, hm3, hm4, hm5,
    rs ++ [Value.ref row], kr + 1, atj, tq, nq, _, fn, itsN, kn, dueR ++ D, hm6, rfl, fun p hp => hsub _ (sR p hp), fun p hp => (hall p hp).1, fun p hp => (hall p hp).2.1, ha1, ha2, by rw [List.length_append, hrl]; rfl, ?_, saN, ?_, ?_⟩
  · rcases List.mem_cons.mp hp with rfl | hp
    · exact List.mem_append_right _ (.tail _ (.tail _ (.head _)))
    rcases List.mem_cons.mp hp with rfl | hp
    · exact List.mem_append_right _ (.tail _ (.tail _ (.tail _ (.head _))))
    rcases List.mem_cons.mp hp with rfl | hp
    · exact List.mem_append_right _ (.tail _ (.tail _ (.tail _ (.tail _ (.head _)))))
    rcases List.mem_append.mp hp with hp | hp
    · exact List.mem_append_left _ hp
    rcases List.mem_cons.mp hp with rfl | hp
    · exact List.mem_append_right _ (.head _)
    rcases List.mem_cons.mp hp with rfl | hp
    · exact List.mem_append_right _ (.tail _ (.head _))
    · exact List.mem_append_right _ (.tail _ (.tail _ (.tail _ (.tail _ (.tail _ hp)))))
  · rcases List.mem_cons.mp hp with rfl | hp
    · exact hI1
    rcases List.mem_cons.mp hp with rfl | hp
    · exact hI2
    · exact (hall p hp).2.2
  · rcases List.mem_append.mp mfn with hp | hp
    · exact List.mem_append_left _ hp
    · exact hsub _ hp
  · rw [List.length_append]; omega
  · rw [hD]
    exact .snoc (rw'.mono fun a o z => hsub _ z) (List.mem_append_right _ (.head _)) (List.mem_append_right _ (.tail _ (.head _))) hg
theorem goal_in {g : Str} (h : g ∈ [Str.ofString "NU", Str.ofString "NE", Str.ofString "AN", Str.ofString "NO"]) : g ∈ lawNames := by
  simp only [List.mem_cons, List.not_mem_nil, or_false] at h ⊢
  rcases h with rfl | rfl | rfl | rfl <;> simp
section
theorem hd_for {M : Model} {A : Around} {E : Value → Shared → Prop} {s : Shared} {t i : PySem.Expr} {b o : List Stmt} {p : Pos} {env : Env} {Q : Flow → Shared → Prop} (h : Hold (wpAny M A (exec (.For t i b o p) env) Q E s)) : wpAny M A (exec (.For t i b o p) env) Q E s := h
theorem hd_if {M : Model} {A : Around} {E : Value → Shared → Prop} {t : PySem.Expr} {b o : List Stmt} {p : Pos} {env : Env} {Q : Flow → Shared → Prop} (h : Hold (wpAny M A (exec (.If t b o p) env) Q E s)) : wpAny M A (exec (.If t b o p) env) Q E s := h
theorem hd_ifexp {M : Model} {A : Around} {E : Value → Shared → Prop} {t b o : PySem.Expr} {p : Pos} {env : Env} {Q : Value → Shared → Prop} (h : Hold (wpAny M A (eval (.IfExp t b o p) env) Q E s)) : wpAny M A (eval (.IfExp t b o p) env) Q E s := h
theorem hd_iter {M : Model} {A : Around} {E : Value → Shared → Prop} {s : Shared} {a : Addr} {Q : Value → Shared → Prop} (h : Hold (wpAny M A (pyIter (.ref a)) Q E s)) : wpAny M A (pyIter (.ref a)) Q E s := h
theorem hd_app {M : Model} {A : Around} {E : Value → Shared → Prop} {s : Shared} {x : List Value} {k : List (Str × Value)} {Q : Value → Shared → Prop} (h : Hold (wpAny M A (call (.builtin "list.append") x k) Q E s)) : wpAny M A (call (.builtin "list.append") x k) Q E s := h
theorem hd_ceq {M : Model} {A : Around} {E : Value → Shared → Prop} {a b : Addr} {Q : Value → Shared → Prop} (h : Hold (wpAny M A (compareOp .Eq (.ref a) (.ref b)) Q E s)) : wpAny M A (compareOp .Eq (.ref a) (.ref b)) Q E s := h
theorem hd_cne {M : Model} {A : Around} {E : Value → Shared → Prop} {a b : Addr} {Q : Value → Shared → Prop} (h : Hold (wpAny M A (compareOp .NotEq (.ref a) (.ref b)) Q E s)) : wpAny M A (compareOp .NotEq (.ref a) (.ref b)) Q E s := h
local macro_rules | `(tactic| k_all) => `(tactic| first | assumption | ((simp only [List.forall_mem_cons, List.not_mem_nil, false_imp_iff, implies_true, and_true]); (repeat' (first | (refine And.intro ?_ ?_) | assumption | (refine Ne.symm ?_; assumption) | k_ne))))
local macro_rules | `(tactic| walk_at "CompSrc") => `(tactic| (k_here; (rename (Nat → Nat → True) => zz); with_reducible refine hold ?_))
local macro_rules | `(tactic| walk_at "CompRest") => `(tactic| ((rename (Nat → Nat → True) => zz); with_reducible refine hold ?_))
local macro_rules | `(tactic| walk_at "CompEnd") => `(tactic| ((rename (Nat → Nat → True) => zz); with_reducible refine hold ?_))
theorem src_name {b h : Heap} {L src : Addr} {o1 : Obj} {r : List (Addr × Obj)} (N : News b L h ((src, o1) :: r)) : ∃ s2, s2 = src := ⟨_, rfl⟩
theorem prm_at {P : Addr → Obj → Prop} {ps : List Addr} {due : List Str} (x : PrM P ps due) : ∀ {i : Nat} {v : Value}, ((ps.map Value.ref).toArray)[i]? = some v → ∃ p nm wh t n, v = .ref p ∧ P p (tupOf #[wh, .str nm t] n) ∧ due[i]? = some nm := by
  induction x with
  | nil => intro i v h; simp at h
  | @cons p nm ps due y _ ih =>
    intro i v h
    cases i with
    | zero =>
      obtain ⟨wh, t, n, q⟩ := y
      have h : some (Value.ref p) = some v := by simpa using h
      exact ⟨p, nm, wh, t, n, (Option.some.inj h).symm, q, rfl⟩
    | succ i =>
      obtain ⟨p2, nm2, wh, t, n, a, b, c⟩ := ih (i := i) (v := v) (by simpa using h)
      exact ⟨p2, nm2, wh, t, n, a, b, by simpa using c⟩
theorem sa_snoc {v : List Value} {due : List Str} {i : Nat} {nm : Str} {t : Tok} (x : StrsAre v (due.take i)) (h : due[i]? = some nm) : StrsAre (v ++ [.str nm t]) (due.take (i + 1)) := by
  rw [List.take_succ, h]
  exact sa_app x (.cons _ _ .nil)
theorem sa_whole {v : List Value} {due : List Str} {ps : List Addr} (hl : ps.length = due.length) (x : StrsAre v (due.take (ps.map Value.ref).toArray.size)) : StrsAre v due := by
  have e : due.take (ps.map Value.ref).toArray.size = due := by rw [List.size_toArray, List.length_map, hl, List.take_length]
  rwa [e] at x
theorem ite_ff {P R : Prop} (h : R) : (if false = true then P else R) := by rw [if_neg Bool.false_ne_true]; exact h
theorem ite_tt {P R : Prop} (h : P) : (if true = true then P else R) := by rw [if_pos rfl]; exact h
theorem fr_heap {b h : Heap} {L : Addr} {m : Str → Option Value} (F : Fr b L h m) : ∃ h2, h2 = h := ⟨_, rfl⟩
theorem law_u {env : Env} : (callerA.deeper env).units < cLine := by rw [units_deeper, units_caller, cLine_is]; decide
theorem law_holds : PySem.Challenge.rw_og0093_01.Holds := by
  w_on
  refine law_open ?_
  k_fill
  intro w9z s₀9z s₁9z mg9z mb9z G9z Y9z fa9z o9z pm9z cd9z doc9z dV9z kV9z ho9z hd9z hcd9z hD9z hmg9z hg9z args9z vals9z as9z hpre9z hlay9z hrd9z hwl9z hlo9z
  have KX9z := kIn_of Y9z
  refine Ground.open G9z ?_
  intro T9z B9z D9z TE9z TW9z
  try (refine guard_noD D9z (by decide +kernel) ?_; clear D9z)
  obtain ⟨_, _, M9z⟩ := bmod_of_top T9z
  have TA9z := at_of_top T9z
  try (obtain ⟨_, _, he9z, B09z⟩ := based_of_top T9z rfl hmg9z ho9z hd9z; have hep9z : cd9z = _ := he9z; subst hep9z; clear he9z)
  clear hmg9z
  wrow_args hpre9z hlay9z hrd9z hwl9z hlo9z
  all_goals (
    first | refine callC_kw (enter_call ?_) | refine enter_call ?_ | refine callC_kw (enter_callW ?_) | refine enter_callW ?_ | w_how
    w_top on
    try refine codeAny_mono ?_ (fun _ _ g => GoodW.toG g)
    have K09z := below_caller (Top.heap T9z)
    w_call any ho9z hd9z hcd9z hD9z T9z F9z
    clear hd9z TA9z
    k_drop
    skip)
  (show wpAny _ _ _ _ _ _); k_fold
  try clear GL9z
  try clear B9z
  try clear TE9z
  try clear TW9z
  try clear M9z
  try clear V9z
  try clear X9z
  try clear K09z
  try clear Y9z
  try clear G9z
  try clear hcd9z
  try clear hD9z
  try clear ho9z
  try clear said9z
  (repeat' (first | wtm_at "s1" | ((fail_if_success (rename (Nat → True) => zz)); with_reducible refine hd_ifexp ?_) | ((rename (Nat → Nat → Nat → True) => zz); (fail_if_success (rename (_ == Str.ofString "=") = _ => zz9)); with_reducible refine hd_if ?_) | ((rename (Nat → Nat → True) => zz); with_reducible refine hd_app ?_) | ((rename (Nat → Nat → True) => zz); with_reducible refine hd_iter ?_) | (with_reducible refine hd_for ?_) | ((fail_if_success fail_if_success with_reducible refine at_sub ?_); (first | ((with_reducible show wpAny _ _ (subscriptTail _ _ (Value.ref _) (Value.int _ _)) _ _ _); (rename (Nat → Nat → True) => zz); with_reducible refine hold ?_) | ((with_reducible show wpAny _ _ (subscriptTail _ _ (Value.ref _) (Value.int 1 _)) _ _ _); refine tup_at1 (News.isTup (by k_asm) (by k_mem)) ?_ (by with_unfolding_all rfl)))) | (with_reducible refine hd_ceq ?_) | (with_reducible refine hd_cne ?_) | first | with_reducible refine ite_ff ?_ | with_reducible refine ite_tt ?_ | ((fail_if_success fail_if_success with_reducible refine at_call ?_); (first | (with_reducible refine hold_at 314 ?_) | (with_reducible refine hold_at 321 ?_) | (with_reducible refine hold_at 307 ?_) | (with_reducible refine hold_at 293 ?_) | (with_reducible refine hold_at 411 ?_) | (with_reducible refine hold_at 387 ?_))) | ((fail_if_success fail_if_success with_reducible refine at_name ?_); (k_dflt (refine' ld ?k19 ?k29 ?_; (case k19 => k_asm); (case k29 => first | assumption | ((repeat rw [if_neg (by decide)]); assumption)); k_whole))) | wtm_at "s2"))
  unfold Hold
  rename Fr _ _ _ _ => F0
  rename News _ _ _ _ => N0
  refine ifx_join F0 ?w ?r
  (case w =>
    have zz : Nat → True := fun _ => trivial
    (repeat' (first | wtm_at "s1" | ((fail_if_success (rename (Nat → True) => zz)); with_reducible refine hd_ifexp ?_) | ((fail_if_success fail_if_success with_reducible refine at_call ?_); (first | (with_reducible refine hold_at 314 ?_) | (with_reducible refine hold_at 321 ?_) | (with_reducible refine hold_at 307 ?_) | (with_reducible refine hold_at 293 ?_) | (with_reducible refine hold_at 411 ?_) | (with_reducible refine hold_at 387 ?_) | ((with_reducible show wpAny _ _ (call (Value.ref 397) [_]) _ _ _); k_dflt (refine' ref1_spec ?sX9 ?sT9 ?sd9 ?su9 ?_; (case sX9 => k_in); (case sT9 => wtm_at "T"); (case sd9 => first | decide | (simp only [depth_deeper, depth_caller]; first | decide | omega)); (case su9 => first | decide | (simp only [units_deeper, units_caller]; first | decide | omega)); k_whole); intro o'9 t0'9 n'9 h'9 tk'9 hE'9 ho'9 hr'9; wtm_at "PA") | ((with_reducible show wpAny _ _ (call (Value.ref 372) _) _ _ _); k_dflt (refine' draw_law ?sF9 ?sN9 ?sX9 ?sT9 ?sm9 ?sc9 ?hcs9 ?hI9 ?h09 ?h19 ?U9 ?sd9 ?su9 ?b19 ?b29 ?b39 ?b49 ?_; (case sF9 => k_asm); (case sN9 => k_asm); (case sX9 => assumption); (case sT9 => assumption); (case sm9 => k_mem); (case sc9 => k_mem); (case hcs9 => assumption); (case hI9 => assumption); (case h09 => assumption); (case h19 => assumption); (case U9 => (intro t9 n9; k_upd)); (case sd9 => first | decide | (simp only [depth_deeper, depth_caller]; first | decide | omega)); (case su9 => first | decide | (simp only [units_deeper, units_caller]; first | decide | omega)); (case b19 => omega); (case b29 => omega); (case b39 => decide); (case b49 => decide); k_whole); intro k'9 h'9 tk'9 tk2'9 t2'9 n2'9 hk0'9 hk1'9 F'9 N'9; (try k_sweep)))) | ((rename (Nat → Nat → Nat → True) => zz); (fail_if_success (rename (_ == Str.ofString "=") = _ => zz9)); with_reducible refine hd_if ?_) | ((rename (Nat → Nat → True) => zz); with_reducible refine hd_app ?_) | ((rename (Nat → Nat → True) => zz); with_reducible refine hd_iter ?_) | (with_reducible refine hd_for ?_) | ((fail_if_success fail_if_success with_reducible refine at_sub ?_); (first | ((with_reducible show wpAny _ _ (subscriptTail _ _ (Value.ref _) (Value.int _ _)) _ _ _); (rename (Nat → Nat → True) => zz); with_reducible refine hold ?_) | ((with_reducible show wpAny _ _ (subscriptTail _ _ (Value.ref _) (Value.int 1 _)) _ _ _); refine tup_at1 (News.isTup (by k_asm) (by k_mem)) ?_ (by with_unfolding_all rfl)))) | (with_reducible refine hd_ceq ?_) | (with_reducible refine hd_cne ?_) | first | with_reducible refine ite_ff ?_ | with_reducible refine ite_tt ?_ | ((fail_if_success fail_if_success with_reducible refine at_name ?_); (k_dflt (refine' ld ?k19 ?k29 ?_; (case k19 => k_asm); (case k29 => first | assumption | ((repeat rw [if_neg (by decide)]); assumption)); k_whole))) | wtm_at "s2"))
    · rename Fr _ _ _ _ => F9
      rename News _ _ _ _ => N9
      rename 0 < _ => hp9
      refine ⟨_, _, _, _, _, _, rfl, rfl, F9, newsDrop N9 (fun p hp => by rw [List.mem_singleton.mp hp]; exact .head _), by assumption, hp9, ?_⟩
      rw [List.length_map, List.length_take]; omega
    · rename Fr _ _ _ _ => F9
      rename News _ _ _ _ => N9
      exact ⟨_, _, _, [0], _, _, rfl, rfl, F9, newsDrop N9 (fun p hp => by rw [List.mem_singleton.mp hp]; exact .head _), .cons _ _ .nil, Nat.zero_lt_one, by decide⟩)
  clear F0 N0
  intro cl its nn ns h' tk F1 N1 hI hn0 hn1
  (repeat' (first | wtm_at "s1" | ((fail_if_success (rename (Nat → True) => zz)); with_reducible refine hd_ifexp ?_) | ((rename (Nat → Nat → Nat → True) => zz); (fail_if_success (rename (_ == Str.ofString "=") = _ => zz9)); with_reducible refine hd_if ?_) | ((rename (Nat → Nat → True) => zz); with_reducible refine hd_app ?_) | ((rename (Nat → Nat → True) => zz); with_reducible refine hd_iter ?_) | (with_reducible refine hd_for ?_) | ((fail_if_success fail_if_success with_reducible refine at_sub ?_); (first | ((with_reducible show wpAny _ _ (subscriptTail _ _ (Value.ref _) (Value.int _ _)) _ _ _); (rename (Nat → Nat → True) => zz); with_reducible refine hold ?_) | ((with_reducible show wpAny _ _ (subscriptTail _ _ (Value.ref _) (Value.int 1 _)) _ _ _); refine tup_at1 (News.isTup (by k_asm) (by k_mem)) ?_ (by with_unfolding_all rfl)))) | (with_reducible refine hd_ceq ?_) | (with_reducible refine hd_cne ?_) | first | with_reducible refine ite_ff ?_ | with_reducible refine ite_tt ?_ | ((fail_if_success fail_if_success with_reducible refine at_call ?_); (first | (with_reducible refine hold_at 314 ?_) | (with_reducible refine hold_at 321 ?_) | (with_reducible refine hold_at 307 ?_) | (with_reducible refine hold_at 293 ?_) | (with_reducible refine hold_at 411 ?_) | (with_reducible refine hold_at 387 ?_))) | ((fail_if_success fail_if_success with_reducible refine at_name ?_); (k_dflt (refine' ld ?k19 ?k29 ?_; (case k19 => k_asm); (case k29 => first | assumption | ((repeat rw [if_neg (by decide)]); assumption)); k_whole))) | wtm_at "s2"))
  unfold Hold
  rename Fr _ _ _ _ => F2
  rename News _ _ _ _ => N2
  rename_i src _ _ h1
  have hcs : cl ≠ src := by k_ne
  refine data_spec (Frag.In.keeps (by assumption) F2.keep) (Top.keeps (by assumption) F2.keep) (by first | decide | (simp only [depth_deeper, depth_caller]; first | decide | omega)) (by first | decide | (simp only [units_deeper, units_caller]; first | decide | omega)) ?_
  intro a h2 tk2 hE D
  have F3 := Fr.keeps F2 hE
  have N3 := newsAddAll F2 N2 hE (ls := snap (freshOf h1 h2)) (fun p hp => fresh_old (snap_of hp))
  have ap0 : ∀ p ∈ snap (freshOf h1 h2), p.1 ≠ src := fun p hp e => by
    have q := (fresh_old (snap_of hp)).2
    rw [e, N2.get (.head _)] at q; cases q
  obtain ⟨sn, hsn⟩ : ∃ sn, sn = (cl, listOf its nn) :: snap (freshOf h1 h2) := ⟨_, rfl⟩
  have N4 := newsDrop (news' := (src, listOf #[.ref cl, .int 0 _] 0) :: sn) N3 (fun p hp => by
    rcases List.mem_cons.mp hp with rfl | hp
    · exact List.mem_append_right _ (.head _)
    rw [hsn] at hp
    rcases List.mem_cons.mp hp with rfl | hp
    · exact List.mem_append_right _ (.tail _ (.head _))
    · exact List.mem_append_left _ hp)
  have ap : ∀ p ∈ sn, p.1 ≠ src := fun p hp => by
    rw [hsn] at hp
    rcases List.mem_cons.mp hp with rfl | hp
    · exact hcs
    · exact ap0 p hp
  have DL : DatL _ a sn := ⟨_, D, fun b o q => by rw [hsn]; exact .tail _ (snap_mem q)⟩
  have hcl : (cl, listOf its nn) ∈ sn := by rw [hsn]; exact .head _
  clear hsn ap0 F2 N2 N3 D hE
  (repeat' (first | wtm_at "s1" | ((fail_if_success (rename (Nat → True) => zz)); with_reducible refine hd_ifexp ?_) | ((rename (Nat → Nat → Nat → True) => zz); (fail_if_success (rename (_ == Str.ofString "=") = _ => zz9)); with_reducible refine hd_if ?_) | ((rename (Nat → Nat → True) => zz); with_reducible refine hd_app ?_) | ((rename (Nat → Nat → True) => zz); with_reducible refine hd_iter ?_) | (with_reducible refine hd_for ?_) | ((with_reducible show wpAny _ _ (exec (Stmt.Assign [_] (Expr.ListComp (Expr.Subscript _ _ _) _ _ _) _) _) _ _ _); k_dflt (refine LCg.Assign_ListComp_U (F₀ := by k_asm) (by rfl) (by with_unfolding_all rfl) (by rfl) (by decide) (by rfl) (by decide) (by rfl) (by rfl) (by rfl) ?_); (try k_dflt lcg_toSrc)) | ((fail_if_success fail_if_success with_reducible refine at_sub ?_); (first | ((with_reducible show wpAny _ _ (subscriptTail _ _ (Value.ref _) (Value.int _ _)) _ _ _); (rename (Nat → Nat → True) => zz); with_reducible refine hold ?_) | ((with_reducible show wpAny _ _ (subscriptTail _ _ (Value.ref _) (Value.int 1 _)) _ _ _); refine tup_at1 (News.isTup (by k_asm) (by k_mem)) ?_ (by with_unfolding_all rfl)))) | (with_reducible refine hd_ceq ?_) | (with_reducible refine hd_cne ?_) | ((with_reducible show wpAny _ _ (eval (Expr.ListComp (Expr.Subscript _ _ _) _ _ _) _) _ _ _); k_dflt (refine LCg.ListComp_U (F₀ := by k_asm) (by rfl) (by decide) (by rfl) (by decide) (by rfl) ?_); (try k_dflt lcg_toSrc)) | first | with_reducible refine ite_ff ?_ | with_reducible refine ite_tt ?_ | ((fail_if_success fail_if_success with_reducible refine at_call ?_); (first | (with_reducible refine hold_at 314 ?_) | (with_reducible refine hold_at 321 ?_) | (with_reducible refine hold_at 307 ?_) | (with_reducible refine hold_at 293 ?_) | (with_reducible refine hold_at 411 ?_) | (with_reducible refine hold_at 387 ?_))) | ((fail_if_success fail_if_success with_reducible refine at_name ?_); (k_dflt (refine' ld ?k19 ?k29 ?_; (case k19 => k_asm); (case k29 => first | assumption | ((repeat rw [if_neg (by decide)]); assumption)); k_whole))) | wtm_at "s2"))
  unfold Hold
  rename Fr _ _ _ _ => F2
  rename News _ _ _ _ => N2
  refine tree_spec 4 _ _ _ _ _ _ _ _ _ (sx_law F2 N2 (by assumption) (by assumption) (.head _) (.tail _ hcl) hcs hI hn0 hn1) (by first | decide | (simp only [depth_deeper, depth_caller]; first | decide | omega)) (by first | decide | (simp only [units_deeper, units_caller]; first | decide | omega)) (Int.le_refl _) (by decide) (by decide) ?_
  intro r h3 tk3 O
  obtain ⟨o, f, due, its2, k1, k2, at1, t1, n1, sn2, F4, N4, b1, b2, sa1, T1, l1, r1s, ap1⟩ := out_law F2 N2 ap O
  clear F2 N2 O
  have hat1 : at1 < 200 := by
    have : bnd 4 = 94 := by decide
    omega
  have hd1 : due.length ≤ 16 := l1
  clear b2 l1
  have zz2 : Nat → Nat → True := fun _ _ => trivial
  obtain ⟨snA, hsnA⟩ : ∃ snA, snA = (f, listOf its2.toArray k2) :: (sn2 ++ sn) := ⟨_, rfl⟩
  rw [← hsnA] at N4 ap1
  have ap_snA := ap1
  clear ap1
  have sA : ∀ p ∈ sn, p ∈ snA := fun p hp => by rw [hsnA]; exact .tail _ (List.mem_append_right _ hp)
  have TA : Tr (fun a ob => (a, ob) ∈ snA) 4 o due := T1.mono fun a ob z => by rw [hsnA]; exact .tail _ (List.mem_append_left _ z)
  have mf : (f, listOf its2.toArray k2) ∈ snA := by rw [hsnA]; exact .head _
  have DA := DL.mono sA
  have hclA := sA _ hcl
  clear hsnA sA T1 DL hcl ap
  (repeat' (first | wtm_at "s1" | ((fail_if_success (rename (Nat → True) => zz)); with_reducible refine hd_ifexp ?_) | ((fail_if_success fail_if_success with_reducible refine at_call ?_); (first | (with_reducible refine hold_at 314 ?_) | (with_reducible refine hold_at 321 ?_) | (with_reducible refine hold_at 307 ?_) | (with_reducible refine hold_at 293 ?_) | (with_reducible refine hold_at 411 ?_) | (with_reducible refine hold_at 387 ?_) | ((with_reducible show wpAny _ _ (call (Value.ref 397) [_]) _ _ _); k_dflt (refine' ref1_spec ?sX9 ?sT9 ?sd9 ?su9 ?_; (case sX9 => k_in); (case sT9 => wtm_at "T"); (case sd9 => first | decide | (simp only [depth_deeper, depth_caller]; first | decide | omega)); (case su9 => first | decide | (simp only [units_deeper, units_caller]; first | decide | omega)); k_whole); intro o'9 t0'9 n'9 h'9 tk'9 hE'9 ho'9 hr'9; wtm_at "PA") | ((with_reducible show wpAny _ _ (call (Value.ref 372) _) _ _ _); k_dflt (refine' draw_law ?sF9 ?sN9 ?sX9 ?sT9 ?sm9 ?sc9 ?hcs9 ?hI9 ?h09 ?h19 ?U9 ?sd9 ?su9 ?b19 ?b29 ?b39 ?b49 ?_; (case sF9 => k_asm); (case sN9 => k_asm); (case sX9 => assumption); (case sT9 => assumption); (case sm9 => k_mem); (case sc9 => k_mem); (case hcs9 => assumption); (case hI9 => assumption); (case h09 => assumption); (case h19 => assumption); (case U9 => (intro t9 n9; k_upd)); (case sd9 => first | decide | (simp only [depth_deeper, depth_caller]; first | decide | omega)); (case su9 => first | decide | (simp only [units_deeper, units_caller]; first | decide | omega)); (case b19 => omega); (case b29 => omega); (case b39 => decide); (case b49 => decide); k_whole); intro k'9 h'9 tk'9 tk2'9 t2'9 n2'9 hk0'9 hk1'9 F'9 N'9; (try k_sweep)))) | ((rename (Nat → Nat → Nat → True) => zz); (fail_if_success (rename (_ == Str.ofString "=") = _ => zz9)); with_reducible refine hd_if ?_) | ((rename (Nat → Nat → True) => zz); with_reducible refine hd_app ?_) | ((rename (Nat → Nat → True) => zz); with_reducible refine hd_iter ?_) | (with_reducible refine hd_for ?_) | ((with_reducible show wpAny _ _ (exec (Stmt.Assign [_] (Expr.ListComp (Expr.Subscript _ _ _) _ _ _) _) _) _ _ _); k_dflt (refine LCg.Assign_ListComp_U (F₀ := by k_asm) (by rfl) (by with_unfolding_all rfl) (by rfl) (by decide) (by rfl) (by decide) (by rfl) (by rfl) (by rfl) ?_); (try k_dflt lcg_toSrc)) | ((fail_if_success fail_if_success with_reducible refine at_sub ?_); (first | ((with_reducible show wpAny _ _ (subscriptTail _ _ (Value.ref _) (Value.int _ _)) _ _ _); (rename (Nat → Nat → True) => zz); with_reducible refine hold ?_) | ((with_reducible show wpAny _ _ (subscriptTail _ _ (Value.ref _) (Value.int 1 _)) _ _ _); refine tup_at1 (News.isTup (by k_asm) (by k_mem)) ?_ (by with_unfolding_all rfl)))) | (with_reducible refine hd_ceq ?_) | (with_reducible refine hd_cne ?_) | ((with_reducible show wpAny _ _ (eval (Expr.ListComp (Expr.Subscript _ _ _) _ _ _) _) _ _ _); k_dflt (refine LCg.ListComp_U (F₀ := by k_asm) (by rfl) (by decide) (by rfl) (by decide) (by rfl) ?_); (try k_dflt lcg_toSrc)) | first | with_reducible refine ite_ff ?_ | with_reducible refine ite_tt ?_ | ((fail_if_success fail_if_success with_reducible refine at_name ?_); (k_dflt (refine' ld ?k19 ?k29 ?_; (case k19 => k_asm); (case k29 => first | assumption | ((repeat rw [if_neg (by decide)]); assumption)); k_whole))) | wtm_at "s2"))
  unfold Hold
  rename Fr _ _ _ _ => F2
  rename News _ _ _ _ => N2
  have N3 := newsDrop (news' := (src, listOf #[.ref cl, .int at1 t1] n1) :: snA) N2 (fun p hp => .tail _ hp)
  have hB : ∀ p ∈ snA, (two _ _ src).get? p.1 = some p.2 := fun p hp => two_news N3 (.tail _ hp) (ap_snA p hp)
  have hb := two_base F2 (N3.fresh (.head _))
  refine nf_all (ex_of (Frag.In.keeps (by assumption) hb) (Top.keeps (by assumption) hb) (DA.at hB) (TA.mono fun a ob z => hB _ z)) _ _ _ _ _ _ _ (cx_law F2 N3 (by assumption) (by assumption) (.head _) rfl rfl (DA.at hB)) (by first | decide | (simp only [depth_deeper, depth_caller]; first | decide | omega)) (by first | decide | (simp only [units_deeper, units_caller]; first | decide | omega)) (by omega) ?_
  intro r2 ps2 k3 h4 tk4 x1 x2 x3 x4
  obtain ⟨F5, N5⟩ := law_after F2 N3 x1
  obtain ⟨snp, p1, M1⟩ := x4.ledger
  have N6 := newsPlus (ls := (r2, listOf (ps2.map Value.ref).toArray k3) :: snp) F2 N5 (fun p hp => by
    rcases List.mem_cons.mp hp with rfl | hp
    · exact ⟨x2, x3⟩
    · exact p1 p hp)
  have hpl := M1.length
  obtain ⟨snB, hsnB⟩ : ∃ sn9, sn9 = (r2, listOf (ps2.map Value.ref).toArray k3) :: (snp ++ snA) := ⟨_, rfl⟩
  have N7 := newsDrop (news' := (src, listOf #[.ref cl, .int at1 t1] n1) :: snB) N6 (fun p hp => by
    rcases List.mem_cons.mp hp with rfl | hp
    · exact List.mem_append_right _ (.head _)
    rw [hsnB] at hp
    rcases List.mem_cons.mp hp with rfl | hp
    · exact List.mem_append_left _ (.head _)
    rcases List.mem_append.mp hp with hp | hp
    · exact List.mem_append_left _ (.tail _ hp)
    · exact List.mem_append_right _ (.tail _ hp))
  have ap_snB : ∀ p ∈ snB, p.1 ≠ src := fun p hp e => by
    rw [hsnB] at hp
    have g := N3.get (.head _)
    rcases List.mem_cons.mp hp with rfl | hp
    · rw [show r2 = src from e, g] at x3; cases x3
    rcases List.mem_append.mp hp with hp | hp
    · have q := (p1 p hp).2
      rw [e, g] at q; cases q
    · exact ap_snA p hp e
  have sB : ∀ p ∈ snA, p ∈ snB := fun p hp => by rw [hsnB]; exact .tail _ (List.mem_append_right _ hp)
  have M2 : PrM (fun a o => (a, o) ∈ snB) ps2 (due) := M1.mono fun a ob z => by rw [hsnB]; exact .tail _ (List.mem_append_left _ z)
  have mr : (r2, listOf (ps2.map Value.ref).toArray k3) ∈ snB := by rw [hsnB]; exact .head _
  have TB := TA.mono fun a ob z => sB _ z
  have mf := sB _ mf
  have DB := DA.mono sB
  have hclB := sB _ hclA
  clear F2 N2 N3 N5 N6 hB hb x1 x2 x3 x4 p1 hsnB sB M1 ap_snA TA DA hclA
  (repeat' (first | wtm_at "s1" | ((fail_if_success (rename (Nat → True) => zz)); with_reducible refine hd_ifexp ?_) | ((rename (Nat → Nat → Nat → True) => zz); (fail_if_success (rename (_ == Str.ofString "=") = _ => zz9)); with_reducible refine hd_if ?_) | ((rename (Nat → Nat → True) => zz); with_reducible refine hd_app ?_) | ((rename (Nat → Nat → True) => zz); with_reducible refine hd_iter ?_) | (with_reducible refine hd_for ?_) | ((fail_if_success fail_if_success with_reducible refine at_sub ?_); (first | ((with_reducible show wpAny _ _ (subscriptTail _ _ (Value.ref _) (Value.int _ _)) _ _ _); (rename (Nat → Nat → True) => zz); with_reducible refine hold ?_) | ((with_reducible show wpAny _ _ (subscriptTail _ _ (Value.ref _) (Value.int 1 _)) _ _ _); refine tup_at1 (News.isTup (by k_asm) (by k_mem)) ?_ (by with_unfolding_all rfl)))) | (with_reducible refine hd_ceq ?_) | (with_reducible refine hd_cne ?_) | first | with_reducible refine ite_ff ?_ | with_reducible refine ite_tt ?_ | ((fail_if_success fail_if_success with_reducible refine at_call ?_); (first | (with_reducible refine hold_at 314 ?_) | (with_reducible refine hold_at 321 ?_) | (with_reducible refine hold_at 307 ?_) | (with_reducible refine hold_at 293 ?_) | (with_reducible refine hold_at 411 ?_) | (with_reducible refine hold_at 387 ?_))) | ((fail_if_success fail_if_success with_reducible refine at_name ?_); (k_dflt (refine' ld ?k19 ?k29 ?_; (case k19 => k_asm); (case k29 => first | assumption | ((repeat rw [if_neg (by decide)]); assumption)); k_whole))) | wtm_at "s2"))
  unfold Hold
  rename Fr _ _ _ _ => F2
  rename News _ _ _ _ => N2
  have N3 := newsDrop (news' := (src, listOf #[.ref cl, .int at1 t1] n1) :: snB) N2 (fun p hp => by first | exact hp | (rcases List.mem_cons.mp hp with rfl | hp <;> simp_all))
  refine LCg.CompSrc.ledger (by rfl) F2 N3 (.tail _ mr) (by show _ ≤ 16777216; rw [List.size_toArray, List.length_map, hpl]; exact Nat.le_trans (hd1) (by decide)) ?_
  intro g'
  refine restIndG (fun i ys => StrsAre ys ((due).take i)) .nil ?_ ?_
  · intro k i ys hy ih
    refine LCg.CompRest.succ ?_
    intro v' I' oI' C' oC' D' m' h' tk' E' hv' hC' hx' F' N' off' ne'
    obtain ⟨p, nm, wh, t, n, rfl, hp, hd⟩ := prm_at M2 hv'
    (repeat' (first | wtm_at "s1" | ((fail_if_success (rename (Nat → True) => zz)); with_reducible refine hd_ifexp ?_) | ((rename (Nat → Nat → Nat → True) => zz); (fail_if_success (rename (_ == Str.ofString "=") = _ => zz9)); with_reducible refine hd_if ?_) | ((rename (Nat → Nat → True) => zz); with_reducible refine hd_app ?_) | ((rename (Nat → Nat → True) => zz); with_reducible refine hd_iter ?_) | (with_reducible refine hd_for ?_) | ((fail_if_success fail_if_success with_reducible refine at_sub ?_); (first | ((with_reducible show wpAny _ _ (subscriptTail _ _ (Value.ref _) (Value.int _ _)) _ _ _); (rename (Nat → Nat → True) => zz); with_reducible refine hold ?_) | ((with_reducible show wpAny _ _ (subscriptTail _ _ (Value.ref _) (Value.int 1 _)) _ _ _); refine tup_at1 (News.isTup (by k_asm) (by k_mem)) ?_ (by with_unfolding_all rfl)))) | (with_reducible refine hd_ceq ?_) | (with_reducible refine hd_cne ?_) | first | with_reducible refine ite_ff ?_ | with_reducible refine ite_tt ?_ | ((fail_if_success fail_if_success with_reducible refine at_call ?_); (first | (with_reducible refine hold_at 314 ?_) | (with_reducible refine hold_at 321 ?_) | (with_reducible refine hold_at 307 ?_) | (with_reducible refine hold_at 293 ?_) | (with_reducible refine hold_at 411 ?_) | (with_reducible refine hold_at 387 ?_))) | ((fail_if_success fail_if_success with_reducible refine at_name ?_); (k_dflt (refine' ld ?k19 ?k29 ?_; (case k19 => k_asm); (case k29 => first | assumption | ((repeat rw [if_neg (by decide)]); assumption)); k_whole))) | wtm_at "s2"))
    unfold Hold
    refine tup_at1 (News.isTup (by k_asm) (by k_mem)) ?_ (by with_unfolding_all rfl)
    rename Fr _ _ _ _ => F8
    rename News _ _ _ _ => N8
    refine LCg.CompEnd.intro F8 N8 ((src, listOf #[.ref cl, .int at1 t1] n1) :: snB) (fun p hp => hp) off' (show LCg.SrcAt _ r2 (ps2.map Value.ref).toArray _ from Or.inr ⟨_, .tail _ mr, rfl, _, rfl⟩) ?_
    exact ih _ (sa_snoc hy hd)
  intro ys hy
  have hy := sa_whole hpl hy
  clear F2 N2 N3 M2 mr hpl
  (repeat' (first | wtm_at "s1" | ((fail_if_success (rename (Nat → True) => zz)); with_reducible refine hd_ifexp ?_) | ((rename (Nat → Nat → Nat → True) => zz); (fail_if_success (rename (_ == Str.ofString "=") = _ => zz9)); with_reducible refine hd_if ?_) | ((rename (Nat → Nat → True) => zz); with_reducible refine hd_app ?_) | ((rename (Nat → Nat → True) => zz); with_reducible refine hd_iter ?_) | (with_reducible refine hd_for ?_) | ((fail_if_success fail_if_success with_reducible refine at_sub ?_); (first | ((with_reducible show wpAny _ _ (subscriptTail _ _ (Value.ref _) (Value.int _ _)) _ _ _); (rename (Nat → Nat → True) => zz); with_reducible refine hold ?_) | ((with_reducible show wpAny _ _ (subscriptTail _ _ (Value.ref _) (Value.int 1 _)) _ _ _); refine tup_at1 (News.isTup (by k_asm) (by k_mem)) ?_ (by with_unfolding_all rfl)))) | (with_reducible refine hd_ceq ?_) | (with_reducible refine hd_cne ?_) | first | with_reducible refine ite_ff ?_ | with_reducible refine ite_tt ?_ | ((fail_if_success fail_if_success with_reducible refine at_call ?_); (first | (with_reducible refine hold_at 314 ?_) | (with_reducible refine hold_at 321 ?_) | (with_reducible refine hold_at 307 ?_) | (with_reducible refine hold_at 293 ?_) | (with_reducible refine hold_at 411 ?_) | (with_reducible refine hold_at 387 ?_))) | ((fail_if_success fail_if_success with_reducible refine at_name ?_); (k_dflt (refine' ld ?k19 ?k29 ?_; (case k19 => k_asm); (case k29 => first | assumption | ((repeat rw [if_neg (by decide)]); assumption)); k_whole))) | wtm_at "s2"))
  unfold Hold
  rename Fr _ _ _ _ => F8
  rename News _ _ _ _ => N8
  refine texts_ne ⟨_, N8.get (by k_mem), rfl, _, rfl⟩ ⟨_, N8.get (by k_mem), rfl, _, rfl⟩ (by first | exact law_u | decide | units_room) hy sa1 ?_
  clear hy
  with_reducible refine wpAny_truthy_bool ?_
  with_reducible refine ite_ff ?_
  (repeat' (first | wtm_at "s1" | ((fail_if_success (rename (Nat → True) => zz)); with_reducible refine hd_ifexp ?_) | ((fail_if_success fail_if_success with_reducible refine at_call ?_); (first | (with_reducible refine hold_at 314 ?_) | (with_reducible refine hold_at 321 ?_) | (with_reducible refine hold_at 307 ?_) | (with_reducible refine hold_at 293 ?_) | (with_reducible refine hold_at 411 ?_) | (with_reducible refine hold_at 387 ?_) | ((with_reducible show wpAny _ _ (call (Value.ref 397) [_]) _ _ _); k_dflt (refine' ref1_spec ?sX9 ?sT9 ?sd9 ?su9 ?_; (case sX9 => k_in); (case sT9 => wtm_at "T"); (case sd9 => first | decide | (simp only [depth_deeper, depth_caller]; first | decide | omega)); (case su9 => first | decide | (simp only [units_deeper, units_caller]; first | decide | omega)); k_whole); intro o'9 t0'9 n'9 h'9 tk'9 hE'9 ho'9 hr'9; wtm_at "PA") | ((with_reducible show wpAny _ _ (call (Value.ref 372) _) _ _ _); k_dflt (refine' draw_law ?sF9 ?sN9 ?sX9 ?sT9 ?sm9 ?sc9 ?hcs9 ?hI9 ?h09 ?h19 ?U9 ?sd9 ?su9 ?b19 ?b29 ?b39 ?b49 ?_; (case sF9 => k_asm); (case sN9 => k_asm); (case sX9 => assumption); (case sT9 => assumption); (case sm9 => k_mem); (case sc9 => k_mem); (case hcs9 => assumption); (case hI9 => assumption); (case h09 => assumption); (case h19 => assumption); (case U9 => (intro t9 n9; k_upd)); (case sd9 => first | decide | (simp only [depth_deeper, depth_caller]; first | decide | omega)); (case su9 => first | decide | (simp only [units_deeper, units_caller]; first | decide | omega)); (case b19 => omega); (case b29 => omega); (case b39 => decide); (case b49 => decide); k_whole); intro k'9 h'9 tk'9 tk2'9 t2'9 n2'9 hk0'9 hk1'9 F'9 N'9; (try k_sweep)))) | ((rename (Nat → Nat → Nat → True) => zz); (fail_if_success (rename (_ == Str.ofString "=") = _ => zz9)); with_reducible refine hd_if ?_) | ((rename (Nat → Nat → True) => zz); with_reducible refine hd_app ?_) | ((rename (Nat → Nat → True) => zz); with_reducible refine hd_iter ?_) | (with_reducible refine hd_for ?_) | ((fail_if_success fail_if_success with_reducible refine at_sub ?_); (first | ((with_reducible show wpAny _ _ (subscriptTail _ _ (Value.ref _) (Value.int _ _)) _ _ _); (rename (Nat → Nat → True) => zz); with_reducible refine hold ?_) | ((with_reducible show wpAny _ _ (subscriptTail _ _ (Value.ref _) (Value.int 1 _)) _ _ _); refine tup_at1 (News.isTup (by k_asm) (by k_mem)) ?_ (by with_unfolding_all rfl)))) | (with_reducible refine hd_ceq ?_) | (with_reducible refine hd_cne ?_) | first | with_reducible refine ite_ff ?_ | with_reducible refine ite_tt ?_ | ((fail_if_success fail_if_success with_reducible refine at_name ?_); (k_dflt (refine' ld ?k19 ?k29 ?_; (case k19 => k_asm); (case k29 => first | assumption | ((repeat rw [if_neg (by decide)]); assumption)); k_whole))) | wtm_at "s2"))
  unfold Hold
  rename Fr _ _ _ _ => F2
  rename News _ _ _ _ => N2
  refine' pick_str ?t ?st ?h0 ?h1 ?h2 ?_ ?hs
  (case t => exact News.isTup N2 (.head _))
  (case st => exact (.cons _ _ (.cons _ _ (.cons _ _ (.cons _ _ (.cons _ _ (.cons _ _ (.cons _ _ (.cons _ _ (.cons _ _ .nil))))))))))
  (case h0 => assumption)
  (case h1 => assumption)
  (case h2 => exact Int.lt_trans (by assumption) (by decide))
  (case hs => with_unfolding_all rfl)
  intro nmv tnm hnm
  (repeat' (first | wtm_at "s1" | ((fail_if_success (rename (Nat → True) => zz)); with_reducible refine hd_ifexp ?_) | ((fail_if_success fail_if_success with_reducible refine at_call ?_); (first | (with_reducible refine hold_at 314 ?_) | (with_reducible refine hold_at 321 ?_) | (with_reducible refine hold_at 307 ?_) | (with_reducible refine hold_at 293 ?_) | (with_reducible refine hold_at 411 ?_) | (with_reducible refine hold_at 387 ?_) | ((with_reducible show wpAny _ _ (call (Value.ref 397) [_]) _ _ _); k_dflt (refine' ref1_spec ?sX9 ?sT9 ?sd9 ?su9 ?_; (case sX9 => k_in); (case sT9 => wtm_at "T"); (case sd9 => first | decide | (simp only [depth_deeper, depth_caller]; first | decide | omega)); (case su9 => first | decide | (simp only [units_deeper, units_caller]; first | decide | omega)); k_whole); intro o'9 t0'9 n'9 h'9 tk'9 hE'9 ho'9 hr'9; wtm_at "PA") | ((with_reducible show wpAny _ _ (call (Value.ref 372) _) _ _ _); k_dflt (refine' draw_law ?sF9 ?sN9 ?sX9 ?sT9 ?sm9 ?sc9 ?hcs9 ?hI9 ?h09 ?h19 ?U9 ?sd9 ?su9 ?b19 ?b29 ?b39 ?b49 ?_; (case sF9 => k_asm); (case sN9 => k_asm); (case sX9 => assumption); (case sT9 => assumption); (case sm9 => k_mem); (case sc9 => k_mem); (case hcs9 => assumption); (case hI9 => assumption); (case h09 => assumption); (case h19 => assumption); (case U9 => (intro t9 n9; k_upd)); (case sd9 => first | decide | (simp only [depth_deeper, depth_caller]; first | decide | omega)); (case su9 => first | decide | (simp only [units_deeper, units_caller]; first | decide | omega)); (case b19 => omega); (case b29 => omega); (case b39 => decide); (case b49 => decide); k_whole); intro k'9 h'9 tk'9 tk2'9 t2'9 n2'9 hk0'9 hk1'9 F'9 N'9; (try k_sweep)))) | ((rename (Nat → Nat → Nat → True) => zz); (fail_if_success (rename (_ == Str.ofString "=") = _ => zz9)); with_reducible refine hd_if ?_) | ((rename (Nat → Nat → True) => zz); with_reducible refine hd_app ?_) | ((rename (Nat → Nat → True) => zz); with_reducible refine hd_iter ?_) | (with_reducible refine hd_for ?_) | ((fail_if_success fail_if_success with_reducible refine at_sub ?_); (first | ((with_reducible show wpAny _ _ (subscriptTail _ _ (Value.ref _) (Value.int _ _)) _ _ _); (rename (Nat → Nat → True) => zz); with_reducible refine hold ?_) | ((with_reducible show wpAny _ _ (subscriptTail _ _ (Value.ref _) (Value.int 1 _)) _ _ _); refine tup_at1 (News.isTup (by k_asm) (by k_mem)) ?_ (by with_unfolding_all rfl)))) | (with_reducible refine hd_ceq ?_) | (with_reducible refine hd_cne ?_) | first | with_reducible refine ite_ff ?_ | with_reducible refine ite_tt ?_ | ((fail_if_success fail_if_success with_reducible refine at_name ?_); (k_dflt (refine' ld ?k19 ?k29 ?_; (case k19 => k_asm); (case k29 => first | assumption | ((repeat rw [if_neg (by decide)]); assumption)); k_whole))) | wtm_at "s2"))
  unfold Hold
  rename Fr _ _ _ _ => F2
  rename News _ _ _ _ => N2
  have N3 := sort_pick N2 (by k_ne) (by k_ne) (by k_ne) (by k_ne)
  refine' pick_ref ?t ?h0 ?h1 ?h2 ?_ ?hs
  (case t => exact News.isTup N2 (.head _))
  (case h0 => assumption)
  (case h1 => assumption)
  (case h2 => exact Int.lt_trans (by assumption) (by decide))
  (case hs => with_unfolding_all rfl)
  intro v hv
  obtain ⟨cs, its4, n4, cats, rfl, N4, c1, c2, c3⟩ := N3 v hv
  obtain ⟨at2, t2, n2, hat2, N5⟩ : ∃ at2 t2 n2, at2 = at1 + 2 ∧ News _ _ _ ((src, listOf #[.ref cl, .int at2 t2] n2) :: (cs, tupOf (List.toArray its4) n4) :: snB) := ⟨_, _, _, by omega, N4⟩
  obtain ⟨snC, hsnC⟩ : ∃ snC, snC = (cs, tupOf (List.toArray its4) n4) :: snB := ⟨_, rfl⟩
  rw [← hsnC] at N5
  have ap_snC : ∀ p ∈ snC, p.1 ≠ src := fun p hp => by
    rw [hsnC] at hp
    rcases List.mem_cons.mp hp with rfl | hp
    · exact c1
    · exact ap_snB p hp
  have sC : ∀ p ∈ snB, p ∈ snC := fun p hp => by rw [hsnC]; exact .tail _ hp
  have mcs : (cs, tupOf (List.toArray its4) n4) ∈ snC := by rw [hsnC]; exact .head _
  have TC := TB.mono fun a ob z => sC _ z
  have mf := sC _ mf
  have DC := DB.mono sC
  have hclC := sC _ hclB
  clear hsnC sC c1 N2 N3 N4 hv TB DB hclB ap_snB
  (repeat' (first | wtm_at "s1" | ((fail_if_success (rename (Nat → True) => zz)); with_reducible refine hd_ifexp ?_) | ((fail_if_success fail_if_success with_reducible refine at_call ?_); (first | (with_reducible refine hold_at 314 ?_) | (with_reducible refine hold_at 321 ?_) | (with_reducible refine hold_at 307 ?_) | (with_reducible refine hold_at 293 ?_) | (with_reducible refine hold_at 411 ?_) | (with_reducible refine hold_at 387 ?_) | ((with_reducible show wpAny _ _ (call (Value.ref 397) [_]) _ _ _); k_dflt (refine' ref1_spec ?sX9 ?sT9 ?sd9 ?su9 ?_; (case sX9 => k_in); (case sT9 => wtm_at "T"); (case sd9 => first | decide | (simp only [depth_deeper, depth_caller]; first | decide | omega)); (case su9 => first | decide | (simp only [units_deeper, units_caller]; first | decide | omega)); k_whole); intro o9 t0'9 n'9 h'9 tk'9 hE'9 ho'9 hr'9; wtm_at "PA") | ((with_reducible show wpAny _ _ (call (Value.ref 372) _) _ _ _); k_dflt (refine' draw_law ?sF9 ?sN9 ?sX9 ?sT9 ?sm9 ?sc9 ?hcs9 ?hI9 ?h09 ?h19 ?U9 ?sd9 ?su9 ?b19 ?b29 ?b39 ?b49 ?_; (case sF9 => k_asm); (case sN9 => k_asm); (case sX9 => assumption); (case sT9 => assumption); (case sm9 => k_mem); (case sc9 => k_mem); (case hcs9 => assumption); (case hI9 => assumption); (case h09 => assumption); (case h19 => assumption); (case U9 => (intro t9 n9; k_upd)); (case sd9 => first | decide | (simp only [depth_deeper, depth_caller]; first | decide | omega)); (case su9 => first | decide | (simp only [units_deeper, units_caller]; first | decide | omega)); (case b19 => omega); (case b29 => omega); (case b39 => decide); (case b49 => decide); k_whole); intro k'9 h'9 tk'9 tk2'9 t2'9 n2'9 hk0'9 hk1'9 F'9 N'9; (try k_sweep)))) | ((rename (Nat → Nat → Nat → True) => zz); (fail_if_success (rename (_ == Str.ofString "=") = _ => zz9)); with_reducible refine hd_if ?_) | ((rename (Nat → Nat → True) => zz); with_reducible refine hd_app ?_) | ((rename (Nat → Nat → True) => zz); with_reducible refine hd_iter ?_) | (with_reducible refine hd_for ?_) | ((with_reducible show wpAny _ _ (exec (Stmt.Assign [_] (Expr.ListComp (Expr.Subscript _ _ _) _ _ _) _) _) _ _ _); k_dflt (refine LCg.Assign_ListComp_U (F₀ := by k_asm) (by rfl) (by with_unfolding_all rfl) (by rfl) (by decide) (by rfl) (by decide) (by rfl) (by rfl) (by rfl) ?_); (try k_dflt lcg_toSrc)) | ((fail_if_success fail_if_success with_reducible refine at_sub ?_); (first | ((with_reducible show wpAny _ _ (subscriptTail _ _ (Value.ref _) (Value.int _ _)) _ _ _); (rename (Nat → Nat → True) => zz); with_reducible refine hold ?_) | ((with_reducible show wpAny _ _ (subscriptTail _ _ (Value.ref _) (Value.int 1 _)) _ _ _); refine tup_at1 (News.isTup (by k_asm) (by k_mem)) ?_ (by with_unfolding_all rfl)))) | (with_reducible refine hd_ceq ?_) | (with_reducible refine hd_cne ?_) | ((with_reducible show wpAny _ _ (eval (Expr.ListComp (Expr.Subscript _ _ _) _ _ _) _) _ _ _); k_dflt (refine LCg.ListComp_U (F₀ := by k_asm) (by rfl) (by decide) (by rfl) (by decide) (by rfl) ?_); (try k_dflt lcg_toSrc)) | first | with_reducible refine ite_ff ?_ | with_reducible refine ite_tt ?_ | ((fail_if_success fail_if_success with_reducible refine at_name ?_); (k_dflt (refine' ld ?k19 ?k29 ?_; (case k19 => k_asm); (case k29 => first | assumption | ((repeat rw [if_neg (by decide)]); assumption)); k_whole))) | wtm_at "s2"))
  unfold Hold
  rename Fr _ _ _ _ => F2
  rename News _ _ _ _ => N1
  have ho9 : o9 ≠ src := by k_ne
  obtain ⟨t01, t02, n01, N2⟩ : ∃ t01 t02 n01, News _ _ _ ((o9, tupOf #[.str (Str.ofString "ref") t01, .str nmv t02, .ref 389, .ref 388, .none] n01) :: (src, listOf #[.ref cl, .int at2 t2] n2) :: snC) := ⟨_, _, _, N1⟩
  obtain ⟨snD, hsnD⟩ : ∃ sn9, sn9 = (o9, tupOf #[.str (Str.ofString "ref") t01, .str nmv t02, .ref 389, .ref 388, .none] n01) :: snC := ⟨_, rfl⟩
  have N3 := newsDrop (news' := (src, listOf #[.ref cl, .int at2 t2] n2) :: snD) N2 (fun p hp => by
    rcases List.mem_cons.mp hp with rfl | hp
    · exact .tail _ (.head _)
    rw [hsnD] at hp
    rcases List.mem_cons.mp hp with rfl | hp
    · exact .head _
    · exact .tail _ (.tail _ hp))
  have ap_snD : ∀ p ∈ snD, p.1 ≠ src := fun p hp => by
    rw [hsnD] at hp
    rcases List.mem_cons.mp hp with rfl | hp
    · exact ho9
    · exact ap_snC p hp
  have sD : ∀ p ∈ snC, p ∈ snD := fun p hp => by rw [hsnD]; exact .tail _ hp
  have mo : (o9, tupOf #[.str (Str.ofString "ref") t01, .str nmv t02, .ref 389, .ref 388, .none] n01) ∈ snD := by rw [hsnD]; exact .head _
  clear hsnD N1 ho9 ap_snC
  have hB : ∀ p ∈ snD, (two _ _ src).get? p.1 = some p.2 := fun p hp => two_news N3 (.tail _ hp) (ap_snD p hp)
  have hb := two_base F2 (N3.fresh (.head _))
  have DD := (DC.mono sD).at hB
  refine place_gen (pk_of (Frag.In.keeps (by assumption) hb) (Top.keeps (by assumption) hb) DD (hB _ mo) hnm) (cx_law F2 N3 (by assumption) (by assumption) (.head _) rfl rfl DD) (by first | decide | (simp only [depth_deeper, depth_caller]; first | decide | omega)) (by first | decide | (simp only [units_deeper, units_caller]; first | decide | omega)) ⟨_, N3.get (.tail _ (sD _ mcs)), rfl, _, rfl⟩ c2 ?_
  intro r2 ps2 k3 h4 tk4 x1 x2 x3 x4
  obtain ⟨F5, N5⟩ := law_after F2 N3 x1
  obtain ⟨snp, p1, M1⟩ := x4.ledger
  have N6 := newsPlus (ls := (r2, listOf (ps2.map Value.ref).toArray k3) :: snp) F2 N5 (fun p hp => by
    rcases List.mem_cons.mp hp with rfl | hp
    · exact ⟨x2, x3⟩
    · exact p1 p hp)
  have hpl := M1.length
  obtain ⟨snE, hsnB⟩ : ∃ sn9, sn9 = (r2, listOf (ps2.map Value.ref).toArray k3) :: (snp ++ snD) := ⟨_, rfl⟩
  have N7 := newsDrop (news' := (src, listOf #[.ref cl, .int at2 t2] n2) :: snE) N6 (fun p hp => by
    rcases List.mem_cons.mp hp with rfl | hp
    · exact List.mem_append_right _ (.head _)
    rw [hsnB] at hp
    rcases List.mem_cons.mp hp with rfl | hp
    · exact List.mem_append_left _ (.head _)
    rcases List.mem_append.mp hp with hp | hp
    · exact List.mem_append_left _ (.tail _ hp)
    · exact List.mem_append_right _ (.tail _ hp))
  have ap_snE : ∀ p ∈ snE, p.1 ≠ src := fun p hp e => by
    rw [hsnB] at hp
    have g := N3.get (.head _)
    rcases List.mem_cons.mp hp with rfl | hp
    · rw [show r2 = src from e, g] at x3; cases x3
    rcases List.mem_append.mp hp with hp | hp
    · have q := (p1 p hp).2
      rw [e, g] at q; cases q
    · exact ap_snD p hp e
  have sB : ∀ p ∈ snD, p ∈ snE := fun p hp => by rw [hsnB]; exact .tail _ (List.mem_append_right _ hp)
  have M2 : PrM (fun a o => (a, o) ∈ snE) ps2 (dueOf nmv cats (kcOf nmv)) := M1.mono fun a ob z => by rw [hsnB]; exact .tail _ (List.mem_append_left _ z)
  have mr : (r2, listOf (ps2.map Value.ref).toArray k3) ∈ snE := by rw [hsnB]; exact .head _
  have sE : ∀ p ∈ snC, p ∈ snE := fun p hp => sB _ (sD _ hp)
  have TE := TC.mono fun a ob z => sE _ z
  have mf := sE _ mf
  have mcs := sE _ mcs
  have DE := DC.mono sE
  have hclE := sE _ hclC
  clear F2 N2 N3 N5 N6 hB hb x1 x2 x3 x4 p1 hsnB sB M1 ap_snD TC DC hclC sE sD mo DD
  (repeat' (first | wtm_at "s1" | ((fail_if_success (rename (Nat → True) => zz)); with_reducible refine hd_ifexp ?_) | ((rename (Nat → Nat → Nat → True) => zz); (fail_if_success (rename (_ == Str.ofString "=") = _ => zz9)); with_reducible refine hd_if ?_) | ((rename (Nat → Nat → True) => zz); with_reducible refine hd_app ?_) | ((rename (Nat → Nat → True) => zz); with_reducible refine hd_iter ?_) | (with_reducible refine hd_for ?_) | ((fail_if_success fail_if_success with_reducible refine at_sub ?_); (first | ((with_reducible show wpAny _ _ (subscriptTail _ _ (Value.ref _) (Value.int _ _)) _ _ _); (rename (Nat → Nat → True) => zz); with_reducible refine hold ?_) | ((with_reducible show wpAny _ _ (subscriptTail _ _ (Value.ref _) (Value.int 1 _)) _ _ _); refine tup_at1 (News.isTup (by k_asm) (by k_mem)) ?_ (by with_unfolding_all rfl)))) | (with_reducible refine hd_ceq ?_) | (with_reducible refine hd_cne ?_) | first | with_reducible refine ite_ff ?_ | with_reducible refine ite_tt ?_ | ((fail_if_success fail_if_success with_reducible refine at_call ?_); (first | (with_reducible refine hold_at 314 ?_) | (with_reducible refine hold_at 321 ?_) | (with_reducible refine hold_at 307 ?_) | (with_reducible refine hold_at 293 ?_) | (with_reducible refine hold_at 411 ?_) | (with_reducible refine hold_at 387 ?_))) | ((fail_if_success fail_if_success with_reducible refine at_name ?_); (k_dflt (refine' ld ?k19 ?k29 ?_; (case k19 => k_asm); (case k29 => first | assumption | ((repeat rw [if_neg (by decide)]); assumption)); k_whole))) | wtm_at "s2"))
  unfold Hold
  rename Fr _ _ _ _ => F2
  rename News _ _ _ _ => N2
  have N3 := newsDrop (news' := (src, listOf #[.ref cl, .int at2 t2] n2) :: snE) N2 (fun p hp => by first | exact hp | (rcases List.mem_cons.mp hp with rfl | hp <;> simp_all))
  refine LCg.CompSrc.ledger (by rfl) F2 N3 (.tail _ mr) (by show _ ≤ 16777216; rw [List.size_toArray, List.length_map, hpl]; exact Nat.le_trans (dueOf_len) (by decide)) ?_
  intro g'
  refine restIndG (fun i ys => StrsAre ys ((dueOf nmv cats (kcOf nmv)).take i)) .nil ?_ ?_
  · intro k i ys hy ih
    refine LCg.CompRest.succ ?_
    intro v' I' oI' C' oC' D' m' h' tk' E' hv' hC' hx' F' N' off' ne'
    obtain ⟨p, nm, wh, t, n, rfl, hp, hd⟩ := prm_at M2 hv'
    (repeat' (first | wtm_at "s1" | ((fail_if_success (rename (Nat → True) => zz)); with_reducible refine hd_ifexp ?_) | ((rename (Nat → Nat → Nat → True) => zz); (fail_if_success (rename (_ == Str.ofString "=") = _ => zz9)); with_reducible refine hd_if ?_) | ((rename (Nat → Nat → True) => zz); with_reducible refine hd_app ?_) | ((rename (Nat → Nat → True) => zz); with_reducible refine hd_iter ?_) | (with_reducible refine hd_for ?_) | ((fail_if_success fail_if_success with_reducible refine at_sub ?_); (first | ((with_reducible show wpAny _ _ (subscriptTail _ _ (Value.ref _) (Value.int _ _)) _ _ _); (rename (Nat → Nat → True) => zz); with_reducible refine hold ?_) | ((with_reducible show wpAny _ _ (subscriptTail _ _ (Value.ref _) (Value.int 1 _)) _ _ _); refine tup_at1 (News.isTup (by k_asm) (by k_mem)) ?_ (by with_unfolding_all rfl)))) | (with_reducible refine hd_ceq ?_) | (with_reducible refine hd_cne ?_) | first | with_reducible refine ite_ff ?_ | with_reducible refine ite_tt ?_ | ((fail_if_success fail_if_success with_reducible refine at_call ?_); (first | (with_reducible refine hold_at 314 ?_) | (with_reducible refine hold_at 321 ?_) | (with_reducible refine hold_at 307 ?_) | (with_reducible refine hold_at 293 ?_) | (with_reducible refine hold_at 411 ?_) | (with_reducible refine hold_at 387 ?_))) | ((fail_if_success fail_if_success with_reducible refine at_name ?_); (k_dflt (refine' ld ?k19 ?k29 ?_; (case k19 => k_asm); (case k29 => first | assumption | ((repeat rw [if_neg (by decide)]); assumption)); k_whole))) | wtm_at "s2"))
    unfold Hold
    refine tup_at1 (News.isTup (by k_asm) (by k_mem)) ?_ (by with_unfolding_all rfl)
    rename Fr _ _ _ _ => F8
    rename News _ _ _ _ => N8
    refine LCg.CompEnd.intro F8 N8 ((src, listOf #[.ref cl, .int at2 t2] n2) :: snE) (fun p hp => hp) off' (show LCg.SrcAt _ r2 (ps2.map Value.ref).toArray _ from Or.inr ⟨_, .tail _ mr, rfl, _, rfl⟩) ?_
    exact ih _ (sa_snoc hy hd)
  intro ys hy
  have hy := sa_whole hpl hy
  clear F2 N2 N3 M2 mr hpl
  (repeat' (first | wtm_at "s1" | ((fail_if_success (rename (Nat → True) => zz)); with_reducible refine hd_ifexp ?_) | ((rename (Nat → Nat → Nat → True) => zz); (fail_if_success (rename (_ == Str.ofString "=") = _ => zz9)); with_reducible refine hd_if ?_) | ((rename (Nat → Nat → True) => zz); with_reducible refine hd_app ?_) | ((rename (Nat → Nat → True) => zz); with_reducible refine hd_iter ?_) | (with_reducible refine hd_for ?_) | ((fail_if_success fail_if_success with_reducible refine at_sub ?_); (first | ((with_reducible show wpAny _ _ (subscriptTail _ _ (Value.ref _) (Value.int _ _)) _ _ _); (rename (Nat → Nat → True) => zz); with_reducible refine hold ?_) | ((with_reducible show wpAny _ _ (subscriptTail _ _ (Value.ref _) (Value.int 1 _)) _ _ _); refine tup_at1 (News.isTup (by k_asm) (by k_mem)) ?_ (by with_unfolding_all rfl)))) | (with_reducible refine hd_ceq ?_) | (with_reducible refine hd_cne ?_) | first | with_reducible refine ite_ff ?_ | with_reducible refine ite_tt ?_ | ((fail_if_success fail_if_success with_reducible refine at_call ?_); (first | (with_reducible refine hold_at 314 ?_) | (with_reducible refine hold_at 321 ?_) | (with_reducible refine hold_at 307 ?_) | (with_reducible refine hold_at 293 ?_) | (with_reducible refine hold_at 411 ?_) | (with_reducible refine hold_at 387 ?_))) | ((fail_if_success fail_if_success with_reducible refine at_name ?_); (k_dflt (refine' ld ?k19 ?k29 ?_; (case k19 => k_asm); (case k29 => first | assumption | ((repeat rw [if_neg (by decide)]); assumption)); k_whole))) | wtm_at "s2"))
  unfold Hold
  rename Fr _ _ _ _ => F2
  rename News _ _ _ _ => N2
  refine ify_join (due := dueOf nmv cats (kcOf nmv)) F2 N2 ?w2 ?r2
  (case w2 =>
    have zz : Nat → True := fun _ => trivial
    (repeat' (first | wtm_at "s1" | ((fail_if_success (rename (Nat → True) => zz)); with_reducible refine hd_ifexp ?_) | ((fail_if_success fail_if_success with_reducible refine at_call ?_); (first | (with_reducible refine hold_at 314 ?_) | (with_reducible refine hold_at 321 ?_) | (with_reducible refine hold_at 307 ?_) | (with_reducible refine hold_at 293 ?_) | (with_reducible refine hold_at 411 ?_) | (with_reducible refine hold_at 387 ?_) | ((with_reducible show wpAny _ _ (call (.ref 365) _ _) _ _ _); (k_dflt (refine' lsorts_spec (by k_in) (by wtm_at "T") (by first | decide | (simp only [depth_deeper, depth_caller]; first | decide | omega)) (by first | decide | (simp only [units_deeper, units_caller]; first | decide | omega)) ?_; k_whole); intros; wtm_at "PA")))) | ((rename (Nat → Nat → Nat → True) => zz); (fail_if_success (rename (_ == Str.ofString "=") = _ => zz9)); with_reducible refine hd_if ?_) | ((rename (Nat → Nat → True) => zz); with_reducible refine hd_app ?_) | ((rename (Nat → Nat → True) => zz); with_reducible refine hd_iter ?_) | (with_reducible refine hd_for ?_) | ((fail_if_success fail_if_success with_reducible refine at_sub ?_); (first | ((with_reducible show wpAny _ _ (subscriptTail _ _ (Value.ref _) (Value.int _ _)) _ _ _); (rename (Nat → Nat → True) => zz); with_reducible refine hold ?_) | ((with_reducible show wpAny _ _ (subscriptTail _ _ (Value.ref _) (Value.int 1 _)) _ _ _); refine tup_at1 (News.isTup (by k_asm) (by k_mem)) ?_ (by with_unfolding_all rfl)))) | (with_reducible refine hd_ceq ?_) | (with_reducible refine hd_cne ?_) | first | with_reducible refine ite_ff ?_ | with_reducible refine ite_tt ?_ | ((fail_if_success fail_if_success with_reducible refine at_name ?_); (k_dflt (refine' ld ?k19 ?k29 ?_; (case k19 => k_asm); (case k29 => first | assumption | ((repeat rw [if_neg (by decide)]); assumption)); k_whole))) | wtm_at "s2"))
    rename PyProof.V.Flat _ _ => hvv
    obtain ⟨tcv, ecv⟩ := sorts_get h1 hnm hvv
    clear hvv
    subst ecv
    rename Fr _ _ _ _ => F8
    rename News _ _ _ _ => N8
    refine in_tuple_strs ⟨_, N8.get (by k_mem), rfl, _, rfl⟩ c2 ?_
    have hdu := due_some hnm c3
    cases hca : cats.any fun x => x == (kcOf nmv).getD (Str.ofString "")
    · rw [hca, if_neg Bool.false_ne_true] at hdu
      with_reducible refine wpAny_truthy_bool ?_
      with_reducible refine ite_ff ?_
      (repeat' (first | wtm_at "s1" | ((fail_if_success (rename (Nat → True) => zz)); with_reducible refine hd_ifexp ?_) | ((fail_if_success fail_if_success with_reducible refine at_call ?_); (first | (with_reducible refine hold_at 314 ?_) | (with_reducible refine hold_at 321 ?_) | (with_reducible refine hold_at 307 ?_) | (with_reducible refine hold_at 293 ?_) | (with_reducible refine hold_at 411 ?_) | (with_reducible refine hold_at 387 ?_) | ((with_reducible show wpAny _ _ (call (Value.ref 397) [_]) _ _ _); k_dflt (refine' ref1_spec ?sX9 ?sT9 ?sd9 ?su9 ?_; (case sX9 => k_in); (case sT9 => wtm_at "T"); (case sd9 => first | decide | (simp only [depth_deeper, depth_caller]; first | decide | omega)); (case su9 => first | decide | (simp only [units_deeper, units_caller]; first | decide | omega)); k_whole); intro o'9 t0'9 n'9 h'9 tk'9 hE'9 ho'9 hr'9; wtm_at "PA") | ((with_reducible show wpAny _ _ (call (Value.ref 372) _) _ _ _); k_dflt (refine' draw_law ?sF9 ?sN9 ?sX9 ?sT9 ?sm9 ?sc9 ?hcs9 ?hI9 ?h09 ?h19 ?U9 ?sd9 ?su9 ?b19 ?b29 ?b39 ?b49 ?_; (case sF9 => k_asm); (case sN9 => k_asm); (case sX9 => assumption); (case sT9 => assumption); (case sm9 => k_mem); (case sc9 => k_mem); (case hcs9 => assumption); (case hI9 => assumption); (case h09 => assumption); (case h19 => assumption); (case U9 => (intro t9 n9; k_upd)); (case sd9 => first | decide | (simp only [depth_deeper, depth_caller]; first | decide | omega)); (case su9 => first | decide | (simp only [units_deeper, units_caller]; first | decide | omega)); (case b19 => omega); (case b29 => omega); (case b39 => decide); (case b49 => decide); k_whole); intro k'9 h'9 tk'9 tk2'9 t2'9 n2'9 hk0'9 hk1'9 F'9 N'9; (try k_sweep)))) | ((rename (Nat → Nat → Nat → True) => zz); (fail_if_success (rename (_ == Str.ofString "=") = _ => zz9)); with_reducible refine hd_if ?_) | ((rename (Nat → Nat → True) => zz); with_reducible refine hd_app ?_) | ((rename (Nat → Nat → True) => zz); with_reducible refine hd_iter ?_) | (with_reducible refine hd_for ?_) | ((fail_if_success fail_if_success with_reducible refine at_sub ?_); (first | ((with_reducible show wpAny _ _ (subscriptTail _ _ (Value.ref _) (Value.int _ _)) _ _ _); (rename (Nat → Nat → True) => zz); with_reducible refine hold ?_) | ((with_reducible show wpAny _ _ (subscriptTail _ _ (Value.ref _) (Value.int 1 _)) _ _ _); refine tup_at1 (News.isTup (by k_asm) (by k_mem)) ?_ (by with_unfolding_all rfl)))) | (with_reducible refine hd_ceq ?_) | (with_reducible refine hd_cne ?_) | first | with_reducible refine ite_ff ?_ | with_reducible refine ite_tt ?_ | ((fail_if_success fail_if_success with_reducible refine at_name ?_); (k_dflt (refine' ld ?k19 ?k29 ?_; (case k19 => k_asm); (case k29 => first | assumption | ((repeat rw [if_neg (by decide)]); assumption)); k_whole))) | wtm_at "s2"))
      rename Fr _ _ _ _ => F9
      rename News _ _ _ _ => N9
      exact ⟨_, [_], _, _, _, rfl, rfl, F9, newsDrop N9 (fun p hp => by
        rcases List.mem_cons.mp hp with rfl | hp
        · exact .head _
        · exact .tail _ (.tail _ hp)), by rw [hdu]; exact .cons _ _ .nil⟩
    · rw [hca, if_pos rfl] at hdu
      with_reducible refine wpAny_truthy_bool ?_
      with_reducible refine ite_tt ?_
      (repeat' (first | wtm_at "s1" | ((fail_if_success (rename (Nat → True) => zz)); with_reducible refine hd_ifexp ?_) | ((fail_if_success fail_if_success with_reducible refine at_call ?_); (first | (with_reducible refine hold_at 314 ?_) | (with_reducible refine hold_at 321 ?_) | (with_reducible refine hold_at 307 ?_) | (with_reducible refine hold_at 293 ?_) | (with_reducible refine hold_at 411 ?_) | (with_reducible refine hold_at 387 ?_) | ((with_reducible show wpAny _ _ (call (Value.ref 397) [_]) _ _ _); k_dflt (refine' ref1_spec ?sX9 ?sT9 ?sd9 ?su9 ?_; (case sX9 => k_in); (case sT9 => wtm_at "T"); (case sd9 => first | decide | (simp only [depth_deeper, depth_caller]; first | decide | omega)); (case su9 => first | decide | (simp only [units_deeper, units_caller]; first | decide | omega)); k_whole); intro o'9 t0'9 n'9 h'9 tk'9 hE'9 ho'9 hr'9; wtm_at "PA") | ((with_reducible show wpAny _ _ (call (Value.ref 372) _) _ _ _); k_dflt (refine' draw_law ?sF9 ?sN9 ?sX9 ?sT9 ?sm9 ?sc9 ?hcs9 ?hI9 ?h09 ?h19 ?U9 ?sd9 ?su9 ?b19 ?b29 ?b39 ?b49 ?_; (case sF9 => k_asm); (case sN9 => k_asm); (case sX9 => assumption); (case sT9 => assumption); (case sm9 => k_mem); (case sc9 => k_mem); (case hcs9 => assumption); (case hI9 => assumption); (case h09 => assumption); (case h19 => assumption); (case U9 => (intro t9 n9; k_upd)); (case sd9 => first | decide | (simp only [depth_deeper, depth_caller]; first | decide | omega)); (case su9 => first | decide | (simp only [units_deeper, units_caller]; first | decide | omega)); (case b19 => omega); (case b29 => omega); (case b39 => decide); (case b49 => decide); k_whole); intro k'9 h'9 tk'9 tk2'9 t2'9 n2'9 hk0'9 hk1'9 F'9 N'9; (try k_sweep)))) | ((rename (Nat → Nat → Nat → True) => zz); (fail_if_success (rename (_ == Str.ofString "=") = _ => zz9)); with_reducible refine hd_if ?_) | ((rename (Nat → Nat → True) => zz); with_reducible refine hd_app ?_) | ((rename (Nat → Nat → True) => zz); with_reducible refine hd_iter ?_) | (with_reducible refine hd_for ?_) | ((fail_if_success fail_if_success with_reducible refine at_sub ?_); (first | ((with_reducible show wpAny _ _ (subscriptTail _ _ (Value.ref _) (Value.int _ _)) _ _ _); (rename (Nat → Nat → True) => zz); with_reducible refine hold ?_) | ((with_reducible show wpAny _ _ (subscriptTail _ _ (Value.ref _) (Value.int 1 _)) _ _ _); refine tup_at1 (News.isTup (by k_asm) (by k_mem)) ?_ (by with_unfolding_all rfl)))) | (with_reducible refine hd_ceq ?_) | (with_reducible refine hd_cne ?_) | first | with_reducible refine ite_ff ?_ | with_reducible refine ite_tt ?_ | ((fail_if_success fail_if_success with_reducible refine at_name ?_); (k_dflt (refine' ld ?k19 ?k29 ?_; (case k19 => k_asm); (case k29 => first | assumption | ((repeat rw [if_neg (by decide)]); assumption)); k_whole))) | wtm_at "s2"))
      rename Fr _ _ _ _ => F9
      rename News _ _ _ _ => N9
      exact ⟨_, [], _, _, _, rfl, rfl, F9, newsDrop N9 (fun p hp => by
        rcases List.mem_cons.mp hp with rfl | hp
        · exact .head _
        · exact .tail _ (.tail _ hp)), by rw [hdu]; exact .nil⟩)
  clear F2 N2
  intro l2 vs2 k2n h' tk' F2 N2 hv2
  (repeat' (first | wtm_at "s1" | ((fail_if_success (rename (Nat → True) => zz)); with_reducible refine hd_ifexp ?_) | ((rename (Nat → Nat → Nat → True) => zz); (fail_if_success (rename (_ == Str.ofString "=") = _ => zz9)); with_reducible refine hd_if ?_) | ((rename (Nat → Nat → True) => zz); with_reducible refine hd_app ?_) | ((rename (Nat → Nat → True) => zz); with_reducible refine hd_iter ?_) | (with_reducible refine hd_for ?_) | ((fail_if_success fail_if_success with_reducible refine at_sub ?_); (first | ((with_reducible show wpAny _ _ (subscriptTail _ _ (Value.ref _) (Value.int _ _)) _ _ _); (rename (Nat → Nat → True) => zz); with_reducible refine hold ?_) | ((with_reducible show wpAny _ _ (subscriptTail _ _ (Value.ref _) (Value.int 1 _)) _ _ _); refine tup_at1 (News.isTup (by k_asm) (by k_mem)) ?_ (by with_unfolding_all rfl)))) | (with_reducible refine hd_ceq ?_) | (with_reducible refine hd_cne ?_) | first | with_reducible refine ite_ff ?_ | with_reducible refine ite_tt ?_ | ((fail_if_success fail_if_success with_reducible refine at_call ?_); (first | (with_reducible refine hold_at 314 ?_) | (with_reducible refine hold_at 321 ?_) | (with_reducible refine hold_at 307 ?_) | (with_reducible refine hold_at 293 ?_) | (with_reducible refine hold_at 411 ?_) | (with_reducible refine hold_at 387 ?_))) | ((fail_if_success fail_if_success with_reducible refine at_name ?_); (k_dflt (refine' ld ?k19 ?k29 ?_; (case k19 => k_asm); (case k29 => first | assumption | ((repeat rw [if_neg (by decide)]); assumption)); k_whole))) | wtm_at "s2"))
  unfold Hold
  rename Fr _ _ _ _ => F8
  rename News _ _ _ _ => N8
  refine texts_ne ⟨_, N8.get (by k_mem), rfl, _, rfl⟩ ⟨_, N8.get (by k_mem), rfl, _, rfl⟩ (by first | exact law_u | decide | units_room) hy hv2 ?_
  clear hy
  have N9 := newsDrop (news' := (src, listOf #[.ref cl, .int at2 t2] n2) :: snE) N8 (fun p hp => .tail _ (.tail _ hp))
  clear N8
  with_reducible refine wpAny_truthy_bool ?_
  with_reducible refine ite_ff ?_
  (repeat' (first | wtm_at "s1" | ((fail_if_success (rename (Nat → True) => zz)); with_reducible refine hd_ifexp ?_) | ((fail_if_success fail_if_success with_reducible refine at_call ?_); (first | (with_reducible refine hold_at 314 ?_) | (with_reducible refine hold_at 321 ?_) | (with_reducible refine hold_at 307 ?_) | (with_reducible refine hold_at 293 ?_) | (with_reducible refine hold_at 411 ?_) | (with_reducible refine hold_at 387 ?_) | ((with_reducible show wpAny _ _ (call (Value.ref 397) [_]) _ _ _); k_dflt (refine' ref1_spec ?sX9 ?sT9 ?sd9 ?su9 ?_; (case sX9 => k_in); (case sT9 => wtm_at "T"); (case sd9 => first | decide | (simp only [depth_deeper, depth_caller]; first | decide | omega)); (case su9 => first | decide | (simp only [units_deeper, units_caller]; first | decide | omega)); k_whole); intro o'9 t0'9 n'9 h'9 tk'9 hE'9 ho'9 hr'9; wtm_at "PA") | ((with_reducible show wpAny _ _ (call (Value.ref 372) _) _ _ _); k_dflt (refine' draw_law ?sF9 ?sN9 ?sX9 ?sT9 ?sm9 ?sc9 ?hcs9 ?hI9 ?h09 ?h19 ?U9 ?sd9 ?su9 ?b19 ?b29 ?b39 ?b49 ?_; (case sF9 => k_asm); (case sN9 => k_asm); (case sX9 => assumption); (case sT9 => assumption); (case sm9 => k_mem); (case sc9 => k_mem); (case hcs9 => assumption); (case hI9 => assumption); (case h09 => assumption); (case h19 => assumption); (case U9 => (intro t9 n9; k_upd)); (case sd9 => first | decide | (simp only [depth_deeper, depth_caller]; first | decide | omega)); (case su9 => first | decide | (simp only [units_deeper, units_caller]; first | decide | omega)); (case b19 => omega); (case b29 => omega); (case b39 => decide); (case b49 => decide); k_whole); intro k'9 h'9 tk'9 tk2'9 t2'9 n2'9 hk0'9 hk1'9 F'9 N'9; (try k_sweep)))) | ((rename (Nat → Nat → Nat → True) => zz); (fail_if_success (rename (_ == Str.ofString "=") = _ => zz9)); with_reducible refine hd_if ?_) | ((rename (Nat → Nat → True) => zz); with_reducible refine hd_app ?_) | ((rename (Nat → Nat → True) => zz); with_reducible refine hd_iter ?_) | (with_reducible refine hd_for ?_) | ((fail_if_success fail_if_success with_reducible refine at_sub ?_); (first | ((with_reducible show wpAny _ _ (subscriptTail _ _ (Value.ref _) (Value.int _ _)) _ _ _); (rename (Nat → Nat → True) => zz); with_reducible refine hold ?_) | ((with_reducible show wpAny _ _ (subscriptTail _ _ (Value.ref _) (Value.int 1 _)) _ _ _); refine tup_at1 (News.isTup (by k_asm) (by k_mem)) ?_ (by with_unfolding_all rfl)))) | (with_reducible refine hd_ceq ?_) | (with_reducible refine hd_cne ?_) | first | with_reducible refine ite_ff ?_ | with_reducible refine ite_tt ?_ | ((fail_if_success fail_if_success with_reducible refine at_name ?_); (k_dflt (refine' ld ?k19 ?k29 ?_; (case k19 => k_asm); (case k29 => first | assumption | ((repeat rw [if_neg (by decide)]); assumption)); k_whole))) | wtm_at "s2"))
  unfold Hold
  with_reducible refine for_gen2 ?_
  intro tg it bd ht hi hb
  with_reducible refine' For_turns ?F ?h ?hs ?hE
  (case F => k_asm)
  (case hs => intro _; rw [hi]; rfl)
  (case hE => passes_own)
  subst hi
  (repeat' (first | wtm_at "s1" | ((fail_if_success (rename (Nat → True) => zz)); with_reducible refine hd_ifexp ?_) | ((fail_if_success fail_if_success with_reducible refine at_call ?_); (first | (with_reducible refine hold_at 314 ?_) | (with_reducible refine hold_at 321 ?_) | (with_reducible refine hold_at 307 ?_) | (with_reducible refine hold_at 293 ?_) | (with_reducible refine hold_at 411 ?_) | (with_reducible refine hold_at 387 ?_) | ((with_reducible show wpAny _ _ (call (Value.ref 397) [_]) _ _ _); k_dflt (refine' ref1_spec ?sX9 ?sT9 ?sd9 ?su9 ?_; (case sX9 => k_in); (case sT9 => wtm_at "T"); (case sd9 => first | decide | (simp only [depth_deeper, depth_caller]; first | decide | omega)); (case su9 => first | decide | (simp only [units_deeper, units_caller]; first | decide | omega)); k_whole); intro o'9 t0'9 n'9 h'9 tk'9 hE'9 ho'9 hr'9; wtm_at "PA") | ((with_reducible show wpAny _ _ (call (Value.ref 372) _) _ _ _); k_dflt (refine' draw_law ?sF9 ?sN9 ?sX9 ?sT9 ?sm9 ?sc9 ?hcs9 ?hI9 ?h09 ?h19 ?U9 ?sd9 ?su9 ?b19 ?b29 ?b39 ?b49 ?_; (case sF9 => k_asm); (case sN9 => k_asm); (case sX9 => assumption); (case sT9 => assumption); (case sm9 => k_mem); (case sc9 => k_mem); (case hcs9 => assumption); (case hI9 => assumption); (case h09 => assumption); (case h19 => assumption); (case U9 => (intro t9 n9; k_upd)); (case sd9 => first | decide | (simp only [depth_deeper, depth_caller]; first | decide | omega)); (case su9 => first | decide | (simp only [units_deeper, units_caller]; first | decide | omega)); (case b19 => omega); (case b29 => omega); (case b39 => decide); (case b49 => decide); k_whole); intro k'9 h'9 tk'9 tk2'9 t2'9 n2'9 hk0'9 hk1'9 F'9 N'9; (try k_sweep)))) | ((with_reducible show wpAny _ _ (call (.type "range") _ _) _ _ _); (rename Fr _ _ _ _ => F'9); (rename News _ _ _ _ => N'9); (refine range1_rows F'9 N'9 ?_); (intro h'9 tk'9 t1'9 u1'9 v1'9 hr'9 F'9 N'9 hk'9); (try k_sweep)) | ((rename (Nat → Nat → Nat → True) => zz); (fail_if_success (rename (_ == Str.ofString "=") = _ => zz9)); with_reducible refine hd_if ?_) | ((rename (Nat → Nat → True) => zz); with_reducible refine hd_app ?_) | ((rename (Nat → Nat → True) => zz); with_reducible refine hd_iter ?_) | (with_reducible refine hd_for ?_) | ((fail_if_success fail_if_success with_reducible refine at_sub ?_); (first | ((with_reducible show wpAny _ _ (subscriptTail _ _ (Value.ref _) (Value.int _ _)) _ _ _); (rename (Nat → Nat → True) => zz); with_reducible refine hold ?_) | ((with_reducible show wpAny _ _ (subscriptTail _ _ (Value.ref _) (Value.int 1 _)) _ _ _); refine tup_at1 (News.isTup (by k_asm) (by k_mem)) ?_ (by with_unfolding_all rfl)))) | (with_reducible refine hd_ceq ?_) | (with_reducible refine hd_cne ?_) | first | with_reducible refine ite_ff ?_ | with_reducible refine ite_tt ?_ | ((fail_if_success fail_if_success with_reducible refine at_name ?_); (k_dflt (refine' ld ?k19 ?k29 ?_; (case k19 => k_asm); (case k29 => first | assumption | ((repeat rw [if_neg (by decide)]); assumption)); k_whole))) | wtm_at "s2"))
  unfold Hold
  rename IsRange _ _ _ _ _ _ _ _ => hr
  rename Fr _ _ _ _ => F2
  rename News _ _ _ _ => N2
  rename_i rwl _ _ _ _ _
  have hrs : rwl ≠ src := by k_ne
  have aprw : ∀ p ∈ snE, p.1 ≠ rwl := fun p hp => (by assumption : ∀ p : Addr × Obj, p ∈ (_ :: snE) → Prod.fst p ≠ rwl) p (.tail _ hp)
  refine turnsRangeF ?hL rfl F2 N2 hr (by omega) (by omega) (JL cl src rwl a.d o nmv tnm snE due) ⟨rfl, rfl, rfl, rfl, rfl, [], 0, _, _, _, snE, f, its2, k2, [], rfl, rfl, fun p hp => hp, ap_snE, aprw, by omega, by omega, rfl, mf, by rw [List.append_nil]; exact sa1, Nat.le_refl _, .nil⟩ ?step ?fin
  (case hL => rfl)
  (case step =>
    intro i tki m₁ nw h₁ tk₁ I oI hi hJ ho F1 N1
    clear F2 N2
    obtain ⟨hm1, hm2, hm3, hm4, hm5, rs, kr, atj, tj, nj, snR, f2, its5, k5, dueR, hm6, rfl, sR, apR1, apR2, ha1, ha2, hrl, mfR, saR, hdR, rwR⟩ := hJ
    have hI1 : rwl ≠ I := ho _ (.head _)
    have hI2 : src ≠ I := ho _ (.tail _ (.head _))
    have hI3 : ∀ p ∈ snR, p.1 ≠ I := fun p hp => ho p (.tail _ (.tail _ hp))
    have hi3 : i < 3 := by omega
    have hclR := sR _ hclE
    subst ht hb
    (repeat' (first | wtm_at "s1" | ((fail_if_success (rename (Nat → True) => zz)); with_reducible refine hd_ifexp ?_) | ((fail_if_success fail_if_success with_reducible refine at_call ?_); (first | (with_reducible refine hold_at 314 ?_) | (with_reducible refine hold_at 321 ?_) | (with_reducible refine hold_at 307 ?_) | (with_reducible refine hold_at 293 ?_) | (with_reducible refine hold_at 411 ?_) | (with_reducible refine hold_at 387 ?_) | ((with_reducible show wpAny _ _ (call (Value.ref 397) [_]) _ _ _); k_dflt (refine' ref1_spec ?sX9 ?sT9 ?sd9 ?su9 ?_; (case sX9 => k_in); (case sT9 => wtm_at "T"); (case sd9 => first | decide | (simp only [depth_deeper, depth_caller]; first | decide | omega)); (case su9 => first | decide | (simp only [units_deeper, units_caller]; first | decide | omega)); k_whole); intro o'9 t0'9 n'9 h'9 tk'9 hE'9 ho'9 hr'9; wtm_at "PA") | ((with_reducible show wpAny _ _ (call (Value.ref 372) _) _ _ _); k_dflt (refine' draw_law ?sF9 ?sN9 ?sX9 ?sT9 ?sm9 ?sc9 ?hcs9 ?hI9 ?h09 ?h19 ?U9 ?sd9 ?su9 ?b19 ?b29 ?b39 ?b49 ?_; (case sF9 => k_asm); (case sN9 => k_asm); (case sX9 => assumption); (case sT9 => assumption); (case sm9 => k_mem); (case sc9 => k_mem); (case hcs9 => assumption); (case hI9 => assumption); (case h09 => assumption); (case h19 => assumption); (case U9 => (intro t9 n9; k_upd)); (case sd9 => first | decide | (simp only [depth_deeper, depth_caller]; first | decide | omega)); (case su9 => first | decide | (simp only [units_deeper, units_caller]; first | decide | omega)); (case b19 => omega); (case b29 => omega); (case b39 => decide); (case b49 => decide); k_whole); intro k'9 h'9 tk'9 tk2'9 t2'9 n2'9 hk0'9 hk1'9 F'9 N'9; (try k_sweep)))) | ((rename (Nat → Nat → Nat → True) => zz); (fail_if_success (rename (_ == Str.ofString "=") = _ => zz9)); with_reducible refine hd_if ?_) | ((rename (Nat → Nat → True) => zz); with_reducible refine hd_app ?_) | ((rename (Nat → Nat → True) => zz); with_reducible refine hd_iter ?_) | (with_reducible refine hd_for ?_) | ((fail_if_success fail_if_success with_reducible refine at_sub ?_); (first | ((with_reducible show wpAny _ _ (subscriptTail _ _ (Value.ref _) (Value.int _ _)) _ _ _); (rename (Nat → Nat → True) => zz); with_reducible refine hold ?_) | ((with_reducible show wpAny _ _ (subscriptTail _ _ (Value.ref _) (Value.int 1 _)) _ _ _); refine tup_at1 (News.isTup (by k_asm) (by k_mem)) ?_ (by with_unfolding_all rfl)))) | (with_reducible refine hd_ceq ?_) | (with_reducible refine hd_cne ?_) | first | with_reducible refine ite_ff ?_ | with_reducible refine ite_tt ?_ | ((fail_if_success fail_if_success with_reducible refine at_name ?_); (k_dflt (refine' ld ?k19 ?k29 ?_; (case k19 => k_asm); (case k29 => first | assumption | ((repeat rw [if_neg (by decide)]); assumption)); k_whole))) | wtm_at "s2"))
    unfold Hold
    rename Fr _ _ _ _ => F2
    rename News _ _ _ _ => N2
    refine' pick_str ?t ?st ?h0 ?h1 ?h2 ?_ ?hs
    (case t => exact News.isTup N2 (.head _))
    (case st => exact (.cons _ _ (.cons _ _ (.cons _ _ (.cons _ _ .nil)))))
    (case h0 => assumption)
    (case h1 => assumption)
    (case h2 => exact Int.lt_trans (by assumption) (by decide))
    (case hs => with_unfolding_all rfl)
    intro gnm tgn hgn
    (repeat' (first | wtm_at "s1" | ((fail_if_success (rename (Nat → True) => zz)); with_reducible refine hd_ifexp ?_) | ((fail_if_success fail_if_success with_reducible refine at_call ?_); (first | (with_reducible refine hold_at 314 ?_) | (with_reducible refine hold_at 321 ?_) | (with_reducible refine hold_at 307 ?_) | (with_reducible refine hold_at 293 ?_) | (with_reducible refine hold_at 411 ?_) | (with_reducible refine hold_at 387 ?_) | ((with_reducible show wpAny _ _ (call (Value.ref 397) [_]) _ _ _); k_dflt (refine' ref1_spec ?sX9 ?sT9 ?sd9 ?su9 ?_; (case sX9 => k_in); (case sT9 => wtm_at "T"); (case sd9 => first | decide | (simp only [depth_deeper, depth_caller]; first | decide | omega)); (case su9 => first | decide | (simp only [units_deeper, units_caller]; first | decide | omega)); k_whole); intro oR t0'9 n'9 h'9 tk'9 hE'9 ho'9 hr'9; wtm_at "PA") | ((with_reducible show wpAny _ _ (call (Value.ref 372) _) _ _ _); k_dflt (refine' draw_law ?sF9 ?sN9 ?sX9 ?sT9 ?sm9 ?sc9 ?hcs9 ?hI9 ?h09 ?h19 ?U9 ?sd9 ?su9 ?b19 ?b29 ?b39 ?b49 ?_; (case sF9 => k_asm); (case sN9 => k_asm); (case sX9 => assumption); (case sT9 => assumption); (case sm9 => k_mem); (case sc9 => k_mem); (case hcs9 => assumption); (case hI9 => assumption); (case h09 => assumption); (case h19 => assumption); (case U9 => (intro t9 n9; k_upd)); (case sd9 => first | decide | (simp only [depth_deeper, depth_caller]; first | decide | omega)); (case su9 => first | decide | (simp only [units_deeper, units_caller]; first | decide | omega)); (case b19 => omega); (case b29 => omega); (case b39 => decide); (case b49 => decide); k_whole); intro kq h'9 tk'9 tk2'9 t2'9 n2'9 hk0'9 hk1'9 F'9 N'9; (try k_sweep)))) | (first | ((rename (Nat → Nat → Nat → True) => zz3); first | with_reducible refine ite_ff ?_ | with_reducible refine ite_tt ?_ | (rw [if_neg (by decide)]) | (rw [if_pos (by decide)]) | ((rename (_ == Str.ofString "=") = _ => hb9); simp only [bne, hb9, Bool.not_true, Bool.not_false]; first | with_reducible refine ite_ff ?_ | with_reducible refine ite_tt ?_)) | first | with_reducible refine ite_ff ?_ | with_reducible refine ite_tt ?_) | ((rename (Nat → Nat → Nat → True) => zz); (fail_if_success (rename (_ == Str.ofString "=") = _ => zz9)); with_reducible refine hd_if ?_) | ((rename (Nat → Nat → True) => zz); with_reducible refine hd_app ?_) | ((rename (Nat → Nat → True) => zz); with_reducible refine hd_iter ?_) | (with_reducible refine hd_for ?_) | ((fail_if_success fail_if_success with_reducible refine at_sub ?_); (first | ((with_reducible show wpAny _ _ (subscriptTail _ _ (Value.ref _) (Value.int _ _)) _ _ _); (rename (Nat → Nat → True) => zz); with_reducible refine hold ?_) | ((with_reducible show wpAny _ _ (subscriptTail _ _ (Value.ref _) (Value.int 1 _)) _ _ _); refine tup_at1 (News.isTup (by k_asm) (by k_mem)) ?_ (by with_unfolding_all rfl)))) | (with_reducible refine hd_ceq ?_) | (with_reducible refine hd_cne ?_) | ((fail_if_success fail_if_success with_reducible refine at_name ?_); (k_dflt (refine' ld ?k19 ?k29 ?_; (case k19 => k_asm); (case k29 => first | assumption | ((repeat rw [if_neg (by decide)]); assumption)); k_whole))) | wtm_at "s2"))
    unfold Hold
    rename Fr _ _ _ _ => F2
    rename News _ _ _ _ => N2
    rename_i row _ _
    have hr1 : row ≠ src := by k_ne
    have hr2 : row ≠ rwl := by k_ne
    have hr3 : row ≠ I := by k_ne
    have ho1 : oR ≠ src := by k_ne
    have ho2 : oR ≠ rwl := by k_ne
    have ho3 : oR ≠ I := by k_ne
    obtain ⟨tw, nr, t0r, t1r, nkr, tq, nq, N3⟩ : ∃ tw nr t0 t1 nk tq nq, News _ _ _ ((row, tupOf #[.ref oR, .bool false, .str (Txt.item (Str.ofString "=+-*/") kq) tw] nr) :: (oR, tupOf #[.str (Str.ofString "ref") t0, .str gnm t1, .ref 389, .ref 388, .none] nk) :: (I, oI) :: (rwl, listOf rs.toArray kr) :: (src, listOf #[.ref cl, .int (atj + 1 + 1) tq] nq) :: snR) := ⟨_, _, _, _, _, _, _, newsDrop N2 fun p hp => by
      rcases List.mem_cons.mp hp with rfl | hp
      · exact .head _
      rcases List.mem_cons.mp hp with rfl | hp
      · exact .tail _ (.head _)
      · exact .tail _ (.tail _ (.tail _ hp))⟩
    clear N2
    refine append_K F2 N3 (.tail hr2 (.tail ho2 (.tail (Ne.symm hI1) (.head fun p hp => by
      rcases List.mem_cons.mp hp with rfl | hp
      · exact Ne.symm hrs
      · exact apR2 p hp)))) ?_ (by show _ ≤ 16777216; rw [List.size_toArray, hrl]; omega)
    intro h9 F9 N9
    simp only [List.push_toArray] at N9
    clear F2 N3
    have zz3 : Nat → Nat → Nat → True := fun _ _ _ => trivial
    have hz5 : its5.length ≤ 20 := by
      have := sa_len saR
      rw [List.length_append] at this
      omega
    have hgl := goal_in hgn
    (repeat' (first | wtm_at "s1" | ((fail_if_success (rename (Nat → True) => zz)); with_reducible refine hd_ifexp ?_) | ((fail_if_success fail_if_success with_reducible refine at_call ?_); (first | (with_reducible refine hold_at 314 ?_) | (with_reducible refine hold_at 321 ?_) | (with_reducible refine hold_at 307 ?_) | (with_reducible refine hold_at 293 ?_) | (with_reducible refine hold_at 411 ?_) | (with_reducible refine hold_at 387 ?_) | ((with_reducible show wpAny _ _ (call (Value.ref 397) [_]) _ _ _); k_dflt (refine' ref1_spec ?sX9 ?sT9 ?sd9 ?su9 ?_; (case sX9 => k_in); (case sT9 => wtm_at "T"); (case sd9 => first | decide | (simp only [depth_deeper, depth_caller]; first | decide | omega)); (case su9 => first | decide | (simp only [units_deeper, units_caller]; first | decide | omega)); k_whole); intro o'9 t0'9 n'9 h'9 tk'9 hE'9 ho'9 hr'9; wtm_at "PA") | ((with_reducible show wpAny _ _ (call (Value.ref 372) _) _ _ _); k_dflt (refine' draw_law ?sF9 ?sN9 ?sX9 ?sT9 ?sm9 ?sc9 ?hcs9 ?hI9 ?h09 ?h19 ?U9 ?sd9 ?su9 ?b19 ?b29 ?b39 ?b49 ?_; (case sF9 => k_asm); (case sN9 => k_asm); (case sX9 => assumption); (case sT9 => assumption); (case sm9 => k_mem); (case sc9 => k_mem); (case hcs9 => assumption); (case hI9 => assumption); (case h09 => assumption); (case h19 => assumption); (case U9 => (intro t9 n9; k_upd)); (case sd9 => first | decide | (simp only [depth_deeper, depth_caller]; first | decide | omega)); (case su9 => first | decide | (simp only [units_deeper, units_caller]; first | decide | omega)); (case b19 => omega); (case b29 => omega); (case b39 => decide); (case b49 => decide); k_whole); intro k'9 h'9 tk'9 tk2'9 t2'9 n2'9 hk0'9 hk1'9 F'9 N'9; (try k_sweep)))) | (first | ((rename (Nat → Nat → Nat → True) => zz3); first | with_reducible refine ite_ff ?_ | with_reducible refine ite_tt ?_ | (rw [if_neg (by decide)]) | (rw [if_pos (by decide)]) | ((rename (_ == Str.ofString "=") = _ => hb9); simp only [bne, hb9, Bool.not_true, Bool.not_false]; first | with_reducible refine ite_ff ?_ | with_reducible refine ite_tt ?_)) | first | with_reducible refine ite_ff ?_ | with_reducible refine ite_tt ?_) | ((rename (Nat → Nat → Nat → True) => zz); (fail_if_success (rename (_ == Str.ofString "=") = _ => zz9)); with_reducible refine hd_if ?_) | ((rename (Nat → Nat → True) => zz); with_reducible refine hd_app ?_) | ((rename (Nat → Nat → True) => zz); with_reducible refine hd_iter ?_) | (with_reducible refine hd_for ?_) | ((fail_if_success fail_if_success with_reducible refine at_sub ?_); (first | ((with_reducible show wpAny _ _ (subscriptTail _ _ (Value.ref _) (Value.int _ _)) _ _ _); (rename (Nat → Nat → True) => zz); with_reducible refine hold ?_) | ((with_reducible show wpAny _ _ (subscriptTail _ _ (Value.ref _) (Value.int 1 _)) _ _ _); refine tup_at1 (News.isTup (by k_asm) (by k_mem)) ?_ (by with_unfolding_all rfl)))) | (with_reducible refine hd_ceq ?_) | (with_reducible refine hd_cne ?_) | ((fail_if_success fail_if_success with_reducible refine at_name ?_); (k_dflt (refine' ld ?k19 ?k29 ?_; (case k19 => k_asm); (case k29 => first | assumption | ((repeat rw [if_neg (by decide)]); assumption)); k_whole))) | wtm_at "s2"))
    unfold Hold
    have hgn2 := hgn
    simp only [List.mem_cons, List.not_mem_nil, or_false] at hgn2
    cases hb : (Txt.item (Str.ofString "=+-*/") kq == Str.ofString "=")
    all_goals rcases hgn2 with rfl | rfl | rfl | rfl
    all_goals (repeat' (first | wtm_at "s1" | ((fail_if_success (rename (Nat → True) => zz)); with_reducible refine hd_ifexp ?_) | ((fail_if_success fail_if_success with_reducible refine at_call ?_); (first | (with_reducible refine hold_at 314 ?_) | (with_reducible refine hold_at 321 ?_) | (with_reducible refine hold_at 307 ?_) | (with_reducible refine hold_at 293 ?_) | (with_reducible refine hold_at 411 ?_) | (with_reducible refine hold_at 387 ?_) | ((with_reducible show wpAny _ _ (call (Value.ref 397) [_]) _ _ _); k_dflt (refine' ref1_spec ?sX9 ?sT9 ?sd9 ?su9 ?_; (case sX9 => k_in); (case sT9 => wtm_at "T"); (case sd9 => first | decide | (simp only [depth_deeper, depth_caller]; first | decide | omega)); (case su9 => first | decide | (simp only [units_deeper, units_caller]; first | decide | omega)); k_whole); intro o'9 t0'9 n'9 h'9 tk'9 hE'9 ho'9 hr'9; wtm_at "PA") | ((with_reducible show wpAny _ _ (call (Value.ref 372) _) _ _ _); k_dflt (refine' draw_law ?sF9 ?sN9 ?sX9 ?sT9 ?sm9 ?sc9 ?hcs9 ?hI9 ?h09 ?h19 ?U9 ?sd9 ?su9 ?b19 ?b29 ?b39 ?b49 ?_; (case sF9 => k_asm); (case sN9 => k_asm); (case sX9 => assumption); (case sT9 => assumption); (case sm9 => k_mem); (case sc9 => k_mem); (case hcs9 => assumption); (case hI9 => assumption); (case h09 => assumption); (case h19 => assumption); (case U9 => (intro t9 n9; k_upd)); (case sd9 => first | decide | (simp only [depth_deeper, depth_caller]; first | decide | omega)); (case su9 => first | decide | (simp only [units_deeper, units_caller]; first | decide | omega)); (case b19 => omega); (case b29 => omega); (case b39 => decide); (case b49 => decide); k_whole); intro k'9 h'9 tk'9 tk2'9 t2'9 n2'9 hk0'9 hk1'9 F'9 N'9; (try k_sweep)))) | ((fail_if_success fail_if_success with_reducible refine at_bin ?_); ((with_reducible show wpAny _ _ (binaryOp _ (Value.ref _) (Value.ref _)) _ _ _); k_dflt (refine' kmk_add_lit ?F9 ?N9 ?a9 ?b9 ?e9 ?_ ?z9; (case F9 => k_asm); (case N9 => k_asm); (case a9 => is_list); (case b9 => is_list); (case e9 => exact rfl); (case z9 => (show _ ≤ 16777216; (try simp only [List.toList_toArray, List.length_append, List.length_cons, List.length_nil]); omega))); intro D'9 h'9 F'9 N'9 l1; (try k_lt l1); (try k_sweep))) | (first | ((rename (Nat → Nat → Nat → True) => zz3); first | with_reducible refine ite_ff ?_ | with_reducible refine ite_tt ?_ | (rw [if_neg (by decide)]) | (rw [if_pos (by decide)]) | ((rename (_ == Str.ofString "=") = _ => hb9); simp only [bne, hb9, Bool.not_true, Bool.not_false]; first | with_reducible refine ite_ff ?_ | with_reducible refine ite_tt ?_)) | first | with_reducible refine ite_ff ?_ | with_reducible refine ite_tt ?_) | ((rename (Nat → Nat → Nat → True) => zz); (fail_if_success (rename (_ == Str.ofString "=") = _ => zz9)); with_reducible refine hd_if ?_) | ((rename (Nat → Nat → True) => zz); with_reducible refine hd_app ?_) | ((rename (Nat → Nat → True) => zz); with_reducible refine hd_iter ?_) | (with_reducible refine hd_for ?_) | ((fail_if_success fail_if_success with_reducible refine at_sub ?_); (first | ((with_reducible show wpAny _ _ (subscriptTail _ _ (Value.ref _) (Value.int _ _)) _ _ _); (rename (Nat → Nat → True) => zz); with_reducible refine hold ?_) | ((with_reducible show wpAny _ _ (subscriptTail _ _ (Value.ref _) (Value.int 1 _)) _ _ _); refine tup_at1 (News.isTup (by k_asm) (by k_mem)) ?_ (by with_unfolding_all rfl)))) | (with_reducible refine hd_ceq ?_) | (with_reducible refine hd_cne ?_) | ((fail_if_success fail_if_success with_reducible refine at_name ?_); (k_dflt (refine' ld ?k19 ?k29 ?_; (case k19 => k_asm); (case k29 => first | assumption | ((repeat rw [if_neg (by decide)]); assumption)); k_whole))) | wtm_at "s2"))
    all_goals
      rename Fr _ _ _ _ => F9
      rename News _ _ _ _ => N9
    all_goals rename (_ == Str.ofString "=") = _ => hb
    all_goals try (rename (_ != _) = _ => ha9; rw [bne, hb] at ha9; exact absurd ha9 (by decide))
    · with_reducible refine' turn_end (xs := [_]) (D := []) (fn := f2) (itsN := its5) ?g1 ?g2 ?g3 F9 ?hN ?m1 ?m2 ?m3 ?m4 ?m5 ?m6 sR apR1 apR2 hI1 hI2 hI3 ?a1 ?a2 hrl hdR rwR hgl ?d1 ?dl ⟨hr1, hr2, hr3⟩ ⟨ho1, ho2, ho3⟩ ?x1 ?mf ?s1
      (case hN => exact N9)
      (case g1 => rfl); (case g2 => rfl); (case g3 => rfl)
      (case m1 => exact (by first | assumption | ((repeat rw [if_neg (by decide)]); assumption)))
      (case m2 => exact (by first | assumption | ((repeat rw [if_neg (by decide)]); assumption)))
      (case m3 => exact (by first | assumption | ((repeat rw [if_neg (by decide)]); assumption)))
      (case m4 => exact (by first | assumption | ((repeat rw [if_neg (by decide)]); assumption)))
      (case m5 => exact (by first | assumption | ((repeat rw [if_neg (by decide)]); assumption)))
      (case m6 => exact (by first | assumption | ((repeat rw [if_neg (by decide)]); assumption)))
      (case a1 => omega)
      (case a2 => omega)
      (case d1 => (rw [hb]; decide))
      (case dl => exact Nat.zero_le _)
      (case x1 => (intro p hp; rw [List.mem_singleton.mp hp]; exact ⟨by k_ne, by k_ne, by k_ne⟩))
      (case mf => exact List.mem_append_right _ mfR)
      (case s1 => (rw [List.append_nil]; exact saR))
      all_goals exact default
    · with_reducible refine' turn_end (xs := [_, _, _]) (D := [Str.ofString "NE"]) (fn := _) (itsN := its5 ++ [Value.str (Str.ofString "NE") tgn]) ?g1 ?g2 ?g3 F9 ?hN ?m1 ?m2 ?m3 ?m4 ?m5 ?m6 sR apR1 apR2 hI1 hI2 hI3 ?a1 ?a2 hrl hdR rwR hgl ?d1 ?dl ⟨hr1, hr2, hr3⟩ ⟨ho1, ho2, ho3⟩ ?x1 ?mf ?s1
      (case hN => exact N9)
      (case g1 => rfl); (case g2 => rfl); (case g3 => rfl)
      (case m1 => exact (by first | assumption | ((repeat rw [if_neg (by decide)]); assumption)))
      (case m2 => exact (by first | assumption | ((repeat rw [if_neg (by decide)]); assumption)))
      (case m3 => exact (by first | assumption | ((repeat rw [if_neg (by decide)]); assumption)))
      (case m4 => exact (by first | assumption | ((repeat rw [if_neg (by decide)]); assumption)))
      (case m5 => exact (by first | assumption | ((repeat rw [if_neg (by decide)]); assumption)))
      (case m6 => exact rfl)
      (case a1 => omega)
      (case a2 => omega)
      (case d1 => (rw [hb]; decide))
      (case dl => exact Nat.le_refl _)
      (case x1 => (intro p hp; simp only [List.mem_cons, List.not_mem_nil, or_false] at hp; rcases hp with rfl | rfl | rfl <;> exact ⟨by k_ne, by k_ne, by k_ne⟩))
      (case mf => exact .head _)
      (case s1 => (rw [← List.append_assoc]; exact sa_app saR (.cons _ _ .nil)))
      all_goals exact default
    · with_reducible refine' turn_end (xs := [_, _, _]) (D := [Str.ofString "AN"]) (fn := _) (itsN := its5 ++ [Value.str (Str.ofString "AN") tgn]) ?g1 ?g2 ?g3 F9 ?hN ?m1 ?m2 ?m3 ?m4 ?m5 ?m6 sR apR1 apR2 hI1 hI2 hI3 ?a1 ?a2 hrl hdR rwR hgl ?d1 ?dl ⟨hr1, hr2, hr3⟩ ⟨ho1, ho2, ho3⟩ ?x1 ?mf ?s1
      (case hN => exact N9)
      (case g1 => rfl); (case g2 => rfl); (case g3 => rfl)
      (case m1 => exact (by first | assumption | ((repeat rw [if_neg (by decide)]); assumption)))
      (case m2 => exact (by first | assumption | ((repeat rw [if_neg (by decide)]); assumption)))
      (case m3 => exact (by first | assumption | ((repeat rw [if_neg (by decide)]); assumption)))
      (case m4 => exact (by first | assumption | ((repeat rw [if_neg (by decide)]); assumption)))
      (case m5 => exact (by first | assumption | ((repeat rw [if_neg (by decide)]); assumption)))
      (case m6 => exact rfl)
      (case a1 => omega)
      (case a2 => omega)
      (case d1 => (rw [hb]; decide))
      (case dl => exact Nat.le_refl _)
      (case x1 => (intro p hp; simp only [List.mem_cons, List.not_mem_nil, or_false] at hp; rcases hp with rfl | rfl | rfl <;> exact ⟨by k_ne, by k_ne, by k_ne⟩))
      (case mf => exact .head _)
      (case s1 => (rw [← List.append_assoc]; exact sa_app saR (.cons _ _ .nil)))
      all_goals exact default
    · with_reducible refine' turn_end (xs := [_, _, _]) (D := [Str.ofString "NO"]) (fn := _) (itsN := its5 ++ [Value.str (Str.ofString "NO") tgn]) ?g1 ?g2 ?g3 F9 ?hN ?m1 ?m2 ?m3 ?m4 ?m5 ?m6 sR apR1 apR2 hI1 hI2 hI3 ?a1 ?a2 hrl hdR rwR hgl ?d1 ?dl ⟨hr1, hr2, hr3⟩ ⟨ho1, ho2, ho3⟩ ?x1 ?mf ?s1
      (case hN => exact N9)
      (case g1 => rfl); (case g2 => rfl); (case g3 => rfl)
      (case m1 => exact (by first | assumption | ((repeat rw [if_neg (by decide)]); assumption)))
      (case m2 => exact (by first | assumption | ((repeat rw [if_neg (by decide)]); assumption)))
      (case m3 => exact (by first | assumption | ((repeat rw [if_neg (by decide)]); assumption)))
      (case m4 => exact (by first | assumption | ((repeat rw [if_neg (by decide)]); assumption)))
      (case m5 => exact (by first | assumption | ((repeat rw [if_neg (by decide)]); assumption)))
      (case m6 => exact rfl)
      (case a1 => omega)
      (case a2 => omega)
      (case d1 => (rw [hb]; decide))
      (case dl => exact Nat.le_refl _)
      (case x1 => (intro p hp; simp only [List.mem_cons, List.not_mem_nil, or_false] at hp; rcases hp with rfl | rfl | rfl <;> exact ⟨by k_ne, by k_ne, by k_ne⟩))
      (case mf => exact .head _)
      (case s1 => (rw [← List.append_assoc]; exact sa_app saR (.cons _ _ .nil)))
      all_goals exact default
    · with_reducible refine' turn_end (xs := [_]) (D := []) (fn := f2) (itsN := its5) ?g1 ?g2 ?g3 F9 ?hN ?m1 ?m2 ?m3 ?m4 ?m5 ?m6 sR apR1 apR2 hI1 hI2 hI3 ?a1 ?a2 hrl hdR rwR hgl ?d1 ?dl ⟨hr1, hr2, hr3⟩ ⟨ho1, ho2, ho3⟩ ?x1 ?mf ?s1
      (case hN => exact N9)
      (case g1 => rfl); (case g2 => rfl); (case g3 => rfl)
      (case m1 => exact (by first | assumption | ((repeat rw [if_neg (by decide)]); assumption)))
      (case m2 => exact (by first | assumption | ((repeat rw [if_neg (by decide)]); assumption)))
      (case m3 => exact (by first | assumption | ((repeat rw [if_neg (by decide)]); assumption)))
      (case m4 => exact (by first | assumption | ((repeat rw [if_neg (by decide)]); assumption)))
      (case m5 => exact (by first | assumption | ((repeat rw [if_neg (by decide)]); assumption)))
      (case m6 => exact (by first | assumption | ((repeat rw [if_neg (by decide)]); assumption)))
      (case a1 => omega)
      (case a2 => omega)
      (case d1 => (rw [hb]; decide))
      (case dl => exact Nat.zero_le _)
      (case x1 => (intro p hp; rw [List.mem_singleton.mp hp]; exact ⟨by k_ne, by k_ne, by k_ne⟩))
      (case mf => exact List.mem_append_right _ mfR)
      (case s1 => (rw [List.append_nil]; exact saR))
      all_goals exact default
    · with_reducible refine' turn_end (xs := [_]) (D := []) (fn := f2) (itsN := its5) ?g1 ?g2 ?g3 F9 ?hN ?m1 ?m2 ?m3 ?m4 ?m5 ?m6 sR apR1 apR2 hI1 hI2 hI3 ?a1 ?a2 hrl hdR rwR hgl ?d1 ?dl ⟨hr1, hr2, hr3⟩ ⟨ho1, ho2, ho3⟩ ?x1 ?mf ?s1
      (case hN => exact N9)
      (case g1 => rfl); (case g2 => rfl); (case g3 => rfl)
      (case m1 => exact (by first | assumption | ((repeat rw [if_neg (by decide)]); assumption)))
      (case m2 => exact (by first | assumption | ((repeat rw [if_neg (by decide)]); assumption)))
      (case m3 => exact (by first | assumption | ((repeat rw [if_neg (by decide)]); assumption)))
      (case m4 => exact (by first | assumption | ((repeat rw [if_neg (by decide)]); assumption)))
      (case m5 => exact (by first | assumption | ((repeat rw [if_neg (by decide)]); assumption)))
      (case m6 => exact (by first | assumption | ((repeat rw [if_neg (by decide)]); assumption)))
      (case a1 => omega)
      (case a2 => omega)
      (case d1 => (rw [hb]; decide))
      (case dl => exact Nat.zero_le _)
      (case x1 => (intro p hp; rw [List.mem_singleton.mp hp]; exact ⟨by k_ne, by k_ne, by k_ne⟩))
      (case mf => exact List.mem_append_right _ mfR)
      (case s1 => (rw [List.append_nil]; exact saR))
      all_goals exact default
    · with_reducible refine' turn_end (xs := [_, _, _]) (D := [Str.ofString "AN"]) (fn := _) (itsN := its5 ++ [Value.str (Str.ofString "AN") tgn]) ?g1 ?g2 ?g3 F9 ?hN ?m1 ?m2 ?m3 ?m4 ?m5 ?m6 sR apR1 apR2 hI1 hI2 hI3 ?a1 ?a2 hrl hdR rwR hgl ?d1 ?dl ⟨hr1, hr2, hr3⟩ ⟨ho1, ho2, ho3⟩ ?x1 ?mf ?s1
      (case hN => exact N9)
      (case g1 => rfl); (case g2 => rfl); (case g3 => rfl)
      (case m1 => exact (by first | assumption | ((repeat rw [if_neg (by decide)]); assumption)))
      (case m2 => exact (by first | assumption | ((repeat rw [if_neg (by decide)]); assumption)))
      (case m3 => exact (by first | assumption | ((repeat rw [if_neg (by decide)]); assumption)))
      (case m4 => exact (by first | assumption | ((repeat rw [if_neg (by decide)]); assumption)))
      (case m5 => exact (by first | assumption | ((repeat rw [if_neg (by decide)]); assumption)))
      (case m6 => exact rfl)
      (case a1 => omega)
      (case a2 => omega)
      (case d1 => (rw [hb]; decide))
      (case dl => exact Nat.le_refl _)
      (case x1 => (intro p hp; simp only [List.mem_cons, List.not_mem_nil, or_false] at hp; rcases hp with rfl | rfl | rfl <;> exact ⟨by k_ne, by k_ne, by k_ne⟩))
      (case mf => exact .head _)
      (case s1 => (rw [← List.append_assoc]; exact sa_app saR (.cons _ _ .nil)))
      all_goals exact default
    · with_reducible refine' turn_end (xs := [_, _, _]) (D := [Str.ofString "NO"]) (fn := _) (itsN := its5 ++ [Value.str (Str.ofString "NO") tgn]) ?g1 ?g2 ?g3 F9 ?hN ?m1 ?m2 ?m3 ?m4 ?m5 ?m6 sR apR1 apR2 hI1 hI2 hI3 ?a1 ?a2 hrl hdR rwR hgl ?d1 ?dl ⟨hr1, hr2, hr3⟩ ⟨ho1, ho2, ho3⟩ ?x1 ?mf ?s1
      (case hN => exact N9)
      (case g1 => rfl); (case g2 => rfl); (case g3 => rfl)
      (case m1 => exact (by first | assumption | ((repeat rw [if_neg (by decide)]); assumption)))
      (case m2 => exact (by first | assumption | ((repeat rw [if_neg (by decide)]); assumption)))
      (case m3 => exact (by first | assumption | ((repeat rw [if_neg (by decide)]); assumption)))
      (case m4 => exact (by first | assumption | ((repeat rw [if_neg (by decide)]); assumption)))
      (case m5 => exact (by first | assumption | ((repeat rw [if_neg (by decide)]); assumption)))
      (case m6 => exact rfl)
      (case a1 => omega)
      (case a2 => omega)
      (case d1 => (rw [hb]; decide))
      (case dl => exact Nat.le_refl _)
      (case x1 => (intro p hp; simp only [List.mem_cons, List.not_mem_nil, or_false] at hp; rcases hp with rfl | rfl | rfl <;> exact ⟨by k_ne, by k_ne, by k_ne⟩))
      (case mf => exact .head _)
      (case s1 => (rw [← List.append_assoc]; exact sa_app saR (.cons _ _ .nil)))
      all_goals exact default
    done)
  (case fin =>
    intro h9 tk9 m9 nw F1 N1 hJ
    clear F2 N2 ht hb
    obtain ⟨hm1, hm2, hm3, hm4, hm5, rs, kr, atj, tj, nj, snR, f2, its5, k5, dueR, hm6, rfl, sR, apR1, apR2, ha1, ha2, hrl, mfR, saR, hdR, rwR⟩ := hJ
    (repeat' (first | wtm_at "s1" | ((fail_if_success (rename (Nat → True) => zz)); with_reducible refine hd_ifexp ?_) | ((fail_if_success fail_if_success with_reducible refine at_call ?_); (first | (with_reducible refine hold_at 314 ?_) | (with_reducible refine hold_at 321 ?_) | (with_reducible refine hold_at 307 ?_) | (with_reducible refine hold_at 293 ?_) | (with_reducible refine hold_at 411 ?_) | (with_reducible refine hold_at 387 ?_) | ((with_reducible show wpAny _ _ (call (Value.ref 397) [_]) _ _ _); k_dflt (refine' ref1_spec ?sX9 ?sT9 ?sd9 ?su9 ?_; (case sX9 => k_in); (case sT9 => wtm_at "T"); (case sd9 => first | decide | (simp only [depth_deeper, depth_caller]; first | decide | omega)); (case su9 => first | decide | (simp only [units_deeper, units_caller]; first | decide | omega)); k_whole); intro o'9 t0'9 n'9 h'9 tk'9 hE'9 ho'9 hr'9; wtm_at "PA") | ((with_reducible show wpAny _ _ (call (Value.ref 372) _) _ _ _); k_dflt (refine' draw_law ?sF9 ?sN9 ?sX9 ?sT9 ?sm9 ?sc9 ?hcs9 ?hI9 ?h09 ?h19 ?U9 ?sd9 ?su9 ?b19 ?b29 ?b39 ?b49 ?_; (case sF9 => k_asm); (case sN9 => k_asm); (case sX9 => assumption); (case sT9 => assumption); (case sm9 => k_mem); (case sc9 => k_mem); (case hcs9 => assumption); (case hI9 => assumption); (case h09 => assumption); (case h19 => assumption); (case U9 => (intro t9 n9; k_upd)); (case sd9 => first | decide | (simp only [depth_deeper, depth_caller]; first | decide | omega)); (case su9 => first | decide | (simp only [units_deeper, units_caller]; first | decide | omega)); (case b19 => omega); (case b29 => omega); (case b39 => decide); (case b49 => decide); k_whole); intro k'9 h'9 tk'9 tk2'9 t2'9 n2'9 hk0'9 hk1'9 F'9 N'9; (try k_sweep)))) | ((rename (Nat → Nat → Nat → True) => zz); (fail_if_success (rename (_ == Str.ofString "=") = _ => zz9)); with_reducible refine hd_if ?_) | ((rename (Nat → Nat → True) => zz); with_reducible refine hd_app ?_) | ((rename (Nat → Nat → True) => zz); with_reducible refine hd_iter ?_) | (with_reducible refine hd_for ?_) | ((with_reducible show wpAny _ _ (exec (Stmt.Assign [_] (Expr.ListComp (Expr.Subscript _ _ _) _ _ _) _) _) _ _ _); k_dflt (refine LCg.Assign_ListComp_U (F₀ := by k_asm) (by rfl) (by with_unfolding_all rfl) (by rfl) (by decide) (by rfl) (by decide) (by rfl) (by rfl) (by rfl) ?_); (try k_dflt lcg_toSrc)) | ((fail_if_success fail_if_success with_reducible refine at_sub ?_); (first | ((with_reducible show wpAny _ _ (subscriptTail _ _ (Value.ref _) (Value.int _ _)) _ _ _); (rename (Nat → Nat → True) => zz); with_reducible refine hold ?_) | ((with_reducible show wpAny _ _ (subscriptTail _ _ (Value.ref _) (Value.int 1 _)) _ _ _); refine tup_at1 (News.isTup (by k_asm) (by k_mem)) ?_ (by with_unfolding_all rfl)))) | (with_reducible refine hd_ceq ?_) | (with_reducible refine hd_cne ?_) | ((with_reducible show wpAny _ _ (eval (Expr.ListComp (Expr.Subscript _ _ _) _ _ _) _) _ _ _); k_dflt (refine LCg.ListComp_U (F₀ := by k_asm) (by rfl) (by decide) (by rfl) (by decide) (by rfl) ?_); (try k_dflt lcg_toSrc)) | first | with_reducible refine ite_ff ?_ | with_reducible refine ite_tt ?_ | ((fail_if_success fail_if_success with_reducible refine at_name ?_); (k_dflt (refine' ld ?k19 ?k29 ?_; (case k19 => k_asm); (case k29 => first | assumption | ((repeat rw [if_neg (by decide)]); assumption)); k_whole))) | wtm_at "s2"))
    unfold Hold
    rename Fr _ _ _ _ => F2
    rename News _ _ _ _ => N1
    rename_i tp _ _
    have htp : tp ≠ src := fun e => by
      have g1 := N1.get (.head _)
      have g2 := N1.get (.tail _ (.tail _ (.head _)))
      rw [e, g2] at g1
      exact absurd (Value.type.inj (congrArg Obj.cls (Option.some.inj g1))) (by decide)
    obtain ⟨ntp, N2⟩ : ∃ n, News _ _ _ ((tp, tupOf rs.toArray n) :: (rwl, listOf rs.toArray kr) :: (src, listOf #[.ref cl, .int atj tj] nj) :: snR) := ⟨_, N1⟩
    obtain ⟨snF, hsnF⟩ : ∃ sn9, sn9 = (tp, tupOf rs.toArray ntp) :: snR := ⟨_, rfl⟩
    have N3 := newsDrop (news' := (src, listOf #[.ref cl, .int atj tj] nj) :: snF) N2 (fun p hp => by
      rcases List.mem_cons.mp hp with rfl | hp
      · exact .tail _ (.tail _ (.head _))
      rw [hsnF] at hp
      rcases List.mem_cons.mp hp with rfl | hp
      · exact .head _
      · exact .tail _ (.tail _ (.tail _ hp)))
    have ap_snF : ∀ p ∈ snF, p.1 ≠ src := fun p hp => by
      rw [hsnF] at hp
      rcases List.mem_cons.mp hp with rfl | hp
      · exact htp
      · exact apR1 p hp
    have sF : ∀ p ∈ snR, p ∈ snF := fun p hp => by rw [hsnF]; exact .tail _ hp
    have mtp : (tp, tupOf rs.toArray ntp) ∈ snF := by rw [hsnF]; exact .head _
    clear hsnF N1 htp apR1 apR2
    have hB : ∀ p ∈ snF, (two _ _ src).get? p.1 = some p.2 := fun p hp => two_news N3 (.tail _ hp) (ap_snF p hp)
    have hb := two_base F2 (N3.fresh (.head _))
    have DD := (DE.mono fun p hp => sF _ (sR _ hp)).at hB
    obtain ⟨oL, esL, epL, hoL, hdL, rL⟩ := F2.ns
    refine arith_spec (vs := rs) (ex_of (Frag.In.keeps (by assumption) hb) (Top.keeps (by assumption) hb) DD (TE.mono fun a ob z => hB _ (sF _ (sR _ z)))) (cx_law F2 N3 (by assumption) (by assumption) (.head _) rfl rfl DD) (by first | decide | (simp only [depth_deeper, depth_caller]; first | decide | omega)) (by first | decide | (simp only [units_deeper, units_caller]; first | decide | omega)) (by omega) rfl hoL ⟨_, hB _ mtp, rfl, _, rfl⟩ (rw_of (Frag.In.keeps (by assumption) hb) (Top.keeps (by assumption) hb) DD (rwR.mono fun a o z => hB _ (sF _ z))) ?_
    intro r2 ps2 k3 h4 tk4 x1 x2 x3 x4
    obtain ⟨F5, N5⟩ := law_after F2 N3 x1
    obtain ⟨snp, p1, M1⟩ := x4.ledger
    have N6 := newsPlus (ls := (r2, listOf (ps2.map Value.ref).toArray k3) :: snp) F2 N5 (fun p hp => by
      rcases List.mem_cons.mp hp with rfl | hp
      · exact ⟨x2, x3⟩
      · exact p1 p hp)
    have hpl := M1.length
    obtain ⟨snG, hsnB⟩ : ∃ sn9, sn9 = (r2, listOf (ps2.map Value.ref).toArray k3) :: (snp ++ snF) := ⟨_, rfl⟩
    have N7 := newsDrop (news' := (src, listOf #[.ref cl, .int atj tj] nj) :: snG) N6 (fun p hp => by
      rcases List.mem_cons.mp hp with rfl | hp
      · exact List.mem_append_right _ (.head _)
      rw [hsnB] at hp
      rcases List.mem_cons.mp hp with rfl | hp
      · exact List.mem_append_left _ (.head _)
      rcases List.mem_append.mp hp with hp | hp
      · exact List.mem_append_left _ (.tail _ hp)
      · exact List.mem_append_right _ (.tail _ hp))
    have ap_snG : ∀ p ∈ snG, p.1 ≠ src := fun p hp e => by
      rw [hsnB] at hp
      have g := N3.get (.head _)
      rcases List.mem_cons.mp hp with rfl | hp
      · rw [show r2 = src from e, g] at x3; cases x3
      rcases List.mem_append.mp hp with hp | hp
      · have q := (p1 p hp).2
        rw [e, g] at q; cases q
      · exact ap_snF p hp e
    have sB : ∀ p ∈ snF, p ∈ snG := fun p hp => by rw [hsnB]; exact .tail _ (List.mem_append_right _ hp)
    have M2 : PrM (fun a o => (a, o) ∈ snG) ps2 (due ++ dueR) := M1.mono fun a ob z => by rw [hsnB]; exact .tail _ (List.mem_append_left _ z)
    have mr : (r2, listOf (ps2.map Value.ref).toArray k3) ∈ snG := by rw [hsnB]; exact .head _
    have mfG := sB _ (sF _ mfR)
    have DG := DE.mono fun p hp => sB _ (sF _ (sR _ hp))
    clear F2 N2 N3 N5 N6 hB hb x1 x2 x3 x4 p1 hsnB sB M1 ap_snF hoL hdL rL DD mfR DE sR sF mtp
    (repeat' (first | wtm_at "s1" | ((fail_if_success (rename (Nat → True) => zz)); with_reducible refine hd_ifexp ?_) | ((rename (Nat → Nat → Nat → True) => zz); (fail_if_success (rename (_ == Str.ofString "=") = _ => zz9)); with_reducible refine hd_if ?_) | ((rename (Nat → Nat → True) => zz); with_reducible refine hd_app ?_) | ((rename (Nat → Nat → True) => zz); with_reducible refine hd_iter ?_) | (with_reducible refine hd_for ?_) | ((fail_if_success fail_if_success with_reducible refine at_sub ?_); (first | ((with_reducible show wpAny _ _ (subscriptTail _ _ (Value.ref _) (Value.int _ _)) _ _ _); (rename (Nat → Nat → True) => zz); with_reducible refine hold ?_) | ((with_reducible show wpAny _ _ (subscriptTail _ _ (Value.ref _) (Value.int 1 _)) _ _ _); refine tup_at1 (News.isTup (by k_asm) (by k_mem)) ?_ (by with_unfolding_all rfl)))) | (with_reducible refine hd_ceq ?_) | (with_reducible refine hd_cne ?_) | first | with_reducible refine ite_ff ?_ | with_reducible refine ite_tt ?_ | ((fail_if_success fail_if_success with_reducible refine at_call ?_); (first | (with_reducible refine hold_at 314 ?_) | (with_reducible refine hold_at 321 ?_) | (with_reducible refine hold_at 307 ?_) | (with_reducible refine hold_at 293 ?_) | (with_reducible refine hold_at 411 ?_) | (with_reducible refine hold_at 387 ?_))) | ((fail_if_success fail_if_success with_reducible refine at_name ?_); (k_dflt (refine' ld ?k19 ?k29 ?_; (case k19 => k_asm); (case k29 => first | assumption | ((repeat rw [if_neg (by decide)]); assumption)); k_whole))) | wtm_at "s2"))
    unfold Hold
    rename Fr _ _ _ _ => F2
    rename News _ _ _ _ => N2
    have N3 := newsDrop (news' := (src, listOf #[.ref cl, .int atj tj] nj) :: snG) N2 (fun p hp => by first | exact hp | (rcases List.mem_cons.mp hp with rfl | hp <;> simp_all))
    refine LCg.CompSrc.ledger (by rfl) F2 N3 (.tail _ mr) (by show _ ≤ 16777216; rw [List.size_toArray, List.length_map, hpl]; exact Nat.le_trans ((show (due ++ dueR).length ≤ 1000 by rw [List.length_append]; omega)) (by decide)) ?_
    intro g'
    refine restIndG (fun i ys => StrsAre ys ((due ++ dueR).take i)) .nil ?_ ?_
    · intro k i ys hy ih
      refine LCg.CompRest.succ ?_
      intro v' I' oI' C' oC' D' m' h' tk' E' hv' hC' hx' F' N' off' ne'
      obtain ⟨p, nm, wh, t, n, rfl, hp, hd⟩ := prm_at M2 hv'
      (repeat' (first | wtm_at "s1" | ((fail_if_success (rename (Nat → True) => zz)); with_reducible refine hd_ifexp ?_) | ((rename (Nat → Nat → Nat → True) => zz); (fail_if_success (rename (_ == Str.ofString "=") = _ => zz9)); with_reducible refine hd_if ?_) | ((rename (Nat → Nat → True) => zz); with_reducible refine hd_app ?_) | ((rename (Nat → Nat → True) => zz); with_reducible refine hd_iter ?_) | (with_reducible refine hd_for ?_) | ((fail_if_success fail_if_success with_reducible refine at_sub ?_); (first | ((with_reducible show wpAny _ _ (subscriptTail _ _ (Value.ref _) (Value.int _ _)) _ _ _); (rename (Nat → Nat → True) => zz); with_reducible refine hold ?_) | ((with_reducible show wpAny _ _ (subscriptTail _ _ (Value.ref _) (Value.int 1 _)) _ _ _); refine tup_at1 (News.isTup (by k_asm) (by k_mem)) ?_ (by with_unfolding_all rfl)))) | (with_reducible refine hd_ceq ?_) | (with_reducible refine hd_cne ?_) | first | with_reducible refine ite_ff ?_ | with_reducible refine ite_tt ?_ | ((fail_if_success fail_if_success with_reducible refine at_call ?_); (first | (with_reducible refine hold_at 314 ?_) | (with_reducible refine hold_at 321 ?_) | (with_reducible refine hold_at 307 ?_) | (with_reducible refine hold_at 293 ?_) | (with_reducible refine hold_at 411 ?_) | (with_reducible refine hold_at 387 ?_))) | ((fail_if_success fail_if_success with_reducible refine at_name ?_); (k_dflt (refine' ld ?k19 ?k29 ?_; (case k19 => k_asm); (case k29 => first | assumption | ((repeat rw [if_neg (by decide)]); assumption)); k_whole))) | wtm_at "s2"))
      unfold Hold
      refine tup_at1 (News.isTup (by k_asm) (by k_mem)) ?_ (by with_unfolding_all rfl)
      rename Fr _ _ _ _ => F8
      rename News _ _ _ _ => N8
      refine LCg.CompEnd.intro F8 N8 ((src, listOf #[.ref cl, .int atj tj] nj) :: snG) (fun p hp => hp) off' (show LCg.SrcAt _ r2 (ps2.map Value.ref).toArray _ from Or.inr ⟨_, .tail _ mr, rfl, _, rfl⟩) ?_
      exact ih _ (sa_snoc hy hd)
    intro ys hy
    have hy := sa_whole hpl hy
    clear F2 N2 N3 M2 mr hpl
    (repeat' (first | wtm_at "s1" | ((fail_if_success (rename (Nat → True) => zz)); with_reducible refine hd_ifexp ?_) | ((rename (Nat → Nat → Nat → True) => zz); (fail_if_success (rename (_ == Str.ofString "=") = _ => zz9)); with_reducible refine hd_if ?_) | ((rename (Nat → Nat → True) => zz); with_reducible refine hd_app ?_) | ((rename (Nat → Nat → True) => zz); with_reducible refine hd_iter ?_) | (with_reducible refine hd_for ?_) | ((fail_if_success fail_if_success with_reducible refine at_sub ?_); (first | ((with_reducible show wpAny _ _ (subscriptTail _ _ (Value.ref _) (Value.int _ _)) _ _ _); (rename (Nat → Nat → True) => zz); with_reducible refine hold ?_) | ((with_reducible show wpAny _ _ (subscriptTail _ _ (Value.ref _) (Value.int 1 _)) _ _ _); refine tup_at1 (News.isTup (by k_asm) (by k_mem)) ?_ (by with_unfolding_all rfl)))) | (with_reducible refine hd_ceq ?_) | (with_reducible refine hd_cne ?_) | first | with_reducible refine ite_ff ?_ | with_reducible refine ite_tt ?_ | ((fail_if_success fail_if_success with_reducible refine at_call ?_); (first | (with_reducible refine hold_at 314 ?_) | (with_reducible refine hold_at 321 ?_) | (with_reducible refine hold_at 307 ?_) | (with_reducible refine hold_at 293 ?_) | (with_reducible refine hold_at 411 ?_) | (with_reducible refine hold_at 387 ?_))) | ((fail_if_success fail_if_success with_reducible refine at_name ?_); (k_dflt (refine' ld ?k19 ?k29 ?_; (case k19 => k_asm); (case k29 => first | assumption | ((repeat rw [if_neg (by decide)]); assumption)); k_whole))) | wtm_at "s2"))
    unfold Hold
    rename Fr _ _ _ _ => F8
    rename News _ _ _ _ => N8
    refine texts_ne ⟨_, N8.get (by k_mem), rfl, _, rfl⟩ ⟨_, N8.get (by k_mem), rfl, _, rfl⟩ (by first | exact law_u | decide | units_room) hy saR ?_
    clear hy
    with_reducible refine wpAny_truthy_bool ?_
    with_reducible refine ite_ff ?_
    have N9 := newsDrop (news' := (src, listOf #[.ref cl, .int atj tj] nj) :: snG) N8 (fun p hp => by first | exact .tail _ hp | exact .tail _ (.tail _ hp) | exact hp)
    clear N8
    (repeat' (first | wtm_at "s1" | ((fail_if_success (rename (Nat → True) => zz)); with_reducible refine hd_ifexp ?_) | ((rename (Nat → Nat → Nat → True) => zz); (fail_if_success (rename (_ == Str.ofString "=") = _ => zz9)); with_reducible refine hd_if ?_) | ((rename (Nat → Nat → True) => zz); with_reducible refine hd_app ?_) | ((rename (Nat → Nat → True) => zz); with_reducible refine hd_iter ?_) | (with_reducible refine hd_for ?_) | ((with_reducible show wpAny _ _ (exec (Stmt.Assign [_] (Expr.ListComp (Expr.Subscript _ _ _) _ _ _) _) _) _ _ _); k_dflt (refine LCg.Assign_ListComp_U (F₀ := by k_asm) (by rfl) (by with_unfolding_all rfl) (by rfl) (by decide) (by rfl) (by decide) (by rfl) (by rfl) (by rfl) ?_); (try k_dflt lcg_toSrc)) | ((fail_if_success fail_if_success with_reducible refine at_sub ?_); (first | ((with_reducible show wpAny _ _ (subscriptTail _ _ (Value.ref _) (Value.int _ _)) _ _ _); (rename (Nat → Nat → True) => zz); with_reducible refine hold ?_) | ((with_reducible show wpAny _ _ (subscriptTail _ _ (Value.ref _) (Value.int 1 _)) _ _ _); refine tup_at1 (News.isTup (by k_asm) (by k_mem)) ?_ (by with_unfolding_all rfl)))) | (with_reducible refine hd_ceq ?_) | (with_reducible refine hd_cne ?_) | ((with_reducible show wpAny _ _ (eval (Expr.ListComp (Expr.Subscript _ _ _) _ _ _) _) _ _ _); k_dflt (refine LCg.ListComp_U (F₀ := by k_asm) (by rfl) (by decide) (by rfl) (by decide) (by rfl) ?_); (try k_dflt lcg_toSrc)) | first | with_reducible refine ite_ff ?_ | with_reducible refine ite_tt ?_ | ((fail_if_success fail_if_success with_reducible refine at_call ?_); (first | (with_reducible refine hold_at 314 ?_) | (with_reducible refine hold_at 321 ?_) | (with_reducible refine hold_at 307 ?_) | (with_reducible refine hold_at 293 ?_) | (with_reducible refine hold_at 411 ?_) | (with_reducible refine hold_at 387 ?_))) | ((fail_if_success fail_if_success with_reducible refine at_name ?_); (k_dflt (refine' ld ?k19 ?k29 ?_; (case k19 => k_asm); (case k29 => first | assumption | ((repeat rw [if_neg (by decide)]); assumption)); k_whole))) | wtm_at "s2"))
    unfold Hold
    rename Fr _ _ _ _ => F2
    rename News _ _ _ _ => N2
    refine counter_none (Frag.In.keeps (by assumption) F2.keep) (Top.keeps (by assumption) F2.keep) (by first | decide | (simp only [depth_deeper, depth_caller]; first | decide | omega)) (by first | decide | (simp only [units_deeper, units_caller]; first | decide | omega)) ?_
    intro r3 n3 h5 tk5 y1 y2 y3
    have F3 := Fr.keeps F2 y1
    have N3 := newsAdd F2 N2 y1 y2 y3
    clear F2 N2 y1 y2 y3
    (repeat' (first | wtm_at "s1" | ((fail_if_success (rename (Nat → True) => zz)); with_reducible refine hd_ifexp ?_) | ((rename (Nat → Nat → Nat → True) => zz); (fail_if_success (rename (_ == Str.ofString "=") = _ => zz9)); with_reducible refine hd_if ?_) | ((rename (Nat → Nat → True) => zz); with_reducible refine hd_app ?_) | ((rename (Nat → Nat → True) => zz); with_reducible refine hd_iter ?_) | (with_reducible refine hd_for ?_) | ((with_reducible show wpAny _ _ (exec (Stmt.Assign [_] (Expr.ListComp (Expr.Subscript _ _ _) _ _ _) _) _) _ _ _); k_dflt (refine LCg.Assign_ListComp_U (F₀ := by k_asm) (by rfl) (by with_unfolding_all rfl) (by rfl) (by decide) (by rfl) (by decide) (by rfl) (by rfl) (by rfl) ?_); (try k_dflt lcg_toSrc)) | ((fail_if_success fail_if_success with_reducible refine at_sub ?_); (first | ((with_reducible show wpAny _ _ (subscriptTail _ _ (Value.ref _) (Value.int _ _)) _ _ _); (rename (Nat → Nat → True) => zz); with_reducible refine hold ?_) | ((with_reducible show wpAny _ _ (subscriptTail _ _ (Value.ref _) (Value.int 1 _)) _ _ _); refine tup_at1 (News.isTup (by k_asm) (by k_mem)) ?_ (by with_unfolding_all rfl)))) | (with_reducible refine hd_ceq ?_) | (with_reducible refine hd_cne ?_) | ((with_reducible show wpAny _ _ (eval (Expr.ListComp (Expr.Subscript _ _ _) _ _ _) _) _ _ _); k_dflt (refine LCg.ListComp_U (F₀ := by k_asm) (by rfl) (by decide) (by rfl) (by decide) (by rfl) ?_); (try k_dflt lcg_toSrc)) | first | with_reducible refine ite_ff ?_ | with_reducible refine ite_tt ?_ | ((fail_if_success fail_if_success with_reducible refine at_call ?_); (first | (with_reducible refine hold_at 314 ?_) | (with_reducible refine hold_at 321 ?_) | (with_reducible refine hold_at 307 ?_) | (with_reducible refine hold_at 293 ?_) | (with_reducible refine hold_at 411 ?_) | (with_reducible refine hold_at 387 ?_))) | ((fail_if_success fail_if_success with_reducible refine at_name ?_); (k_dflt (refine' ld ?k19 ?k29 ?_; (case k19 => k_asm); (case k29 => first | assumption | ((repeat rw [if_neg (by decide)]); assumption)); k_whole))) | wtm_at "s2"))
    unfold Hold
    rename Fr _ _ _ _ => F8
    rename News _ _ _ _ => N8
    refine texts_ne (v := []) (v' := []) (d := []) ⟨_, N8.get (by k_mem), rfl, _, rfl⟩ ⟨_, N8.get (by k_mem), rfl, _, rfl⟩ (by first | exact law_u | decide | units_room) .nil .nil ?_
    have N9 := newsDrop (news' := (src, listOf #[.ref cl, .int atj tj] nj) :: snG) N8 (fun p hp => .tail _ (.tail _ hp))
    clear N8
    with_reducible refine wpAny_truthy_bool ?_
    with_reducible refine ite_ff ?_
    (repeat' (first | wtm_at "s1" | ((fail_if_success (rename (Nat → True) => zz)); with_reducible refine hd_ifexp ?_) | ((fail_if_success fail_if_success with_reducible refine at_call ?_); (first | (with_reducible refine hold_at 314 ?_) | (with_reducible refine hold_at 321 ?_) | (with_reducible refine hold_at 307 ?_) | (with_reducible refine hold_at 293 ?_) | (with_reducible refine hold_at 411 ?_) | (with_reducible refine hold_at 387 ?_) | ((with_reducible show wpAny _ _ (call (Value.ref 397) [_]) _ _ _); k_dflt (refine' ref1_spec ?sX9 ?sT9 ?sd9 ?su9 ?_; (case sX9 => k_in); (case sT9 => wtm_at "T"); (case sd9 => first | decide | (simp only [depth_deeper, depth_caller]; first | decide | omega)); (case su9 => first | decide | (simp only [units_deeper, units_caller]; first | decide | omega)); k_whole); intro o8 t0'9 n'9 h'9 tk'9 hE'9 ho'9 hr'9; wtm_at "PA") | ((with_reducible show wpAny _ _ (call (Value.ref 372) _) _ _ _); k_dflt (refine' draw_law ?sF9 ?sN9 ?sX9 ?sT9 ?sm9 ?sc9 ?hcs9 ?hI9 ?h09 ?h19 ?U9 ?sd9 ?su9 ?b19 ?b29 ?b39 ?b49 ?_; (case sF9 => k_asm); (case sN9 => k_asm); (case sX9 => assumption); (case sT9 => assumption); (case sm9 => k_mem); (case sc9 => k_mem); (case hcs9 => assumption); (case hI9 => assumption); (case h09 => assumption); (case h19 => assumption); (case U9 => (intro t9 n9; k_upd)); (case sd9 => first | decide | (simp only [depth_deeper, depth_caller]; first | decide | omega)); (case su9 => first | decide | (simp only [units_deeper, units_caller]; first | decide | omega)); (case b19 => omega); (case b29 => omega); (case b39 => decide); (case b49 => decide); k_whole); intro k'9 h'9 tk'9 tk2'9 t2'9 n2'9 hk0'9 hk1'9 F'9 N'9; (try k_sweep)))) | ((rename (Nat → Nat → Nat → True) => zz); (fail_if_success (rename (_ == Str.ofString "=") = _ => zz9)); with_reducible refine hd_if ?_) | ((rename (Nat → Nat → True) => zz); with_reducible refine hd_app ?_) | ((rename (Nat → Nat → True) => zz); with_reducible refine hd_iter ?_) | (with_reducible refine hd_for ?_) | ((with_reducible show wpAny _ _ (exec (Stmt.Assign [_] (Expr.ListComp (Expr.Subscript _ _ _) _ _ _) _) _) _ _ _); k_dflt (refine LCg.Assign_ListComp_U (F₀ := by k_asm) (by rfl) (by with_unfolding_all rfl) (by rfl) (by decide) (by rfl) (by decide) (by rfl) (by rfl) (by rfl) ?_); (try k_dflt lcg_toSrc)) | ((fail_if_success fail_if_success with_reducible refine at_sub ?_); (first | ((with_reducible show wpAny _ _ (subscriptTail _ _ (Value.ref _) (Value.int _ _)) _ _ _); (rename (Nat → Nat → True) => zz); with_reducible refine hold ?_) | ((with_reducible show wpAny _ _ (subscriptTail _ _ (Value.ref _) (Value.int 1 _)) _ _ _); refine tup_at1 (News.isTup (by k_asm) (by k_mem)) ?_ (by with_unfolding_all rfl)))) | (with_reducible refine hd_ceq ?_) | (with_reducible refine hd_cne ?_) | ((with_reducible show wpAny _ _ (eval (Expr.ListComp (Expr.Subscript _ _ _) _ _ _) _) _ _ _); k_dflt (refine LCg.ListComp_U (F₀ := by k_asm) (by rfl) (by decide) (by rfl) (by decide) (by rfl) ?_); (try k_dflt lcg_toSrc)) | first | with_reducible refine ite_ff ?_ | with_reducible refine ite_tt ?_ | ((fail_if_success fail_if_success with_reducible refine at_name ?_); (k_dflt (refine' ld ?k19 ?k29 ?_; (case k19 => k_asm); (case k29 => first | assumption | ((repeat rw [if_neg (by decide)]); assumption)); k_whole))) | wtm_at "s2"))
    unfold Hold
    rename Fr _ _ _ _ => F2
    rename News _ _ _ _ => N1
    have ho9 : o8 ≠ src := by k_ne
    obtain ⟨t01, t02, n01, N2⟩ : ∃ t01 t02 n01, News _ _ _ ((o8, tupOf #[.str (Str.ofString "ref") t01, .str nmv t02, .ref 389, .ref 388, .none] n01) :: (src, listOf #[.ref cl, .int atj tj] nj) :: snG) := ⟨_, _, _, N1⟩
    obtain ⟨snH, hsnD⟩ : ∃ sn9, sn9 = (o8, tupOf #[.str (Str.ofString "ref") t01, .str nmv t02, .ref 389, .ref 388, .none] n01) :: snG := ⟨_, rfl⟩
    have N3 := newsDrop (news' := (src, listOf #[.ref cl, .int atj tj] nj) :: snH) N2 (fun p hp => by
      rcases List.mem_cons.mp hp with rfl | hp
      · exact .tail _ (.head _)
      rw [hsnD] at hp
      rcases List.mem_cons.mp hp with rfl | hp
      · exact .head _
      · exact .tail _ (.tail _ hp))
    have ap_snH : ∀ p ∈ snH, p.1 ≠ src := fun p hp => by
      rw [hsnD] at hp
      rcases List.mem_cons.mp hp with rfl | hp
      · exact ho9
      · exact ap_snG p hp
    have sD : ∀ p ∈ snG, p ∈ snH := fun p hp => by rw [hsnD]; exact .tail _ hp
    have mo : (o8, tupOf #[.str (Str.ofString "ref") t01, .str nmv t02, .ref 389, .ref 388, .none] n01) ∈ snH := by rw [hsnD]; exact .head _
    clear hsnD N1 ho9 ap_snG
    have hB : ∀ p ∈ snH, (two _ _ src).get? p.1 = some p.2 := fun p hp => two_news N3 (.tail _ hp) (ap_snH p hp)
    have hb := two_base F2 (N3.fresh (.head _))
    have DD := (DG.mono sD).at hB
    refine counter_gen (pk_of (Frag.In.keeps (by assumption) hb) (Top.keeps (by assumption) hb) DD (hB _ mo) hnm) (cx_law F2 N3 (by assumption) (by assumption) (.head _) rfl rfl DD) (by first | decide | (simp only [depth_deeper, depth_caller]; first | decide | omega)) (by first | decide | (simp only [units_deeper, units_caller]; first | decide | omega)) ?_
    intro r2 ps2 k3 h4 tk4 x1 x2 x3 x4
    obtain ⟨F5, N5⟩ := law_after F2 N3 x1
    obtain ⟨snp, p1, M1⟩ := x4.ledger
    have N6 := newsPlus (ls := (r2, listOf (ps2.map Value.ref).toArray k3) :: snp) F2 N5 (fun p hp => by
      rcases List.mem_cons.mp hp with rfl | hp
      · exact ⟨x2, x3⟩
      · exact p1 p hp)
    have hpl := M1.length
    obtain ⟨snI, hsnB⟩ : ∃ sn9, sn9 = (r2, listOf (ps2.map Value.ref).toArray k3) :: (snp ++ snH) := ⟨_, rfl⟩
    have N7 := newsDrop (news' := (src, listOf #[.ref cl, .int atj tj] nj) :: snI) N6 (fun p hp => by
      rcases List.mem_cons.mp hp with rfl | hp
      · exact List.mem_append_right _ (.head _)
      rw [hsnB] at hp
      rcases List.mem_cons.mp hp with rfl | hp
      · exact List.mem_append_left _ (.head _)
      rcases List.mem_append.mp hp with hp | hp
      · exact List.mem_append_left _ (.tail _ hp)
      · exact List.mem_append_right _ (.tail _ hp))
    have ap_snI : ∀ p ∈ snI, p.1 ≠ src := fun p hp e => by
      rw [hsnB] at hp
      have g := N3.get (.head _)
      rcases List.mem_cons.mp hp with rfl | hp
      · rw [show r2 = src from e, g] at x3; cases x3
      rcases List.mem_append.mp hp with hp | hp
      · have q := (p1 p hp).2
        rw [e, g] at q; cases q
      · exact ap_snH p hp e
    have sB : ∀ p ∈ snH, p ∈ snI := fun p hp => by rw [hsnB]; exact .tail _ (List.mem_append_right _ hp)
    have M2 : PrM (fun a o => (a, o) ∈ snI) ps2 (dueOf nmv [Str.ofString "numeric"] (kcOf nmv)) := M1.mono fun a ob z => by rw [hsnB]; exact .tail _ (List.mem_append_left _ z)
    have mr : (r2, listOf (ps2.map Value.ref).toArray k3) ∈ snI := by rw [hsnB]; exact .head _
    clear F2 N2 N3 N5 N6 hB hb x1 x2 x3 x4 p1 hsnB sB M1 ap_snH sD mo DD
    (repeat' (first | wtm_at "s1" | ((fail_if_success (rename (Nat → True) => zz)); with_reducible refine hd_ifexp ?_) | ((rename (Nat → Nat → Nat → True) => zz); (fail_if_success (rename (_ == Str.ofString "=") = _ => zz9)); with_reducible refine hd_if ?_) | ((rename (Nat → Nat → True) => zz); with_reducible refine hd_app ?_) | ((rename (Nat → Nat → True) => zz); with_reducible refine hd_iter ?_) | (with_reducible refine hd_for ?_) | ((fail_if_success fail_if_success with_reducible refine at_sub ?_); (first | ((with_reducible show wpAny _ _ (subscriptTail _ _ (Value.ref _) (Value.int _ _)) _ _ _); (rename (Nat → Nat → True) => zz); with_reducible refine hold ?_) | ((with_reducible show wpAny _ _ (subscriptTail _ _ (Value.ref _) (Value.int 1 _)) _ _ _); refine tup_at1 (News.isTup (by k_asm) (by k_mem)) ?_ (by with_unfolding_all rfl)))) | (with_reducible refine hd_ceq ?_) | (with_reducible refine hd_cne ?_) | first | with_reducible refine ite_ff ?_ | with_reducible refine ite_tt ?_ | ((fail_if_success fail_if_success with_reducible refine at_call ?_); (first | (with_reducible refine hold_at 314 ?_) | (with_reducible refine hold_at 321 ?_) | (with_reducible refine hold_at 307 ?_) | (with_reducible refine hold_at 293 ?_) | (with_reducible refine hold_at 411 ?_) | (with_reducible refine hold_at 387 ?_))) | ((fail_if_success fail_if_success with_reducible refine at_name ?_); (k_dflt (refine' ld ?k19 ?k29 ?_; (case k19 => k_asm); (case k29 => first | assumption | ((repeat rw [if_neg (by decide)]); assumption)); k_whole))) | wtm_at "s2"))
    unfold Hold
    rename Fr _ _ _ _ => F2
    rename News _ _ _ _ => N2
    have N3 := newsDrop (news' := (src, listOf #[.ref cl, .int atj tj] nj) :: snI) N2 (fun p hp => by first | exact hp | (rcases List.mem_cons.mp hp with rfl | hp <;> simp_all))
    refine LCg.CompSrc.ledger (by rfl) F2 N3 (.tail _ mr) (by show _ ≤ 16777216; rw [List.size_toArray, List.length_map, hpl]; exact Nat.le_trans (dueOf_len) (by decide)) ?_
    intro g'
    refine restIndG (fun i ys => StrsAre ys ((dueOf nmv [Str.ofString "numeric"] (kcOf nmv)).take i)) .nil ?_ ?_
    · intro k i ys hy ih
      refine LCg.CompRest.succ ?_
      intro v' I' oI' C' oC' D' m' h' tk' E' hv' hC' hx' F' N' off' ne'
      obtain ⟨p, nm, wh, t, n, rfl, hp, hd⟩ := prm_at M2 hv'
      (repeat' (first | wtm_at "s1" | ((fail_if_success (rename (Nat → True) => zz)); with_reducible refine hd_ifexp ?_) | ((rename (Nat → Nat → Nat → True) => zz); (fail_if_success (rename (_ == Str.ofString "=") = _ => zz9)); with_reducible refine hd_if ?_) | ((rename (Nat → Nat → True) => zz); with_reducible refine hd_app ?_) | ((rename (Nat → Nat → True) => zz); with_reducible refine hd_iter ?_) | (with_reducible refine hd_for ?_) | ((fail_if_success fail_if_success with_reducible refine at_sub ?_); (first | ((with_reducible show wpAny _ _ (subscriptTail _ _ (Value.ref _) (Value.int _ _)) _ _ _); (rename (Nat → Nat → True) => zz); with_reducible refine hold ?_) | ((with_reducible show wpAny _ _ (subscriptTail _ _ (Value.ref _) (Value.int 1 _)) _ _ _); refine tup_at1 (News.isTup (by k_asm) (by k_mem)) ?_ (by with_unfolding_all rfl)))) | (with_reducible refine hd_ceq ?_) | (with_reducible refine hd_cne ?_) | first | with_reducible refine ite_ff ?_ | with_reducible refine ite_tt ?_ | ((fail_if_success fail_if_success with_reducible refine at_call ?_); (first | (with_reducible refine hold_at 314 ?_) | (with_reducible refine hold_at 321 ?_) | (with_reducible refine hold_at 307 ?_) | (with_reducible refine hold_at 293 ?_) | (with_reducible refine hold_at 411 ?_) | (with_reducible refine hold_at 387 ?_))) | ((fail_if_success fail_if_success with_reducible refine at_name ?_); (k_dflt (refine' ld ?k19 ?k29 ?_; (case k19 => k_asm); (case k29 => first | assumption | ((repeat rw [if_neg (by decide)]); assumption)); k_whole))) | wtm_at "s2"))
      unfold Hold
      refine tup_at1 (News.isTup (by k_asm) (by k_mem)) ?_ (by with_unfolding_all rfl)
      rename Fr _ _ _ _ => F8
      rename News _ _ _ _ => N8
      refine LCg.CompEnd.intro F8 N8 ((src, listOf #[.ref cl, .int atj tj] nj) :: snI) (fun p hp => hp) off' (show LCg.SrcAt _ r2 (ps2.map Value.ref).toArray _ from Or.inr ⟨_, .tail _ mr, rfl, _, rfl⟩) ?_
      exact ih _ (sa_snoc hy hd)
    intro ys hy
    have hy := sa_whole hpl hy
    clear F2 N2 N3 M2 mr hpl
    (repeat' (first | wtm_at "s1" | ((fail_if_success (rename (Nat → True) => zz)); with_reducible refine hd_ifexp ?_) | ((rename (Nat → Nat → Nat → True) => zz); (fail_if_success (rename (_ == Str.ofString "=") = _ => zz9)); with_reducible refine hd_if ?_) | ((rename (Nat → Nat → True) => zz); with_reducible refine hd_app ?_) | ((rename (Nat → Nat → True) => zz); with_reducible refine hd_iter ?_) | (with_reducible refine hd_for ?_) | ((fail_if_success fail_if_success with_reducible refine at_sub ?_); (first | ((with_reducible show wpAny _ _ (subscriptTail _ _ (Value.ref _) (Value.int _ _)) _ _ _); (rename (Nat → Nat → True) => zz); with_reducible refine hold ?_) | ((with_reducible show wpAny _ _ (subscriptTail _ _ (Value.ref _) (Value.int 1 _)) _ _ _); refine tup_at1 (News.isTup (by k_asm) (by k_mem)) ?_ (by with_unfolding_all rfl)))) | (with_reducible refine hd_ceq ?_) | (with_reducible refine hd_cne ?_) | first | with_reducible refine ite_ff ?_ | with_reducible refine ite_tt ?_ | ((fail_if_success fail_if_success with_reducible refine at_call ?_); (first | (with_reducible refine hold_at 314 ?_) | (with_reducible refine hold_at 321 ?_) | (with_reducible refine hold_at 307 ?_) | (with_reducible refine hold_at 293 ?_) | (with_reducible refine hold_at 411 ?_) | (with_reducible refine hold_at 387 ?_))) | ((fail_if_success fail_if_success with_reducible refine at_name ?_); (k_dflt (refine' ld ?k19 ?k29 ?_; (case k19 => k_asm); (case k29 => first | assumption | ((repeat rw [if_neg (by decide)]); assumption)); k_whole))) | wtm_at "s2"))
    unfold Hold
    rename Fr _ _ _ _ => F2
    rename News _ _ _ _ => N2
    refine ify_join (due := dueOf nmv [Str.ofString "numeric"] (kcOf nmv)) F2 N2 ?w3 ?r3
    (case w3 =>
      have zz : Nat → True := fun _ => trivial
      have hdu := num_due hnm
      cases hb7 : (nmv == Str.ofString "NU")
      all_goals rw [hb7] at hdu
      all_goals (repeat' (first | wtm_at "s1" | ((fail_if_success (rename (Nat → True) => zz)); with_reducible refine hd_ifexp ?_) | ((fail_if_success fail_if_success with_reducible refine at_call ?_); (first | (with_reducible refine hold_at 314 ?_) | (with_reducible refine hold_at 321 ?_) | (with_reducible refine hold_at 307 ?_) | (with_reducible refine hold_at 293 ?_) | (with_reducible refine hold_at 411 ?_) | (with_reducible refine hold_at 387 ?_) | ((with_reducible show wpAny _ _ (call (Value.ref 397) [_]) _ _ _); k_dflt (refine' ref1_spec ?sX9 ?sT9 ?sd9 ?su9 ?_; (case sX9 => k_in); (case sT9 => wtm_at "T"); (case sd9 => first | decide | (simp only [depth_deeper, depth_caller]; first | decide | omega)); (case su9 => first | decide | (simp only [units_deeper, units_caller]; first | decide | omega)); k_whole); intro o'9 t0'9 n'9 h'9 tk'9 hE'9 ho'9 hr'9; wtm_at "PA") | ((with_reducible show wpAny _ _ (call (Value.ref 372) _) _ _ _); k_dflt (refine' draw_law ?sF9 ?sN9 ?sX9 ?sT9 ?sm9 ?sc9 ?hcs9 ?hI9 ?h09 ?h19 ?U9 ?sd9 ?su9 ?b19 ?b29 ?b39 ?b49 ?_; (case sF9 => k_asm); (case sN9 => k_asm); (case sX9 => assumption); (case sT9 => assumption); (case sm9 => k_mem); (case sc9 => k_mem); (case hcs9 => assumption); (case hI9 => assumption); (case h09 => assumption); (case h19 => assumption); (case U9 => (intro t9 n9; k_upd)); (case sd9 => first | decide | (simp only [depth_deeper, depth_caller]; first | decide | omega)); (case su9 => first | decide | (simp only [units_deeper, units_caller]; first | decide | omega)); (case b19 => omega); (case b29 => omega); (case b39 => decide); (case b49 => decide); k_whole); intro k'9 h'9 tk'9 tk2'9 t2'9 n2'9 hk0'9 hk1'9 F'9 N'9; (try k_sweep)))) | ((fail_if_success fail_if_success with_reducible refine at_bin ?_); ((with_reducible show wpAny _ _ (binaryOp _ (Value.ref _) (Value.ref _)) _ _ _); k_dflt (refine' kmk_add_lit ?F9 ?N9 ?a9 ?b9 ?e9 ?_ ?z9; (case F9 => k_asm); (case N9 => k_asm); (case a9 => is_list); (case b9 => is_list); (case e9 => exact rfl); (case z9 => (show _ ≤ 16777216; (try simp only [List.toList_toArray, List.length_append, List.length_cons, List.length_nil]); omega))); intro D'9 h'9 F'9 N'9 l1; (try k_lt l1); (try k_sweep))) | (first | ((rename (Nat → Nat → Nat → True) => zz3); first | with_reducible refine ite_ff ?_ | with_reducible refine ite_tt ?_ | (rw [if_neg (by decide)]) | (rw [if_pos (by decide)]) | ((rename (_ == Str.ofString "=") = _ => hb9); simp only [bne, hb9, Bool.not_true, Bool.not_false]; first | with_reducible refine ite_ff ?_ | with_reducible refine ite_tt ?_)) | first | with_reducible refine ite_ff ?_ | with_reducible refine ite_tt ?_) | ((rename (Nat → Nat → Nat → True) => zz); (fail_if_success (rename (_ == Str.ofString "=") = _ => zz9)); with_reducible refine hd_if ?_) | ((rename (Nat → Nat → True) => zz); with_reducible refine hd_app ?_) | ((rename (Nat → Nat → True) => zz); with_reducible refine hd_iter ?_) | (with_reducible refine hd_for ?_) | ((fail_if_success fail_if_success with_reducible refine at_sub ?_); (first | ((with_reducible show wpAny _ _ (subscriptTail _ _ (Value.ref _) (Value.int _ _)) _ _ _); (rename (Nat → Nat → True) => zz); with_reducible refine hold ?_) | ((with_reducible show wpAny _ _ (subscriptTail _ _ (Value.ref _) (Value.int 1 _)) _ _ _); refine tup_at1 (News.isTup (by k_asm) (by k_mem)) ?_ (by with_unfolding_all rfl)))) | (with_reducible refine hd_ceq ?_) | (with_reducible refine hd_cne ?_) | ((fail_if_success fail_if_success with_reducible refine at_name ?_); (k_dflt (refine' ld ?k19 ?k29 ?_; (case k19 => k_asm); (case k29 => first | assumption | ((repeat rw [if_neg (by decide)]); assumption)); k_whole))) | wtm_at "s2"))
      all_goals rename Fr _ _ _ _ => F9
      all_goals rename News _ _ _ _ => N9
      · exact ⟨_, [_], _, _, _, rfl, rfl, F9, N9, by rw [hdu, if_neg Bool.false_ne_true]; exact .cons _ _ .nil⟩
      · exact ⟨_, [], _, _, _, rfl, rfl, F9, N9, by rw [hdu, if_pos rfl]; exact .nil⟩)
    clear F2 N2
    intro l2 vs2 k2n h' tk' F2 N2 hv2
    (repeat' (first | wtm_at "s1" | ((fail_if_success (rename (Nat → True) => zz)); with_reducible refine hd_ifexp ?_) | ((rename (Nat → Nat → Nat → True) => zz); (fail_if_success (rename (_ == Str.ofString "=") = _ => zz9)); with_reducible refine hd_if ?_) | ((rename (Nat → Nat → True) => zz); with_reducible refine hd_app ?_) | ((rename (Nat → Nat → True) => zz); with_reducible refine hd_iter ?_) | (with_reducible refine hd_for ?_) | ((fail_if_success fail_if_success with_reducible refine at_sub ?_); (first | ((with_reducible show wpAny _ _ (subscriptTail _ _ (Value.ref _) (Value.int _ _)) _ _ _); (rename (Nat → Nat → True) => zz); with_reducible refine hold ?_) | ((with_reducible show wpAny _ _ (subscriptTail _ _ (Value.ref _) (Value.int 1 _)) _ _ _); refine tup_at1 (News.isTup (by k_asm) (by k_mem)) ?_ (by with_unfolding_all rfl)))) | (with_reducible refine hd_ceq ?_) | (with_reducible refine hd_cne ?_) | first | with_reducible refine ite_ff ?_ | with_reducible refine ite_tt ?_ | ((fail_if_success fail_if_success with_reducible refine at_call ?_); (first | (with_reducible refine hold_at 314 ?_) | (with_reducible refine hold_at 321 ?_) | (with_reducible refine hold_at 307 ?_) | (with_reducible refine hold_at 293 ?_) | (with_reducible refine hold_at 411 ?_) | (with_reducible refine hold_at 387 ?_))) | ((fail_if_success fail_if_success with_reducible refine at_name ?_); (k_dflt (refine' ld ?k19 ?k29 ?_; (case k19 => k_asm); (case k29 => first | assumption | ((repeat rw [if_neg (by decide)]); assumption)); k_whole))) | wtm_at "s2"))
    unfold Hold
    rename Fr _ _ _ _ => F8
    rename News _ _ _ _ => N8
    refine texts_eq ⟨_, N8.get (by k_mem), rfl, _, rfl⟩ ⟨_, N8.get (by k_mem), rfl, _, rfl⟩ (by first | exact law_u | decide | units_room) hy hv2 ?_
    clear hy
    (repeat' (first | wtm_at "s1" | (k_end; w_end; exact law_good (by k_asm) (by assumption) (by rfl)) | (fail_if_success k_end; wtm_at "s2"))))
end
end
end Mine
theorem PySem.Challenge.cw_og0093_01_holds : PySem.Challenge.rw_og0093_01.Holds :=
  Mine.law_holds
