import PyProof.Rows.All
import Wide.All
import OpenK.AllK
import Wide.FinOn
import PySem.Challenge.RW_og0104_01
open PySem PySem.W PyProof.Rows
set_option Elab.async false
set_option linter.all false
set_option compiler.extract_closed false

open PySem PySem.W PyProof.Rows
namespace Mine
noncomputable def sA (i : Nat) : Stmt := (PySem.Challenge.pw_og0104_01.main.body.drop i).headD (.Pass ⟨0, 0, 0, 0⟩)
noncomputable def sC (i j : Nat) : Stmt := match sA i with | .ClassDef _ _ _ b .. => (b.drop j).headD (.Pass ⟨0, 0, 0, 0⟩) | s => s
@[reducible] def vS (s : String) (t : Nat) : Value := .str (Str.ofString s) t
@[reducible] def vR (a : Nat) : Value := .ref a
@[reducible] def vI (n : Int) : Value := .int n 0
noncomputable def oT (l : List Value) : Obj := ⟨.type "tuple", none, .seq l.toArray, #[]⟩
noncomputable def oF (c : Value) (l : List Value) : Obj := ⟨c, none, .fields l.toArray, #[]⟩
noncomputable def oD (l : List DictEntry) (n : Nat) : Obj := ⟨.type "dict", none, .dict l.toArray n, #[]⟩
noncomputable def dE (P : Params) (s : String) (t : Nat) (v : Value) : DictEntry := ⟨PyData.keyHash P (Str.ofString s), .str (Str.ofString s) t, v⟩
noncomputable def fO (s : Stmt) (q : String) (dV kV pm cdv : Value) : Obj := match s with
  | .FunctionDef n ps b _ _ _ sc .. => ⟨.type "function", none, .func (fnOf n (Str.ofString q) ps b sc dV kV .none pm none cdv .none), #[]⟩
  | _ => default
noncomputable def hd.heap_39 (P : Params) : Frag :=
  (nat_lit 3, oD [dE P "__name__" 165 (vS "law_og0104_01" 930), dE P "__doc__" 166 .none, dE P "__package__" 167 .none, dE P "__loader__" 168 (Value.builtin "__main__.__loader__#opaque"), dE P "__spec__" 169 .none, dE P "__annotations__" 170 (vR 6), dE P "__builtins__" 171 (vR 4), dE P "__file__" 173 (vS "/claim/cut.py" 172), dE P "__cached__" 174 .none, dE P "_wall" 193 (vR 21), dE P "LedgerError" 235 (vR 47), dE P "FileFault" 251 (vR 60), dE P "KINDS" 257 (vR 63), dE P "KIND_LETTERS" 259 (Value.bytes #[83, 82, 73] 258), dE P "Shelf" 355 (vR 137), dE P "count_octets" 361 (vR 146), dE P "path_octets" 369 (vR 153), dE P "row_octets" 376 (vR 160), dE P "write_shelf" 389 (vR 167), dE P "ShelfReader" 478 (vR 226), dE P "read_shelf" 494 (vR 237), dE P "READING_keyfile" 499 (vR 238), dE P "KeyFile" 703 (vR 381), dE P "BY_ORDER" 708 (vR 386), dE P "least_from" 717 (vR 393), dE P "RelFile" 856 (vR 489), dE P "READING_rowfile" 861 (vR 494), dE P "ADDING" 864 (vR 495), dE P "RowFile" 929 (vR 540), dE P "_law_KINDS" 935 (vR 545), dE P "_law_taker" 945 (vR 552), dE P "_law_open" 954 (vR 559), dE P "_law_in_order" 962 (vR 566), dE P "_law_told" 968 (vR 571), dE P "_law_place" 977 (vR 578), dE P "_law_keyed_right" 992 (vR 585), dE P "_law_rows_right" 1006 (vR 592), dE P "_law_is_read" 1017 (vR 599), dE P "_law_session_right" 1023 (vR 604), dE P "law" 1034 (vR 611)] 40)
  ::   (nat_lit 63, oT [(vS "sequential" 254), (vS "relative" 255), (vS "indexed" 256)])
  ::   (nat_lit 76, oF (Value.type "code") [(vS "__init__" 272), (vS "Shelf.__init__" 273), (vS "/claim/cut.py" 274), (vI 21), (vI 1), (vI 0), (vI 0), (vI 3), (vR 71), (Value.bool true), (vI 181), (vR 72), .none, (vR 73), (vR 74), (vR 75), (vI 276), (vI 21), (vS "/claim/cut.py" 277)])
  ::   (nat_lit 77, fO (sC 7 0) "Shelf.__init__" .none .none (vS "ledgerspeak.shelf" 252) (vR 76))
  ::   (nat_lit 83, oF (Value.type "code") [(vS "paths" 279), (vS "Shelf.paths" 280), (vS "/claim/cut.py" 281), (vI 24), (vI 1), (vI 0), (vI 0), (vI 3), (vR 78), (Value.bool true), (vI 181), (vR 79), .none, (vR 80), (vR 81), (vR 82), (vI 283), (vI 24), (vS "/claim/cut.py" 284)])
  ::   (nat_lit 84, fO (sC 7 1) "Shelf.paths" .none .none (vS "ledgerspeak.shelf" 252) (vR 83))
  ::   (nat_lit 90, oF (Value.type "code") [(vS "kind_of" 286), (vS "Shelf.kind_of" 287), (vS "/claim/cut.py" 288), (vI 27), (vI 2), (vI 0), (vI 0), (vI 3), (vR 85), (Value.bool true), (vI 181), (vR 86), .none, (vR 87), (vR 88), (vR 89), (vI 291), (vI 27), (vS "/claim/cut.py" 292)])
  ::   (nat_lit 91, fO (sC 7 2) "Shelf.kind_of" .none .none (vS "ledgerspeak.shelf" 252) (vR 90))
  ::   (nat_lit 97, oF (Value.type "code") [(vS "content_of" 294), (vS "Shelf.content_of" 295), (vS "/claim/cut.py" 296), (vI 30), (vI 2), (vI 0), (vI 0), (vI 3), (vR 92), (Value.bool true), (vI 181), (vR 93), .none, (vR 94), (vR 95), (vR 96), (vI 299), (vI 30), (vS "/claim/cut.py" 300)])
  ::   (nat_lit 98, fO (sC 7 3) "Shelf.content_of" .none .none (vS "ledgerspeak.shelf" 252) (vR 97))
  ::   (nat_lit 104, oF (Value.type "code") [(vS "begin" 302), (vS "Shelf.begin" 303), (vS "/claim/cut.py" 304), (vI 35), (vI 3), (vI 0), (vI 0), (vI 3), (vR 99), (Value.bool true), (vI 181), (vR 100), .none, (vR 101), (vR 102), (vR 103), (vI 309), (vI 35), (vS "/claim/cut.py" 310)])
  ::   (nat_lit 105, fO (sC 7 4) "Shelf.begin" .none .none (vS "ledgerspeak.shelf" 252) (vR 104))
  ::   (nat_lit 109, oF (Value.type "code") [(vS "lay" 312), (vS "Shelf.lay" 313), (vS "/claim/cut.py" 314), (vI 42), (vI 4), (vI 0), (vI 0), (vI 3), (vR 106), (Value.bool true), (vI 181), (vR 107), .none, .none, .none, (vR 108), (vI 315), (vI 42), (vS "/claim/cut.py" 316)])
  ::   (nat_lit 110, fO (sC 7 5) "Shelf.lay" .none .none (vS "ledgerspeak.shelf" 252) (vR 109))
  ::   (nat_lit 116, oF (Value.type "code") [(vS "opened" 318), (vS "Shelf.opened" 319), (vS "/claim/cut.py" 320), (vI 52), (vI 4), (vI 0), (vI 0), (vI 3), (vR 111), (Value.bool true), (vI 181), (vR 112), .none, (vR 113), (vR 114), (vR 115), (vI 325), (vI 52), (vS "/claim/cut.py" 326)])
  ::   (nat_lit 117, fO (sC 7 6) "Shelf.opened" .none .none (vS "ledgerspeak.shelf" 252) (vR 116))
  ::   (nat_lit 121, oF (Value.type "code") [(vS "rows_of" 328), (vS "Shelf.rows_of" 329), (vS "/claim/cut.py" 330), (vI 61), (vI 2), (vI 0), (vI 0), (vI 3), (vR 118), (Value.bool true), (vI 181), (vR 119), .none, .none, .none, (vR 120), (vI 331), (vI 61), (vS "/claim/cut.py" 332)])
  ::   (nat_lit 122, fO (sC 7 7) "Shelf.rows_of" .none .none (vS "ledgerspeak.shelf" 252) (vR 121))
  ::   (nat_lit 133, oF (Value.type "code") [(vS "told" 341), (vS "Shelf.told" 342), (vS "/claim/cut.py" 343), (vI 70), (vI 1), (vI 0), (vI 0), (vI 3), (vR 130), (Value.bool true), (vI 181), (vR 131), .none, .none, .none, (vR 132), (vI 344), (vI 70), (vS "/claim/cut.py" 345)])
  ::   (nat_lit 134, fO (sC 7 9) "Shelf.told" .none .none (vS "ledgerspeak.shelf" 252) (vR 133))
  ::   (nat_lit 136, oD [dE P "__module__" 267 (vS "ledgerspeak.shelf" 252), dE P "__firstlineno__" 271 (Value.int 19 270), dE P "__init__" 278 (vR 77), dE P "paths" 285 (vR 84), dE P "kind_of" 293 (vR 91), dE P "content_of" 301 (vR 98), dE P "begin" 311 (vR 105), dE P "lay" 317 (vR 110), dE P "opened" 327 (vR 117), dE P "rows_of" 333 (vR 122), dE P "copied" 340 (vR 129), dE P "told" 346 (vR 134), dE P "__static_attributes__" 348 (vR 135), dE P "__dict__" 350 (vR 138), dE P "__weakref__" 352 (vR 139), dE P "__doc__" 353 .none] 4)
  ::   (nat_lit 137, { cls := Value.type "type", data := Data.cls { name := Str.ofString "Shelf", bases := [Value.type "object"], mro := [Value.ref 137, Value.type "object"], ns := 136, qualname := Str.ofString "Shelf" }, slots := #[none, none, some (Value.str (Str.ofString "Shelf") 260), some (Value.str (Str.ofString "Shelf") 268), some (Value.builtin "object.__new__"), some (Value.bool true)] })
  ::   (nat_lit 145, oF (Value.type "code") [(vS "count_octets" 356), (vS "count_octets" 357), (vS "/claim/cut.py" 358), (vI 72), (vI 2), (vI 0), (vI 0), (vI 3), (vR 142), (Value.bool true), (vI 181), (vR 143), .none, .none, .none, (vR 144), (vI 359), (vI 72), (vS "/claim/cut.py" 360)])
  ::   (nat_lit 146, fO (sA 8) "count_octets" .none .none (vS "ledgerspeak.shelf" 252) (vR 145))
  ::   (nat_lit 152, oF (Value.type "code") [(vS "path_octets" 362), (vS "path_octets" 363), (vS "/claim/cut.py" 364), (vI 76), (vI 1), (vI 0), (vI 0), (vI 3), (vR 147), (Value.bool true), (vI 181), (vR 148), .none, (vR 149), (vR 150), (vR 151), (vI 367), (vI 76), (vS "/claim/cut.py" 368)])
  ::   (nat_lit 153, fO (sA 9) "path_octets" .none .none (vS "ledgerspeak.shelf" 252) (vR 152))
  ::   (nat_lit 159, oF (Value.type "code") [(vS "row_octets" 370), (vS "row_octets" 371), (vS "/claim/cut.py" 372), (vI 81), (vI 1), (vI 0), (vI 0), (vI 3), (vR 154), (Value.bool true), (vI 181), (vR 155), .none, (vR 156), (vR 157), (vR 158), (vI 374), (vI 81), (vS "/claim/cut.py" 375)])
  ::   (nat_lit 160, fO (sA 10) "row_octets" .none .none (vS "ledgerspeak.shelf" 252) (vR 159))
  ::   (nat_lit 166, oF (Value.type "code") [(vS "write_shelf" 377), (vS "write_shelf" 378), (vS "/claim/cut.py" 379), (vI 83), (vI 1), (vI 0), (vI 0), (vI 3), (vR 161), (Value.bool true), (vI 181), (vR 162), .none, (vR 163), (vR 164), (vR 165), (vI 387), (vI 83), (vS "/claim/cut.py" 388)])
  ::   (nat_lit 167, fO (sA 11) "write_shelf" .none .none (vS "ledgerspeak.shelf" 252) (vR 166))
  ::   (nat_lit 180, oF (Value.type "code") [(vS "__init__" 402), (vS "ShelfReader.__init__" 403), (vS "/claim/cut.py" 404), (vI 97), (vI 2), (vI 0), (vI 0), (vI 3), (vR 175), (Value.bool true), (vI 181), (vR 176), .none, (vR 177), (vR 178), (vR 179), (vI 407), (vI 97), (vS "/claim/cut.py" 408)])
  ::   (nat_lit 181, fO (sC 12 0) "ShelfReader.__init__" .none .none (vS "ledgerspeak.shelf" 252) (vR 180))
  ::   (nat_lit 194, oF (Value.type "code") [(vS "taken" 419), (vS "ShelfReader.taken" 420), (vS "/claim/cut.py" 421), (vI 104), (vI 2), (vI 0), (vI 0), (vI 3), (vR 189), (Value.bool true), (vI 181), (vR 190), .none, (vR 191), (vR 192), (vR 193), (vI 424), (vI 104), (vS "/claim/cut.py" 425)])
  ::   (nat_lit 195, fO (sC 12 2) "ShelfReader.taken" .none .none (vS "ledgerspeak.shelf" 252) (vR 194))
  ::   (nat_lit 201, oF (Value.type "code") [(vS "count" 427), (vS "ShelfReader.count" 428), (vS "/claim/cut.py" 429), (vI 110), (vI 2), (vI 0), (vI 0), (vI 3), (vR 196), (Value.bool true), (vI 181), (vR 197), .none, (vR 198), (vR 199), (vR 200), (vI 434), (vI 110), (vS "/claim/cut.py" 435)])
  ::   (nat_lit 202, fO (sC 12 3) "ShelfReader.count" .none .none (vS "ledgerspeak.shelf" 252) (vR 201))
  ::   (nat_lit 208, oF (Value.type "code") [(vS "path" 437), (vS "ShelfReader.path" 438), (vS "/claim/cut.py" 439), (vI 116), (vI 2), (vI 0), (vI 0), (vI 3), (vR 203), (Value.bool true), (vI 181), (vR 204), .none, (vR 205), (vR 206), (vR 207), (vI 447), (vI 116), (vS "/claim/cut.py" 448)])
  ::   (nat_lit 209, fO (sC 12 4) "ShelfReader.path" .none .none (vS "ledgerspeak.shelf" 252) (vR 208))
  ::   (nat_lit 215, oF (Value.type "code") [(vS "kind" 450), (vS "ShelfReader.kind" 451), (vS "/claim/cut.py" 452), (vI 127), (vI 1), (vI 0), (vI 0), (vI 3), (vR 210), (Value.bool true), (vI 181), (vR 211), .none, (vR 212), (vR 213), (vR 214), (vI 455), (vI 127), (vS "/claim/cut.py" 456)])
  ::   (nat_lit 216, fO (sC 12 5) "ShelfReader.kind" .none .none (vS "ledgerspeak.shelf" 252) (vR 215))
  ::   (nat_lit 222, oF (Value.type "code") [(vS "row" 458), (vS "ShelfReader.row" 459), (vS "/claim/cut.py" 460), (vI 133), (vI 3), (vI 0), (vI 0), (vI 3), (vR 217), (Value.bool true), (vI 181), (vR 218), .none, (vR 219), (vR 220), (vR 221), (vI 466), (vI 133), (vS "/claim/cut.py" 467)])
  ::   (nat_lit 223, fO (sC 12 6) "ShelfReader.row" .none .none (vS "ledgerspeak.shelf" 252) (vR 222))
  ::   (nat_lit 225, oD [dE P "__module__" 397 (vS "ledgerspeak.shelf" 252), dE P "__firstlineno__" 401 (Value.int 95 400), dE P "__init__" 409 (vR 181), dE P "fault" 418 (vR 188), dE P "taken" 426 (vR 195), dE P "count" 436 (vR 202), dE P "path" 449 (vR 209), dE P "kind" 457 (vR 216), dE P "row" 468 (vR 223), dE P "__static_attributes__" 471 (vR 224), dE P "__dict__" 473 (vR 227), dE P "__weakref__" 475 (vR 228), dE P "__doc__" 476 .none] 4)
  ::   (nat_lit 226, { cls := Value.type "type", data := Data.cls { name := Str.ofString "ShelfReader", bases := [Value.type "object"], mro := [Value.ref 226, Value.type "object"], ns := 225, qualname := Str.ofString "ShelfReader" }, slots := #[none, none, some (Value.str (Str.ofString "ShelfReader") 390), some (Value.str (Str.ofString "ShelfReader") 398), some (Value.builtin "object.__new__"), some (Value.bool true)] })
  ::   (nat_lit 236, oF (Value.type "code") [(vS "read_shelf" 479), (vS "read_shelf" 480), (vS "/claim/cut.py" 481), (vI 141), (vI 1), (vI 0), (vI 0), (vI 3), (vR 231), (Value.bool true), (vI 181), (vR 232), .none, (vR 233), (vR 234), (vR 235), (vI 492), (vI 141), (vS "/claim/cut.py" 493)])
  ::   (nat_lit 237, fO (sA 13) "read_shelf" .none .none (vS "ledgerspeak.shelf" 252) (vR 236))
  ::   (nat_lit 238, oT [(vS "input" 497), (vS "i-o" 498)])
  ::   (nat_lit 249, oF (Value.type "code") [(vS "__init__" 512), (vS "KeyFile.__init__" 513), (vS "/claim/cut.py" 514), (vI 158), (vI 6), (vI 0), (vI 0), (vI 3), (vR 246), (Value.bool true), (vI 181), (vR 247), .none, .none, .none, (vR 248), (vI 515), (vI 158), (vS "/claim/cut.py" 516)])
  ::   (nat_lit 250, fO (sC 16 0) "KeyFile.__init__" .none .none (vS "ledgerspeak.keyfile" 495) (vR 249))
  ::   (nat_lit 263, oF (Value.type "code") [(vS "worth" 525), (vS "KeyFile.worth" 526), (vS "/claim/cut.py" 527), (vI 180), (vI 3), (vI 0), (vI 0), (vI 3), (vR 258), (Value.bool true), (vI 181), (vR 259), .none, (vR 260), (vR 261), (vR 262), (vI 534), (vI 180), (vS "/claim/cut.py" 535)])
  ::   (nat_lit 264, fO (sC 16 2) "KeyFile.worth" .none .none (vS "ledgerspeak.keyfile" 495) (vR 263))
  ::   (nat_lit 270, oF (Value.type "code") [(vS "ordered" 537), (vS "KeyFile.ordered" 538), (vS "/claim/cut.py" 539), (vI 184), (vI 2), (vI 0), (vI 0), (vI 3), (vR 265), (Value.bool true), (vI 181), (vR 266), .none, (vR 267), (vR 268), (vR 269), (vI 544), (vI 184), (vS "/claim/cut.py" 545)])
  ::   (nat_lit 271, fO (sC 16 3) "KeyFile.ordered" .none .none (vS "ledgerspeak.keyfile" 495) (vR 270))
  ::   (nat_lit 277, oF (Value.type "code") [(vS "place_of" 547), (vS "KeyFile.place_of" 548), (vS "/claim/cut.py" 549), (vI 190), (vI 2), (vI 0), (vI 0), (vI 3), (vR 272), (Value.bool true), (vI 181), (vR 273), .none, (vR 274), (vR 275), (vR 276), (vI 553), (vI 190), (vS "/claim/cut.py" 554)])
  ::   (nat_lit 278, fO (sC 16 4) "KeyFile.place_of" .none .none (vS "ledgerspeak.keyfile" 495) (vR 277))
  ::   (nat_lit 291, oF (Value.type "code") [(vS "stand" 568), (vS "KeyFile.stand" 569), (vS "/claim/cut.py" 570), (vI 203), (vI 3), (vI 0), (vI 0), (vI 3), (vR 286), (Value.bool true), (vI 181), (vR 287), .none, (vR 288), (vR 289), (vR 290), (vI 574), (vI 203), (vS "/claim/cut.py" 575)])
  ::   (nat_lit 292, fO (sC 16 6) "KeyFile.stand" .none .none (vS "ledgerspeak.keyfile" 495) (vR 291))
  ::   (nat_lit 298, oF (Value.type "code") [(vS "lose" 577), (vS "KeyFile.lose" 578), (vS "/claim/cut.py" 579), (vI 208), (vI 2), (vI 0), (vI 0), (vI 3), (vR 293), (Value.bool true), (vI 181), (vR 294), .none, (vR 295), (vR 296), (vR 297), (vI 582), (vI 208), (vS "/claim/cut.py" 583)])
  ::   (nat_lit 299, fO (sC 16 7) "KeyFile.lose" .none .none (vS "ledgerspeak.keyfile" 495) (vR 298))
  ::   (nat_lit 303, oF (Value.type "code") [(vS "found" 585), (vS "KeyFile.found" 586), (vS "/claim/cut.py" 587), (vI 213), (vI 3), (vI 0), (vI 0), (vI 3), (vR 300), (Value.bool true), (vI 181), (vR 301), .none, .none, .none, (vR 302), (vI 588), (vI 213), (vS "/claim/cut.py" 589)])
  ::   (nat_lit 304, fO (sC 16 8) "KeyFile.found" .none .none (vS "ledgerspeak.keyfile" 495) (vR 303))
  ::   (nat_lit 310, oF (Value.type "code") [(vS "read_next" 591), (vS "KeyFile.read_next" 592), (vS "/claim/cut.py" 593), (vI 220), (vI 1), (vI 0), (vI 0), (vI 3), (vR 305), (Value.bool true), (vI 181), (vR 306), .none, (vR 307), (vR 308), (vR 309), (vI 596), (vI 220), (vS "/claim/cut.py" 597)])
  ::   (nat_lit 311, fO (sC 16 9) "KeyFile.read_next" .none .none (vS "ledgerspeak.keyfile" 495) (vR 310))
  ::   (nat_lit 331, oF (Value.type "code") [(vS "put" 620), (vS "KeyFile.put" 621), (vS "/claim/cut.py" 622), (vI 239), (vI 4), (vI 0), (vI 0), (vI 3), (vR 328), (Value.bool true), (vI 181), (vR 329), .none, .none, .none, (vR 330), (vI 623), (vI 239), (vS "/claim/cut.py" 624)])
  ::   (nat_lit 332, fO (sC 16 12) "KeyFile.put" .none .none (vS "ledgerspeak.keyfile" 495) (vR 331))
  ::   (nat_lit 338, oF (Value.type "code") [(vS "drop" 626), (vS "KeyFile.drop" 627), (vS "/claim/cut.py" 628), (vI 244), (vI 2), (vI 0), (vI 0), (vI 3), (vR 333), (Value.bool true), (vI 181), (vR 334), .none, (vR 335), (vR 336), (vR 337), (vI 631), (vI 244), (vS "/claim/cut.py" 632)])
  ::   (nat_lit 339, fO (sC 16 13) "KeyFile.drop" .none .none (vS "ledgerspeak.keyfile" 495) (vR 338))
  ::   (nat_lit 345, oF (Value.type "code") [(vS "doubled" 634), (vS "KeyFile.doubled" 635), (vS "/claim/cut.py" 636), (vI 248), (vI 4), (vI 0), (vI 0), (vI 3), (vR 340), (Value.bool true), (vI 181), (vR 341), .none, (vR 342), (vR 343), (vR 344), (vI 643), (vI 248), (vS "/claim/cut.py" 644)])
  ::   (nat_lit 346, fO (sC 16 14) "KeyFile.doubled" .none .none (vS "ledgerspeak.keyfile" 495) (vR 345))
  ::   (nat_lit 352, oF (Value.type "code") [(vS "may_write" 646), (vS "KeyFile.may_write" 647), (vS "/claim/cut.py" 648), (vI 257), (vI 1), (vI 0), (vI 0), (vI 3), (vR 347), (Value.bool true), (vI 181), (vR 348), .none, (vR 349), (vR 350), (vR 351), (vI 650), (vI 257), (vS "/claim/cut.py" 651)])
  ::   (nat_lit 353, fO (sC 16 15) "KeyFile.may_write" .none .none (vS "ledgerspeak.keyfile" 495) (vR 352))
  ::   (nat_lit 359, oF (Value.type "code") [(vS "write" 653), (vS "KeyFile.write" 654), (vS "/claim/cut.py" 655), (vI 262), (vI 2), (vI 0), (vI 0), (vI 3), (vR 354), (Value.bool true), (vI 181), (vR 355), .none, (vR 356), (vR 357), (vR 358), (vI 660), (vI 262), (vS "/claim/cut.py" 661)])
  ::   (nat_lit 360, fO (sC 16 16) "KeyFile.write" .none .none (vS "ledgerspeak.keyfile" 495) (vR 359))
  ::   (nat_lit 369, oF (Value.type "code") [(vS "rewrite" 669), (vS "KeyFile.rewrite" 670), (vS "/claim/cut.py" 671), (vI 282), (vI 2), (vI 0), (vI 0), (vI 3), (vR 366), (Value.bool true), (vI 181), (vR 367), .none, .none, .none, (vR 368), (vI 672), (vI 282), (vS "/claim/cut.py" 673)])
  ::   (nat_lit 370, fO (sC 16 18) "KeyFile.rewrite" .none .none (vS "ledgerspeak.keyfile" 495) (vR 369))
  ::   (nat_lit 371, oT [(Value.bytes #[] 675)])
  ::   (nat_lit 377, oF (Value.type "code") [(vS "delete" 676), (vS "KeyFile.delete" 677), (vS "/claim/cut.py" 678), (vI 310), (vI 2), (vI 0), (vI 0), (vI 3), (vR 372), (Value.bool true), (vI 181), (vR 373), .none, (vR 374), (vR 375), (vR 376), (vI 682), (vI 310), (vS "/claim/cut.py" 683)])
  ::   (nat_lit 378, fO (sC 16 19) "KeyFile.delete" (vR 371) .none (vS "ledgerspeak.keyfile" 495) (vR 377))
  ::   (nat_lit 380, oD [dE P "__module__" 507 (vS "ledgerspeak.keyfile" 495), dE P "__firstlineno__" 511 (Value.int 156 510), dE P "__init__" 517 (vR 250), dE P "told" 524 (vR 257), dE P "worth" 536 (vR 264), dE P "ordered" 546 (vR 271), dE P "place_of" 555 (vR 278), dE P "others_with" 567 (vR 285), dE P "stand" 576 (vR 292), dE P "lose" 584 (vR 299), dE P "found" 590 (vR 304), dE P "read_next" 598 (vR 311), dE P "read_at" 608 (vR 319), dE P "start" 619 (vR 327), dE P "put" 625 (vR 332), dE P "drop" 633 (vR 339), dE P "doubled" 645 (vR 346), dE P "may_write" 652 (vR 353), dE P "write" 662 (vR 360), dE P "last_place" 668 (vR 365), dE P "rewrite" 674 (vR 370), dE P "delete" 684 (vR 378), dE P "__static_attributes__" 696 (vR 379), dE P "__dict__" 698 (vR 382), dE P "__weakref__" 700 (vR 383), dE P "__doc__" 701 .none] 4)
  ::   (nat_lit 381, { cls := Value.type "type", data := Data.cls { name := Str.ofString "KeyFile", bases := [Value.type "object"], mro := [Value.ref 381, Value.type "object"], ns := 380, qualname := Str.ofString "KeyFile" }, slots := #[none, none, some (Value.str (Str.ofString "KeyFile") 500), some (Value.str (Str.ofString "KeyFile") 508), some (Value.builtin "object.__new__"), some (Value.bool true)] })
  ::   (nat_lit 386, oT [(vS "sequential" 706), (vS "dynamic" 707)])
  ::   (nat_lit 392, oF (Value.type "code") [(vS "least_from" 709), (vS "least_from" 710), (vS "/claim/cut.py" 711), (vI 321), (vI 2), (vI 0), (vI 0), (vI 3), (vR 387), (Value.bool true), (vI 181), (vR 388), .none, (vR 389), (vR 390), (vR 391), (vI 715), (vI 321), (vS "/claim/cut.py" 716)])
  ::   (nat_lit 393, fO (sA 19) "least_from" .none .none (vS "ledgerspeak.relfile" 704) (vR 392))
  ::   (nat_lit 401, oT [(Value.int 0 730)])
  ::   (nat_lit 407, oF (Value.type "code") [(vS "__init__" 731), (vS "RelFile.__init__" 732), (vS "/claim/cut.py" 733), (vI 328), (vI 5), (vI 0), (vI 0), (vI 3), (vR 402), (Value.bool true), (vI 181), (vR 403), .none, (vR 404), (vR 405), (vR 406), (vI 739), (vI 328), (vS "/claim/cut.py" 740)])
  ::   (nat_lit 408, fO (sC 20 0) "RelFile.__init__" (vR 401) .none (vS "ledgerspeak.relfile" 704) (vR 407))
  ::   (nat_lit 414, oF (Value.type "code") [(vS "need" 742), (vS "RelFile.need" 743), (vS "/claim/cut.py" 744), (vI 343), (vI 3), (vI 0), (vI 0), (vI 3), (vR 409), (Value.bool true), (vI 181), (vR 410), .none, (vR 411), (vR 412), (vR 413), (vI 748), (vI 343), (vS "/claim/cut.py" 749)])
  ::   (nat_lit 415, fO (sC 20 1) "RelFile.need" .none .none (vS "ledgerspeak.relfile" 704) (vR 414))
  ::   (nat_lit 421, oF (Value.type "code") [(vS "failed" 751), (vS "RelFile.failed" 752), (vS "/claim/cut.py" 753), (vI 347), (vI 2), (vI 0), (vI 0), (vI 3), (vR 416), (Value.bool true), (vI 181), (vR 417), .none, (vR 418), (vR 419), (vR 420), (vI 756), (vI 347), (vS "/claim/cut.py" 757)])
  ::   (nat_lit 422, fO (sC 20 2) "RelFile.failed" .none .none (vS "ledgerspeak.relfile" 704) (vR 421))
  ::   (nat_lit 428, oF (Value.type "code") [(vS "found" 759), (vS "RelFile.found" 760), (vS "/claim/cut.py" 761), (vI 351), (vI 2), (vI 0), (vI 0), (vI 3), (vR 423), (Value.bool true), (vI 181), (vR 424), .none, (vR 425), (vR 426), (vR 427), (vI 764), (vI 351), (vS "/claim/cut.py" 765)])
  ::   (nat_lit 429, fO (sC 20 3) "RelFile.found" .none .none (vS "ledgerspeak.relfile" 704) (vR 428))
  ::   (nat_lit 435, oF (Value.type "code") [(vS "read_next" 767), (vS "RelFile.read_next" 768), (vS "/claim/cut.py" 769), (vI 359), (vI 1), (vI 0), (vI 0), (vI 3), (vR 430), (Value.bool true), (vI 181), (vR 431), .none, (vR 432), (vR 433), (vR 434), (vI 772), (vI 359), (vS "/claim/cut.py" 773)])
  ::   (nat_lit 436, fO (sC 20 4) "RelFile.read_next" .none .none (vS "ledgerspeak.relfile" 704) (vR 435))
  ::   (nat_lit 451, oT [(Value.int 0 792)])
  ::   (nat_lit 457, oF (Value.type "code") [(vS "write" 793), (vS "RelFile.write" 794), (vS "/claim/cut.py" 795), (vI 379), (vI 3), (vI 0), (vI 0), (vI 3), (vR 452), (Value.bool true), (vI 181), (vR 453), .none, (vR 454), (vR 455), (vR 456), (vI 799), (vI 379), (vS "/claim/cut.py" 800)])
  ::   (nat_lit 458, fO (sC 20 7) "RelFile.write" (vR 451) .none (vS "ledgerspeak.relfile" 704) (vR 457))
  ::   (nat_lit 464, oF (Value.type "code") [(vS "chosen" 802), (vS "RelFile.chosen" 803), (vS "/claim/cut.py" 804), (vI 395), (vI 2), (vI 0), (vI 0), (vI 3), (vR 459), (Value.bool true), (vI 181), (vR 460), .none, (vR 461), (vR 462), (vR 463), (vI 808), (vI 395), (vS "/claim/cut.py" 809)])
  ::   (nat_lit 465, fO (sC 20 8) "RelFile.chosen" .none .none (vS "ledgerspeak.relfile" 704) (vR 464))
  ::   (nat_lit 466, oT [(Value.int 0 811)])
  ::   (nat_lit 472, oF (Value.type "code") [(vS "rewrite" 812), (vS "RelFile.rewrite" 813), (vS "/claim/cut.py" 814), (vI 404), (vI 3), (vI 0), (vI 0), (vI 3), (vR 467), (Value.bool true), (vI 181), (vR 468), .none, (vR 469), (vR 470), (vR 471), (vI 820), (vI 404), (vS "/claim/cut.py" 821)])
  ::   (nat_lit 473, fO (sC 20 9) "RelFile.rewrite" (vR 466) .none (vS "ledgerspeak.relfile" 704) (vR 472))
  ::   (nat_lit 474, oT [(Value.int 0 823)])
  ::   (nat_lit 480, oF (Value.type "code") [(vS "delete" 824), (vS "RelFile.delete" 825), (vS "/claim/cut.py" 826), (vI 411), (vI 2), (vI 0), (vI 0), (vI 3), (vR 475), (Value.bool true), (vI 181), (vR 476), .none, (vR 477), (vR 478), (vR 479), (vI 831), (vI 411), (vS "/claim/cut.py" 832)])
  ::   (nat_lit 481, fO (sC 20 10) "RelFile.delete" (vR 474) .none (vS "ledgerspeak.relfile" 704) (vR 480))
  ::   (nat_lit 488, oD [dE P "__module__" 725 (vS "ledgerspeak.relfile" 704), dE P "__firstlineno__" 729 (Value.int 326 728), dE P "__init__" 741 (vR 408), dE P "need" 750 (vR 415), dE P "failed" 758 (vR 422), dE P "found" 766 (vR 429), dE P "read_next" 774 (vR 436), dE P "read_at" 782 (vR 443), dE P "start" 791 (vR 450), dE P "write" 801 (vR 458), dE P "chosen" 810 (vR 465), dE P "rewrite" 822 (vR 473), dE P "delete" 833 (vR 481), dE P "told" 839 (vR 486), dE P "__static_attributes__" 849 (vR 487), dE P "__dict__" 851 (vR 490), dE P "__weakref__" 853 (vR 491), dE P "__doc__" 854 .none] 4)
  ::   (nat_lit 489, { cls := Value.type "type", data := Data.cls { name := Str.ofString "RelFile", bases := [Value.type "object"], mro := [Value.ref 489, Value.type "object"], ns := 488, qualname := Str.ofString "RelFile" }, slots := #[none, none, some (Value.str (Str.ofString "RelFile") 718), some (Value.str (Str.ofString "RelFile") 726), some (Value.builtin "object.__new__"), some (Value.bool true)] })
  ::   (nat_lit 494, oT [(vS "input" 859), (vS "i-o" 860)])
  ::   (nat_lit 495, oT [(vS "output" 862), (vS "extend" 863)])
  ::   (nat_lit 508, oF (Value.type "code") [(vS "__init__" 877), (vS "RowFile.__init__" 878), (vS "/claim/cut.py" 879), (vI 425), (vI 3), (vI 0), (vI 0), (vI 3), (vR 503), (Value.bool true), (vI 181), (vR 504), .none, (vR 505), (vR 506), (vR 507), (vI 883), (vI 425), (vS "/claim/cut.py" 884)])
  ::   (nat_lit 509, fO (sC 24 0) "RowFile.__init__" .none .none (vS "ledgerspeak.rowfile" 857) (vR 508))
  ::   (nat_lit 515, oF (Value.type "code") [(vS "read_next" 886), (vS "RowFile.read_next" 887), (vS "/claim/cut.py" 888), (vI 434), (vI 1), (vI 0), (vI 0), (vI 3), (vR 510), (Value.bool true), (vI 181), (vR 511), .none, (vR 512), (vR 513), (vR 514), (vI 890), (vI 434), (vS "/claim/cut.py" 891)])
  ::   (nat_lit 516, fO (sC 24 1) "RowFile.read_next" .none .none (vS "ledgerspeak.rowfile" 857) (vR 515))
  ::   (nat_lit 522, oF (Value.type "code") [(vS "write" 893), (vS "RowFile.write" 894), (vS "/claim/cut.py" 895), (vI 447), (vI 2), (vI 0), (vI 0), (vI 3), (vR 517), (Value.bool true), (vI 181), (vR 518), .none, (vR 519), (vR 520), (vR 521), (vI 898), (vI 447), (vS "/claim/cut.py" 899)])
  ::   (nat_lit 523, fO (sC 24 2) "RowFile.write" .none .none (vS "ledgerspeak.rowfile" 857) (vR 522))
  ::   (nat_lit 529, oF (Value.type "code") [(vS "rewrite" 901), (vS "RowFile.rewrite" 902), (vS "/claim/cut.py" 903), (vI 454), (vI 2), (vI 0), (vI 0), (vI 3), (vR 524), (Value.bool true), (vI 181), (vR 525), .none, (vR 526), (vR 527), (vR 528), (vI 907), (vI 454), (vS "/claim/cut.py" 908)])
  ::   (nat_lit 530, fO (sC 24 3) "RowFile.rewrite" .none .none (vS "ledgerspeak.rowfile" 857) (vR 529))
  ::   (nat_lit 536, oF (Value.type "code") [(vS "told" 910), (vS "RowFile.told" 911), (vS "/claim/cut.py" 912), (vI 466), (vI 1), (vI 0), (vI 0), (vI 3), (vR 531), (Value.bool true), (vI 181), (vR 532), .none, (vR 533), (vR 534), (vR 535), (vI 914), (vI 466), (vS "/claim/cut.py" 915)])
  ::   (nat_lit 537, fO (sC 24 4) "RowFile.told" .none .none (vS "ledgerspeak.rowfile" 857) (vR 536))
  ::   (nat_lit 539, oD [dE P "__module__" 872 (vS "ledgerspeak.rowfile" 857), dE P "__firstlineno__" 876 (Value.int 423 875), dE P "__init__" 885 (vR 509), dE P "read_next" 892 (vR 516), dE P "write" 900 (vR 523), dE P "rewrite" 909 (vR 530), dE P "told" 916 (vR 537), dE P "__static_attributes__" 922 (vR 538), dE P "__dict__" 924 (vR 541), dE P "__weakref__" 926 (vR 542), dE P "__doc__" 927 .none] 4)
  ::   (nat_lit 540, { cls := Value.type "type", data := Data.cls { name := Str.ofString "RowFile", bases := [Value.type "object"], mro := [Value.ref 540, Value.type "object"], ns := 539, qualname := Str.ofString "RowFile" }, slots := #[none, none, some (Value.str (Str.ofString "RowFile") 865), some (Value.str (Str.ofString "RowFile") 873), some (Value.builtin "object.__new__"), some (Value.bool true)] })
  ::   (nat_lit 545, oT [(vS "sequential" 932), (vS "relative" 933), (vS "indexed" 934)])
  ::   (nat_lit 551, oF (Value.type "code") [(vS "_law_taker" 936), (vS "_law_taker" 937), (vS "/claim/cut.py" 938), (vI 470), (vI 1), (vI 0), (vI 0), (vI 3), (vR 546), (Value.bool true), (vI 181), (vR 547), .none, (vR 548), (vR 549), (vR 550), (vI 943), (vI 470), (vS "/claim/cut.py" 944)])
  ::   (nat_lit 552, fO (sA 27) "_law_taker" .none .none (vS "law_og0104_01" 930) (vR 551))
  ::   (nat_lit 558, oF (Value.type "code") [(vS "_law_open" 946), (vS "_law_open" 947), (vS "/claim/cut.py" 948), (vI 482), (vI 3), (vI 0), (vI 0), (vI 3), (vR 553), (Value.bool true), (vI 181), (vR 554), .none, (vR 555), (vR 556), (vR 557), (vI 952), (vI 482), (vS "/claim/cut.py" 953)])
  ::   (nat_lit 559, fO (sA 28) "_law_open" .none .none (vS "law_og0104_01" 930) (vR 558))
  ::   (nat_lit 565, oF (Value.type "code") [(vS "_law_in_order" 955), (vS "_law_in_order" 956), (vS "/claim/cut.py" 957), (vI 488), (vI 2), (vI 0), (vI 0), (vI 3), (vR 560), (Value.bool true), (vI 181), (vR 561), .none, (vR 562), (vR 563), (vR 564), (vI 960), (vI 488), (vS "/claim/cut.py" 961)])
  ::   (nat_lit 566, fO (sA 29) "_law_in_order" .none .none (vS "law_og0104_01" 930) (vR 565))
  ::   (nat_lit 570, oF (Value.type "code") [(vS "_law_told" 963), (vS "_law_told" 964), (vS "/claim/cut.py" 965), (vI 490), (vI 1), (vI 0), (vI 0), (vI 3), (vR 567), (Value.bool true), (vI 181), (vR 568), .none, .none, .none, (vR 569), (vI 966), (vI 490), (vS "/claim/cut.py" 967)])
  ::   (nat_lit 571, fO (sA 30) "_law_told" .none .none (vS "law_og0104_01" 930) (vR 570))
  ::   (nat_lit 577, oF (Value.type "code") [(vS "_law_place" 969), (vS "_law_place" 970), (vS "/claim/cut.py" 971), (vI 499), (vI 2), (vI 0), (vI 0), (vI 3), (vR 572), (Value.bool true), (vI 181), (vR 573), .none, (vR 574), (vR 575), (vR 576), (vI 975), (vI 499), (vS "/claim/cut.py" 976)])
  ::   (nat_lit 578, fO (sA 31) "_law_place" .none .none (vS "law_og0104_01" 930) (vR 577))
  ::   (nat_lit 584, oF (Value.type "code") [(vS "_law_keyed_right" 978), (vS "_law_keyed_right" 979), (vS "/claim/cut.py" 980), (vI 504), (vI 6), (vI 0), (vI 0), (vI 3), (vR 579), (Value.bool true), (vI 181), (vR 580), .none, (vR 581), (vR 582), (vR 583), (vI 990), (vI 504), (vS "/claim/cut.py" 991)])
  ::   (nat_lit 585, fO (sA 32) "_law_keyed_right" .none .none (vS "law_og0104_01" 930) (vR 584))
  ::   (nat_lit 591, oF (Value.type "code") [(vS "_law_rows_right" 993), (vS "_law_rows_right" 994), (vS "/claim/cut.py" 995), (vI 523), (vI 5), (vI 0), (vI 0), (vI 3), (vR 586), (Value.bool true), (vI 181), (vR 587), .none, (vR 588), (vR 589), (vR 590), (vI 1004), (vI 523), (vS "/claim/cut.py" 1005)])
  ::   (nat_lit 592, fO (sA 33) "_law_rows_right" .none .none (vS "law_og0104_01" 930) (vR 591))
  ::   (nat_lit 598, oF (Value.type "code") [(vS "_law_is_read" 1007), (vS "_law_is_read" 1008), (vS "/claim/cut.py" 1009), (vI 537), (vI 3), (vI 0), (vI 0), (vI 3), (vR 593), (Value.bool true), (vI 181), (vR 594), .none, (vR 595), (vR 596), (vR 597), (vI 1015), (vI 537), (vS "/claim/cut.py" 1016)])
  ::   (nat_lit 599, fO (sA 34) "_law_is_read" .none .none (vS "law_og0104_01" 930) (vR 598))
  ::   (nat_lit 603, oF (Value.type "code") [(vS "_law_session_right" 1018), (vS "_law_session_right" 1019), (vS "/claim/cut.py" 1020), (vI 543), (vI 3), (vI 0), (vI 0), (vI 3), (vR 600), (Value.bool true), (vI 181), (vR 601), .none, .none, .none, (vR 602), (vI 1021), (vI 543), (vS "/claim/cut.py" 1022)])
  ::   (nat_lit 604, fO (sA 35) "_law_session_right" .none .none (vS "law_og0104_01" 930) (vR 603))
  ::   (nat_lit 610, oF (Value.type "code") [(vS "law" 1024), (vS "law" 1025), (vS "/claim/cut.py" 1026), (vI 563), (vI 1), (vI 0), (vI 0), (vI 3), (vR 605), (Value.bool true), (vI 181), (vR 606), .none, (vR 607), (vR 608), (vR 609), (vI 1032), (vI 563), (vS "/claim/cut.py" 1033)])
  ::   (nat_lit 611, fO (sA 36) "law" .none .none (vS "law_og0104_01" 930) (vR 610))
  :: []
end Mine


section
open PySem PySem.W PySem.Calls PyProof.Rows
set_option Elab.async false
namespace Mine

structure Amb (A : Around) (n : Nat) : Prop where
  depth : A.depth + 3 * n ≤ 990
  units : A.units + 12 * n ≤ 9800
  handled : A.handled = none

theorem Amb.deeper {A : Around} {n : Nat} (h : Amb A (n + 1)) (env : Env) : Amb (A.deeper env) n :=
  ⟨by have := h.depth; show A.depth + 1 + 3 * n ≤ 990; omega, by have := h.units; show A.units + 3 + 12 * n ≤ 9800; omega, h.handled⟩
theorem Amb.le {A : Around} {n k : Nat} (h : Amb A n) (hk : k ≤ n) : Amb A k :=
  ⟨by have := h.depth; omega, by have := h.units; omega, h.handled⟩
theorem Amb.room {A : Around} {n : Nat} (h : Amb A n) : A.depth < recursionLimit := by have := h.depth; show A.depth < 1000; omega

section
variable {prog : Program} {w : World} {A : Around} {s : Shared} {h₀ : Heap} {L : Addr} {m : Str → Option Value} {news : List (Addr × Obj)} {K : Frag}
  {R : Result → Shared → Prop} {name qual : Str} {params : Arguments} {body : List Stmt} {scope : Scope} {dV kV doc pm cdv ct oc : Value} {an od : Option Addr} {osl : Array (Option Value)} {f : Addr} {args : Args} {binds : List (Str × Value)}
  {p : Program} {loose : List Str} {mg mb : Str → Option Value}
structure Chg (S : List Addr) (h h' : Heap) : Prop where
  keep : ∀ b o, b ∉ S → h.get? b = some o → h'.get? b = some o
  size : h.objs.size ≤ h'.objs.size
def EndC (g : Heap) (Q : Value → Shared → Prop) (v : Value) (s' : Shared) : Prop :=
  ∃ L' m' news', Fr g L' s'.heap m' ∧ News g L' s'.heap news' ∧ (News g L' s'.heap news' → Q v s')

end
end Mine
end

section
open PySem PySem.W PySem.Calls PyProof.Rows
set_option Elab.async false
set_option linter.all false
namespace Mine
inductive A2 (a b : Prop) : Prop
  | mk (aa : a) (bb : b)
inductive A3 (a b c : Prop) : Prop
  | mk (aa : a) (bb : b) (cc : c)
inductive A4 (a b c d : Prop) : Prop
  | mk (aa : a) (bb : b) (cc : c) (dd : d)
inductive A5 (a b c d e : Prop) : Prop
  | mk (aa : a) (bb : b) (cc : c) (dd : d) (ee : e)
inductive A6 (a b c d e f : Prop) : Prop
  | mk (aa : a) (bb : b) (cc : c) (dd : d) (ee : e) (ff : f)
inductive A8 (a b c d e f g h : Prop) : Prop
  | mk (aa : a) (bb : b) (cc : c) (dd : d) (ee : e) (ff : f) (gg : g) (hh : h)
inductive E1 {ta : Type} (p : ta → Prop) : Prop
  | mk (a : ta) (h : p a)
inductive E2 {ta tb : Type} (p : ta → tb → Prop) : Prop
  | mk (a : ta) (b : tb) (h : p a b)
inductive E3 {ta tb tc : Type} (p : ta → tb → tc → Prop) : Prop
  | mk (a : ta) (b : tb) (c : tc) (h : p a b c)
inductive E4 {ta tb tc td : Type} (p : ta → tb → tc → td → Prop) : Prop
  | mk (a : ta) (b : tb) (c : tc) (d : td) (h : p a b c d)
inductive E5 {ta tb tc td te : Type} (p : ta → tb → tc → td → te → Prop) : Prop
  | mk (a : ta) (b : tb) (c : tc) (d : td) (e : te) (h : p a b c d e)
inductive E6 {ta tb tc td te tf : Type} (p : ta → tb → tc → td → te → tf → Prop) : Prop
  | mk (a : ta) (b : tb) (c : tc) (d : td) (e : te) (f : tf) (h : p a b c d e f)

abbrev PG : Program := PySem.Challenge.rw_og0104_01.row.prog
def W (w : World) (A : Around) {α : Type} (t : Sem α) (P : α → Heap → Prop) (h : Heap) : Prop :=
  ∀ s : Shared, s.heap = h → wpAny (model PG w) A t (fun a s' => (∃ tk, s' = { s with heap := s'.heap, toks := tk }) ∧ P a s'.heap) (fun _ _ => False) s

section
variable {w : World} {A : Around} {α β : Type} {h : Heap}
theorem W.use {t : Sem α} {P : α → Heap → Prop} (H : W w A t P h) {s : Shared} (hs : s.heap = h) {Q : α → Shared → Prop} {E : Value → Shared → Prop}
    (k : ∀ a h' tk, P a h' → Q a { s with heap := h', toks := tk }) : wpAny (model PG w) A t Q E s :=
  wpAny_mono (H s hs) (fun a s' ⟨⟨tk, e⟩, hp⟩ => e.symm ▸ k a s'.heap tk hp) fun _ _ f => f.elim
theorem W.mono {t : Sem α} {P P' : α → Heap → Prop} (H : W w A t P h) (k : ∀ a h', P a h' → P' a h') : W w A t P' h :=
  fun s hs => H.use hs fun a h' tk hp => ⟨⟨tk, rfl⟩, k a h' hp⟩
theorem W.of {t : Sem α} {P : α → Heap → Prop} (H : ∀ (s : Shared) (Q : α → Shared → Prop), s.heap = h → (∀ a h' tk, P a h' → Q a { s with heap := h', toks := tk }) → wpAny (model PG w) A t Q (fun _ _ => False) s) : W w A t P h :=
  fun s hs => H s _ hs fun _ _ tk hp => ⟨⟨tk, rfl⟩, hp⟩
end
@[reducible] def K1 (w : World) (A : Around) {α β : Type} (f : α → Sem β) (P : β → Heap → Prop) : α → Heap → Prop := fun v h => W w A (f v) P h
@[reducible] def KM {α β : Type} (f : α → β) (P : β → Heap → Prop) : α → Heap → Prop := fun v h => P (f v) h
@[reducible] def K2 (w : World) (A : Around) {α β γ : Type} (t : Sem β) (f : α → β → Sem γ) (P : γ → Heap → Prop) : α → Heap → Prop := fun u h => W w A t (K1 w A (f u) P) h
@[reducible] def KL (w : World) (A : Around) (t : Sem (List Value)) (P : List Value → Heap → Prop) : Value → Heap → Prop := fun v h => W w A t (KM (List.cons v) P) h
@[reducible] def K3 (w : World) (A : Around) {α β γ δ : Type} (t : Sem β) (t2 : Sem γ) (f : α → β → γ → Sem δ) (P : δ → Heap → Prop) : α → Heap → Prop := fun u h => W w A t (K2 w A t2 (f u) P) h
@[reducible] def KC (a b : Heap → Prop) : Bool → Heap → Prop := fun c h => (c = true → a h) ∧ (c = false → b h)
@[reducible] def KAnd (w : World) (A : Around) (r : Heap → Prop) (P : Value → Heap → Prop) : Value → Heap → Prop := fun v h => W w A (truthy v) (KC r (P v)) h
@[reducible] def KCi (w : World) (A : Around) (t2 : Sem Value) (o2 : Value → Value → Sem Value) (P : Bool → Heap → Prop) (v : Value) : Heap → Prop := W w A t2 (K1 w A (o2 v) (K1 w A truthy P))
@[reducible] def KCh (w : World) (A : Around) (t1 t2 : Sem Value) (o1 o2 : Value → Value → Sem Value) (P : Bool → Heap → Prop) : Value → Heap → Prop := fun u h => W w A t1 (fun v => W w A (o1 u v) (K1 w A truthy (KC (KCi w A t2 o2 P v) (P false)))) h
@[reducible] def KN (P : Flow → Heap → Prop) : Unit → Heap → Prop := fun _ h => P .next h
def key (x : Str) : List Nat := x.cps.toList
theorem key_inj {x y : Str} (e : key x = key y) : x = y := by
  obtain ⟨⟨a⟩⟩ := x; obtain ⟨⟨b⟩⟩ := y
  exact congrArg (fun l => Str.mk (Array.mk l)) e
abbrev Loc := List (List Nat × Value)
abbrev Led := List (Addr × Obj)
def NsO (o : Obj) (m : Str → Option Value) : Prop := ∃ es ep, o.data = .dict es ep ∧ StrKeys es ∧ ∀ name, nsFind es name = m name
theorem NsO.ns {h : Heap} {C : Addr} {o : Obj} {m : Str → Option Value} (x : NsO o m) (e : h.get? C = some o) : h.Ns C m := let ⟨es, ep, hd, r⟩ := x; ⟨o, es, ep, e, hd, r⟩
theorem nsO_of {h : Heap} {C : Addr} {m : Str → Option Value} (x : h.Ns C m) : ∃ o, h.get? C = some o ∧ NsO o m := let ⟨o, es, ep, e, hd, r⟩ := x; ⟨o, e, es, ep, hd, r⟩
def LocO (l : Loc) (o : Obj) : Prop := ∃ m, NsO o m ∧ ∀ x v, l.lookup (key x) = some v → m x = some v

structure St (g : Heap) (L : Addr) (h : Heap) (l : Loc) (led : Led) : Prop where
  fr : ∃ o, h.get? L = some o ∧ LocO l o
  keep : ∀ b o, g.get? b = some o → h.get? b = some o
  hL : g.get? L = none
  N : ∀ p ∈ led, h.get? p.1 = some p.2 ∧ p.1 ≠ L ∧ g.get? p.1 = none
  D : (led.map (·.1)).Nodup

structure EnvF (env : Env) (L : Addr) (ks : List (List Nat × NameKind)) (cs : List (List Nat × Addr)) : Prop where
  kind : env.scope.kind = .function
  locals : env.locals = L
  globals : env.globals = mainGlobals
  builtins : env.builtins = builtinsNs
  names : env.scope.names.map (fun p => (key p.1, p.2)) = ks
  cells : env.cells.map (fun p => (key p.1, p.2)) = cs
structure Gd (w : World) (g : Heap) : Prop where
  X : (Mine.hd.heap_39 w.params).In g
  T : ∃ p loose mg mb, TopRead p loose mg mb g
theorem Gd.keeps {w : World} {g g' : Heap} (G : Gd w g) (k : ∀ b o, g.get? b = some o → g'.get? b = some o) : Gd w g' :=
  ⟨G.X.keeps k, let ⟨p, l, a, b, T⟩ := G.T; ⟨p, l, a, b, T.keeps k⟩⟩

section
variable {g g' h h' : Heap} {L : Addr} {l l' : Loc} {led led' : Led} {env : Env} {ks : List (List Nat × NameKind)} {cs : List (List Nat × Addr)}

theorem St.get (S : St g L h l led) {a : Addr} {o : Obj} (hm : (a, o) ∈ led) : h.get? a = some o := (S.N _ hm).1
theorem St.fresh (S : St g L h l led) {a : Addr} {o : Obj} (hm : (a, o) ∈ led) : g.get? a = none := (S.N _ hm).2.2
theorem St.ne (S : St g L h l led) {a : Addr} {o : Obj} (hm : (a, o) ∈ led) : a ≠ L := (S.N _ hm).2.1
theorem St.ns (S : St g L h l led) : ∃ m, h.Ns L m ∧ ∀ x v, l.lookup (key x) = some v → m x = some v := let ⟨_, e, m, hn, k⟩ := S.fr; ⟨m, hn.ns e, k⟩

theorem lookup_names {α : Type} {names : List (Str × α)} {x : Str} : (names.map fun p => (key p.1, p.2)).lookup (key x) = names.lookup x := by
  induction names with
  | nil => rfl
  | cons p r ih =>
    obtain ⟨y, k⟩ := p
    simp only [List.map_cons, List.lookup_cons]
    by_cases e : x = y
    · subst e; simp
    · have e' : (key x == key y) = false := beq_eq_false_iff_ne.mpr fun q => e (key_inj q)
      have e'' : (x == y) = false := beq_eq_false_iff_ne.mpr e
      rw [e', e'']; exact ih
theorem EnvF.kindOf (e : EnvF env L ks cs) {x : Str} {k : List Nat} {nk : NameKind} (hx : key x = k) (hk : ks.lookup k = some nk) : env.kindOf x = some nk := by
  show env.scope.names.lookup x = some nk
  rw [← lookup_names, e.names, hx, hk]
theorem EnvF.cellOf (e : EnvF env L ks cs) {x : Str} {k : List Nat} {c : Addr} (hx : key x = k) (hk : cs.lookup k = some c) : env.cells.lookup x = some c := by
  rw [← lookup_names, e.cells, hx, hk]
theorem EnvF.plain (e : EnvF env L ks cs) : (env.scope.kind == .class || (env.scope.kind == .module && env.locals != env.globals)) = false := by rw [e.kind]; rfl
theorem EnvF.quiet (e : EnvF env L ks cs) : interactive env = false := by unfold interactive; rw [e.kind]; rfl

theorem loc_sub (hl : ∀ p ∈ l', l.lookup p.1 = some p.2) {o : Obj} (H : LocO l o) : LocO l' o := by
  obtain ⟨m, hn, k⟩ := H
  refine ⟨m, hn, fun x v e => k x v ?_⟩
  have : ∀ (l' : Loc), (∀ p ∈ l', l.lookup p.1 = some p.2) → l'.lookup (key x) = some v → l.lookup (key x) = some v := by
    intro l'
    induction l' with
    | nil => intro _ e; cases e
    | cons p r ih =>
      intro hl e
      rw [List.lookup_cons] at e
      cases hb : key x == p.1 with
      | true => rw [hb] at e; cases e; rw [beq_iff_eq.mp hb]; exact hl p (.head _)
      | false => rw [hb] at e; exact ih (fun q hq => hl q (.tail _ hq)) e
  exact this l' hl e
theorem St.locs (S : St g L h l led) (hl : ∀ p ∈ l', l.lookup p.1 = some p.2) : St g L h l' led :=
  ⟨let ⟨o, e, H⟩ := S.fr; ⟨o, e, loc_sub hl H⟩, S.keep, S.hL, S.N, S.D⟩
theorem St.perm (S : St g L h l led) (p : led.Perm led') : St g L h l led' :=
  ⟨S.fr, S.keep, S.hL, fun q hq => S.N q (p.mem_iff.mpr hq), (p.map _).nodup_iff.mp S.D⟩
theorem St.only (S : St g L h l (led ++ led')) : St g L h l led :=
  ⟨S.fr, S.keep, S.hL, fun p hp => S.N p (List.mem_append_left _ hp), by have D := S.D; rw [List.map_append] at D; exact (List.nodup_append.mp D).1⟩
def iced (h : Heap) (L : Addr) (led : Led) : Heap := hideAll h (L :: led.map (·.1))
theorem St.set (S : St g L h l led) {x : Str} {k : List Nat} (hx : key x = k) {v : Value} (hn : ∀ m, h.Ns L m → h'.Ns L (fun y => if y = x then some v else m y)) (hs : Heap.SameBut L h h') : St g L h' ((k, v) :: l) led := by
  have kp : ∀ b o, b ≠ L → h.get? b = some o → h'.get? b = some o := fun b o hb e => (hs.2 b hb).trans e
  refine ⟨?_, fun b o e => kp b o (fun z => by rw [z, S.hL] at e; cases e) (S.keep b o e), S.hL, fun p hp => ⟨kp _ _ (S.N p hp).2.1 (S.N p hp).1, (S.N p hp).2⟩, S.D⟩
  obtain ⟨o, e, m, hm, q⟩ := S.fr
  obtain ⟨o', e', hm'⟩ := nsO_of (hn m (hm.ns e))
  refine ⟨o', e', _, hm', fun y u e => ?_⟩
  rw [List.lookup_cons] at e
  by_cases hy : y = x
  · subst hy; rw [hx] at e; simp at e; simp [e]
  · have : (key y == k) = false := beq_eq_false_iff_ne.mpr fun z => hy (key_inj (z.trans hx.symm))
    rw [this] at e; simp [hy, q y u e]
theorem St.grow (S : St g L h l led) (hk : ∀ b o, h.get? b = some o → h'.get? b = some o) : St g L h' l led :=
  ⟨let ⟨o, e, H⟩ := S.fr; ⟨o, hk _ _ e, H⟩, fun b o e => hk b o (S.keep b o e), S.hL, fun p hp => ⟨hk _ _ (S.N p hp).1, (S.N p hp).2⟩, S.D⟩
theorem St.add (S : St g L h l led) (hk : ∀ b o, h.get? b = some o → h'.get? b = some o) {a : Addr} {o : Obj} (ha : h.get? a = none) (ho : h'.get? a = some o) : St g L h' l ((a, o) :: led) := by
  have S' := S.grow hk
  refine ⟨S'.fr, S'.keep, S'.hL, fun p hp => ?_, ?_⟩
  · rcases List.mem_cons.mp hp with rfl | hp
    · refine ⟨ho, fun e => ?_, ?_⟩
      · obtain ⟨oL, hL, _⟩ := S.fr
        rw [← show a = L from e, ha] at hL; cases hL
      · cases q : g.get? a with
        | none => rfl
        | some o' => have := S.keep _ _ q; rw [ha] at this; cases this
    · exact S'.N p hp
  · rw [List.map_cons, List.nodup_cons]
    refine ⟨fun hm => ?_, S.D⟩
    obtain ⟨p, hp, e⟩ := List.mem_map.mp hm
    have := (S.N p hp).1
    rw [show p.1 = a from e, ha] at this; cases this
theorem St.push (S : St g L h l led) (o : Obj) (hf : o.isFreed = false := by rfl) : St g L (h.push o) l ((h.objs.size, o) :: led) :=
  S.add (fun _ _ e => Heap.get?_push_of_some _ e) (by
    cases q : h.get? h.objs.size with
    | none => rfl
    | some o => exact absurd (Heap.lt_size q) (Nat.lt_irrefl _)) (Heap.get?_push_size _ hf)
inductive PutF (d : Addr) (o : Obj) : Led → (Obj → Led) → Prop
  | head {r} : PutF d o ((d, o) :: r) fun o' => (d, o') :: r
  | tail {p r G} : PutF d o r G → PutF d o (p :: r) fun o' => p :: G o'
theorem PutF.split {d : Addr} {o : Obj} {G : Obj → Led} (U : PutF d o led G) : ∃ pre post, led = pre ++ (d, o) :: post ∧ ∀ o', G o' = pre ++ (d, o') :: post := by
  induction U with
  | head => exact ⟨[], _, rfl, fun _ => rfl⟩
  | @tail p r G _ ih => obtain ⟨pre, post, e, k⟩ := ih; exact ⟨p :: pre, post, by rw [e]; rfl, fun o' => by show p :: G o' = _; rw [k o']; rfl⟩
theorem PutF.mem {d : Addr} {o : Obj} {G : Obj → Led} (U : PutF d o led G) : (d, o) ∈ led := by
  obtain ⟨pre, post, e, _⟩ := U.split; rw [e]; simp
theorem St.put' (S : St g L h l led) {d : Addr} {o o' : Obj} {G : Obj → Led} (U : PutF d o led G) (hs : ∀ b ob, b ≠ d → b ≠ L → h.get? b = some ob → h'.get? b = some ob) (hL : ∀ m, h.Ns L m → h'.Ns L m) (ho : h'.get? d = some o') : St g L h' l (G o') := by
  obtain ⟨pre, post, rfl, k⟩ := U.split
  have D := S.D
  simp only [List.map_append, List.map_cons] at D
  have h1 : ∀ p ∈ pre, p.1 ≠ d := fun p hp e => (List.nodup_append.mp D).2.2 p.1 (List.mem_map_of_mem hp) d (.head _) e
  have h2 : ∀ p ∈ post, p.1 ≠ d := fun p hp e => (List.nodup_cons.mp (List.nodup_append.mp D).2.1).1 (e ▸ List.mem_map_of_mem hp)
  have M := S.N (d, o) (by simp)
  have one : ∀ p ∈ pre ++ (d, o) :: post, p.1 ≠ d → h'.get? p.1 = some p.2 ∧ p.1 ≠ L ∧ g.get? p.1 = none := fun p hp hd => ⟨hs _ _ hd (S.N p hp).2.1 (S.N p hp).1, (S.N p hp).2⟩
  refine ⟨?_, fun b ob e => hs b ob (fun z => by rw [z, M.2.2] at e; cases e) (fun z => by rw [z, S.hL] at e; cases e) (S.keep b ob e), S.hL, k o' ▸ fun p hp => ?_, ?_⟩
  · obtain ⟨o, e, m, hm, q⟩ := S.fr
    obtain ⟨o', e', hm'⟩ := nsO_of (hL m (hm.ns e))
    exact ⟨o', e', m, hm', q⟩
  · rcases List.mem_append.mp hp with q | q
    · exact one p (List.mem_append_left _ q) (h1 p q)
    · rcases List.mem_cons.mp q with rfl | q
      · exact ⟨ho, M.2⟩
      · exact one p (List.mem_append_right _ (.tail _ q)) (h2 p q)
  · rw [k o']; simp only [List.map_append, List.map_cons]; exact D
theorem St.put (S : St g L h l led) {d : Addr} {o o' : Obj} {G : Obj → Led} (U : PutF d o led G) (hs : Heap.SameBut d h h') (ho : h'.get? d = some o') : St g L h' l (G o') :=
  S.put' U (fun b ob hb _ e => (hs.2 b hb).trans e) (fun m hn => hn.sameBut hs (Ne.symm (S.ne U.mem))) ho
inductive Tk1 (p : Addr × Obj) : Led → Led → Prop
  | head {r} : Tk1 p (p :: r) r
  | tail {q r r'} : Tk1 p r r' → Tk1 p (q :: r) (q :: r')
theorem Tk1.perm {p : Addr × Obj} (H : Tk1 p led led') : led.Perm (p :: led') := by
  induction H with
  | head => exact .refl _
  | tail _ ih => exact (ih.cons _).trans (.swap ..)
def Pk (fp led rest : Led) : Prop := led.Perm (fp ++ rest)
theorem Pk.nil {r : Led} : Pk [] r r := .refl _
theorem Pk.cons {p : Addr × Obj} {fp r r1 rest : Led} (t : Tk1 p r r1) (H : Pk fp r1 rest) : Pk (p :: fp) r rest := t.perm.trans (List.Perm.cons _ H)
theorem Pk.fam {fam rest : Led} : Pk fam (fam ++ rest) rest := .refl _
theorem Pk.all {fam : Led} : Pk fam fam [] := by unfold Pk; rw [List.append_nil]
theorem Pk.perm {fp led rest : Led} (H : Pk fp led rest) : led.Perm (fp ++ rest) := H
theorem Tk1.over {p : Addr × Obj} : ∀ (fam : Led) {r r' : Led}, Tk1 p r r' → Tk1 p (fam ++ r) (fam ++ r')
  | [], _, _, H => H
  | _ :: fam, _, _, H => .tail (Tk1.over fam H)
theorem PutF.over {d : Addr} {o : Obj} : ∀ (fam : Led) {r : Led} {G : Obj → Led}, PutF d o r G → PutF d o (fam ++ r) fun o' => fam ++ G o'
  | [], _, _, H => H
  | _ :: fam, _, _, H => .tail (PutF.over fam H)
theorem St.pk {fp rest : Led} (S : St g L h l led) (H : Pk fp led rest) : St g L h l (fp ++ rest) := S.perm H.perm
theorem St.sel {fp rest : Led} (S : St g L h l led) (H : Pk fp led rest) : St g L h l fp := (S.perm H.perm).only
theorem St.back {fp rest : Led} (S : St g L h l (fp ++ rest)) {g' : Heap} {L' : Addr} {l' : Loc} (S' : St g' L' h' l' led') (hg : ∀ b o, b ∉ fp.map (·.1) → h.get? b = some o → g'.get? b = some o) : St g L h' l (led' ++ rest) := by
  have D := S.D
  rw [List.map_append] at D
  obtain ⟨D1, D2, D3⟩ := List.nodup_append.mp D
  have kp : ∀ b o, b ∉ fp.map (·.1) → h.get? b = some o → h'.get? b = some o := fun b o hb e => S'.keep b o (hg b o hb e)
  have gf : ∀ b o, g.get? b = some o → b ∉ fp.map (·.1) := fun b o e hm => by
    obtain ⟨p, hp, z⟩ := List.mem_map.mp hm
    have := (S.N p (List.mem_append_left _ hp)).2.2
    rw [z, e] at this; cases this
  have Lf : L ∉ fp.map (·.1) := fun hm => by
    obtain ⟨p, hp, z⟩ := List.mem_map.mp hm
    exact (S.N p (List.mem_append_left _ hp)).2.1 z
  obtain ⟨oL, eL, HL⟩ := S.fr
  have new : ∀ p ∈ led', ∀ o, h.get? p.1 = some o → p.1 ∈ fp.map (·.1) := fun p hp o e => by
    refine Classical.byContradiction fun z => ?_
    have := (S'.N p hp).2.2
    rw [hg _ _ z e] at this; cases this
  refine ⟨⟨oL, kp _ _ Lf eL, HL⟩, fun b o e => kp b o (gf b o e) (S.keep b o e), S.hL, fun p hp => ?_, ?_⟩
  · rcases List.mem_append.mp hp with hp | hp
    · refine ⟨(S'.N p hp).1, fun z => Lf (z ▸ new p hp oL (z ▸ eL)), ?_⟩
      cases q : g.get? p.1 with
      | none => rfl
      | some o => exact absurd (new p hp o (S.keep _ _ q)) (gf _ _ q)
    · have M := S.N p (List.mem_append_right _ hp)
      exact ⟨kp _ _ (fun z => D3 p.1 z p.1 (List.mem_map_of_mem hp) rfl) M.1, M.2⟩
  · rw [List.map_append, List.nodup_append]
    refine ⟨S'.D, D2, fun a ha b hb z => ?_⟩
    subst z
    obtain ⟨p, hp, rfl⟩ := List.mem_map.mp ha
    obtain ⟨q, hq, z⟩ := List.mem_map.mp hb
    have M := S.N q (List.mem_append_right _ hq)
    exact D3 p.1 (new p hp q.2 (z ▸ M.1)) p.1 hb rfl
end
end Mine
end

section
open PySem PySem.W PySem.Calls PyProof.Rows
set_option Elab.async false
set_option linter.all false
namespace Mine
section
variable {w : World} {A : Around} {h g : Heap} {env : Env} {L : Addr} {l : Loc} {led : Led} {ks : List (List Nat × NameKind)} {cs : List (List Nat × Addr)}
def Then (k : Heap → Prop) (P : Flow → Heap → Prop) : Flow → Heap → Prop
  | .next, h => k h
  | f, h => P f h
theorem then_next {k : Heap → Prop} {P : Flow → Heap → Prop} (x : k h) : Then k P .next h := x
theorem then_ret {k : Heap → Prop} {P : Flow → Heap → Prop} {v : Value} (x : P (.ret v) h) : Then k P (.ret v) h := x

theorem w_nil {P : Flow → Heap → Prop} (k : P .next h) : W w A (execs [] env) P h := W.of fun s Q hs q => wpAny_execs_nil (by have := q .next h s.toks k; subst hs; exact this)
theorem w_cons {st : Stmt} {rest : List Stmt} {P : Flow → Heap → Prop} (k : W w A (exec st env) (Then (W w A (execs rest env) P) P) h) : W w A (execs (st :: rest) env) P h :=
  W.of fun s Q hs q => wpAny_execs_cons (k.use hs fun f h' tk hp => by
    cases f with
    | next => exact W.use hp rfl fun a h'' tk' x => q a h'' tk' x
    | brk => exact q _ _ _ hp
    | cont => exact q _ _ _ hp
    | ret v => exact q _ _ _ hp)
theorem w_ret {e : Expr} {pos : Pos} {P : Flow → Heap → Prop} (k : W w A (eval e env) (KM Flow.ret P) h) : W w A (exec (.Return (some e) pos) env) P h :=
  W.of fun s Q hs q => wpAny_Return_some (k.use hs fun v h' tk hp => q _ _ _ hp)
theorem w_expr {e : Expr} {pos : Pos} {P : Flow → Heap → Prop} (k : W w A (eval e env) (fun v h1 => (match v with | .ref _ => False | _ => True) ∧ P .next h1) h)
    (hi : interactive env = false) (hs : swapsWith e none pos.line env = pure false := by rfl) : W w A (exec (.Expr e pos) env) P h :=
  W.of fun s Q hs' q => wpAny_Expr (k.use hs' fun v h' tk hp => by cases v <;> first | exact hp.1.elim | exact q _ _ _ hp.2) hi hs
theorem w_if {test : Expr} {body orelse : List Stmt} {pos : Pos} {P : Flow → Heap → Prop}
    (k : W w A (isTrue test env (eval test env)) (KC (W w A (execs body env) P) (W w A (execs orelse env) P)) h) : W w A (exec (.If test body orelse pos) env) P h :=
  W.of fun s Q hs q => wpAny_If (k.use hs fun b h' tk hp => by
    cases b with
    | true => exact W.use (hp.1 rfl) rfl q
    | false => exact W.use (hp.2 rfl) rfl q)
theorem w_assign {x : Str} {ps pos : Pos} {value : Expr} {P : Flow → Heap → Prop} (k : W w A (eval value env) (K1 w A (storeName env x) (KN P)) h)
    (hs : swapsWith value (some (.Name x ps)) pos.line env = pure false := by rfl) : W w A (exec (.Assign [.Name x ps] value pos) env) P h :=
  W.of fun s Q hs' q => wpAny_Assign_Name (k.use hs' fun v h' tk hp => hp.use rfl fun _ h'' tk' x => q _ _ _ x) hs
theorem w_setattr {o : Expr} {attr : Str} {ps pos : Pos} {value : Expr} {P : Flow → Heap → Prop}
    (k : W w A (eval value env) (K2 w A (eval o env) (fun v ov => setAttr ov attr v) (KN P)) h)
    (hs : swapsWith value (some (.Attribute o attr ps)) pos.line env = pure false := by rfl) : W w A (exec (.Assign [.Attribute o attr ps] value pos) env) P h :=
  W.of fun s Q hs' q => plainObj_wpAny_Assign_Attribute (k.use hs' fun v h' tk hp => hp.use rfl fun _ h'' tk' x => x.use rfl fun _ _ _ y => q _ _ _ y) hs
theorem w_setitem {o i : Expr} {ps pos : Pos} {value : Expr} {P : Flow → Heap → Prop}
    (k : W w A (eval value env) (K3 w A (eval o env) (eval i env) (fun v ov iv => setItem ov iv v) (KN P)) h)
    (hs : swapsWith value (some (.Subscript o i ps)) pos.line env = pure false := by rfl) : W w A (exec (.Assign [.Subscript o i ps] value pos) env) P h :=
  W.of fun s Q hs' q => wpAny_Assign_Subscript (k.use hs' fun v h' tk hp => hp.use rfl fun _ h'' tk' x => x.use rfl fun _ _ _ y => y.use rfl fun _ _ _ z => q _ _ _ z) hs
theorem w_settuple {elts : List Expr} {n : Nat} {ps pos : Pos} {value : Expr} {P : Flow → Heap → Prop} (k : W w A (eval value env) (K1 w A (assign (.Tuple elts n ps) env) (KN P)) h)
    (hs : swapsWithSole [.Tuple elts n ps] value pos.line env = pure false := by rfl) (hw : swappedStores [.Tuple elts n ps] value env = pure none := by rfl) : W w A (exec (.Assign [.Tuple elts n ps] value pos) env) P h :=
  W.of fun s Q hs' q => Assign_Tuple (k.use hs' fun v h' tk hp => hp.use rfl fun _ h'' tk' x => q _ _ _ x) hs hw
theorem w_swaptuple {elts : List Expr} {n : Nat} {ps pos : Pos} {value : Expr} {names : List Str} {P : Flow → Heap → Prop}
    (hw : swappedStores [.Tuple elts n ps] value env = pure (some names))
    (k : W w A (eval value env) (K1 w A (fun v => unpackItems v names.length none) (K1 w A (fun items => assignInOrder (names.reverse.map fun n => bindName env n) items.reverse) (KN P))) h)
    (hs : swapsWithSole [.Tuple elts n ps] value pos.line env = pure false := by rfl) : W w A (exec (.Assign [.Tuple elts n ps] value pos) env) P h :=
  W.of fun s Q hs' q => Assign_Tuple_swapped (k.use hs' fun v h' tk hp => hp.use rfl fun _ h'' tk' x => x.use rfl fun _ _ _ y => q _ _ _ y) hs hw
theorem w_order_nil {xs : List Value} {P : Unit → Heap → Prop} (k : P () h) : W w A (assignInOrder [] xs) P h := W.of fun s Q hs q => assignInOrder_nil (by have := q () h s.toks k; subst hs; exact this)
theorem w_order_cons {t : Value → Sem Unit} {ts : List (Value → Sem Unit)} {x : Value} {xs : List Value} {P : Unit → Heap → Prop} (k : W w A (t x) (K1 w A (fun _ => assignInOrder ts xs) P) h) : W w A (assignInOrder (t :: ts) (x :: xs)) P h :=
  W.of fun s Q hs q => assignInOrder_cons (k.use hs fun _ h' tk hp => hp.use rfl q)
theorem w_bindName {x : Str} {v : Value} {P : Unit → Heap → Prop} (k : W w A (storeName env x v) P h) : W w A (bindName env x v) P h := W.of fun s Q hs q => bindName_ (k.use hs q)
theorem w_assignName {x : Str} {pos : Pos} {v : Value} {P : Unit → Heap → Prop} (k : W w A (storeName env x v) P h) : W w A (assign (.Name x pos) env v) P h := W.of fun s Q hs q => assign_Name (k.use hs q)
theorem w_binop {a b : Expr} {op : Operator} {pos : Pos} {P : Value → Heap → Prop} (k : W w A (eval a env) (K2 w A (eval b env) (binaryOp op) P) h) : W w A (eval (.BinOp a op b pos) env) P h :=
  W.of fun s Q hs q => wpAny_BinOp (k.use hs fun _ _ _ x => x.use rfl fun _ _ _ y => y.use rfl q)
theorem w_unop {a : Expr} {op : UnaryOp} {pos : Pos} {P : Value → Heap → Prop} (k : W w A (eval a env) (K1 w A (unaryOp op) P) h) : W w A (eval (.UnaryOp op a pos) env) P h :=
  W.of fun s Q hs q => wpAny_UnaryOp (k.use hs fun _ _ _ x => x.use rfl q)
theorem w_cmp {a b : Expr} {op : CmpOp} {pos : Pos} {P : Value → Heap → Prop} (k : W w A (eval a env) (K2 w A (eval b env) (compareOp op) P) h)
    (hm : behindInMarks op b = false := by with_unfolding_all rfl) : W w A (eval (.Compare a [op] [b] pos) env) P h :=
  W.of fun s Q hs q => wpAny_Compare1 (k.use hs fun _ _ _ x => x.use rfl fun _ _ _ y => y.use rfl q) hm
theorem w_tcmp {a b : Expr} {op : CmpOp} {pos : Pos} {whole : Sem Value} {P : Bool → Heap → Prop} (k : W w A (eval a env) (K2 w A (eval b env) (compareOp op) (K1 w A truthy P)) h)
    (hm : behindInMarks op b = false := by with_unfolding_all rfl) : W w A (isTrue (.Compare a [op] [b] pos) env whole) P h :=
  W.of fun s Q hs q => wpAny_isTrue_Compare1 (k.use hs fun _ _ _ x => x.use rfl fun _ _ _ y => y.use rfl fun _ _ _ z => z.use rfl q) hm
theorem w_tplain {e : Expr} {whole : Sem Value} {P : Bool → Heap → Prop} (k : W w A whole (K1 w A truthy P) h)
    (he : isTrue e env whole = (do let v ← whole; standAt e.pos; holding [v] (truthy v)) := by rfl) : W w A (isTrue e env whole) P h :=
  W.of fun s Q hs q => isTrue_plain (k.use hs fun _ _ _ x => x.use rfl q) he
theorem w_tnot {e : Expr} {pos : Pos} {whole : Sem Value} {P : Bool → Heap → Prop} (k : W w A (isTrue e env (eval e env)) (KM Bool.not P) h) : W w A (isTrue (.UnaryOp .Not e pos) env whole) P h :=
  W.of fun s Q hs q => isTrue_not (k.use hs fun _ _ _ x => q _ _ _ x)
theorem w_tand_nil {pos : Pos} {whole : Sem Value} {P : Bool → Heap → Prop} (k : P true h) : W w A (isTrue (.BoolOp .And [] pos) env whole) P h := W.of fun s Q hs q => isTrue_and_nil (by have := q true h s.toks k; subst hs; exact this)
theorem w_tor_nil {pos : Pos} {whole : Sem Value} {P : Bool → Heap → Prop} (k : P false h) : W w A (isTrue (.BoolOp .Or [] pos) env whole) P h := W.of fun s Q hs q => isTrue_or_nil (by have := q false h s.toks k; subst hs; exact this)
theorem w_tand {e : Expr} {rest : List Expr} {pos : Pos} {whole : Sem Value} {P : Bool → Heap → Prop}
    (k : W w A (isTrue e env (eval e env)) (KC (W w A (isTrue (.BoolOp .And rest pos) env whole) P) (P false)) h) : W w A (isTrue (.BoolOp .And (e :: rest) pos) env whole) P h :=
  W.of fun s Q hs q => isTrue_and (k.use hs fun b h' tk hp => by
    cases b with
    | true => exact W.use (hp.1 rfl) rfl q
    | false => exact q _ _ _ (hp.2 rfl))
theorem w_tor {e : Expr} {rest : List Expr} {pos : Pos} {whole : Sem Value} {P : Bool → Heap → Prop}
    (k : W w A (isTrue e env (eval e env)) (KC (P true) (W w A (isTrue (.BoolOp .Or rest pos) env whole) P)) h) : W w A (isTrue (.BoolOp .Or (e :: rest) pos) env whole) P h :=
  W.of fun s Q hs q => isTrue_or (k.use hs fun b h' tk hp => by
    cases b with
    | true => exact q _ _ _ (hp.1 rfl)
    | false => exact W.use (hp.2 rfl) rfl q)
theorem w_one {op : BoolOp} {e : Expr} {pos : Pos} {P : Value → Heap → Prop} (k : W w A (eval e env) P h) : W w A (eval (.BoolOp op [e] pos) env) P h := k
theorem w_and {a b : Expr} {rest : List Expr} {pos : Pos} {P : Value → Heap → Prop}
    (k : W w A (eval a env) (KAnd w A (W w A (eval (.BoolOp .And (b :: rest) pos) env) P) P) h) : W w A (eval (.BoolOp .And (a :: b :: rest) pos) env) P h :=
  W.of fun s Q hs q => BoolOp_and (k.use hs fun v h' tk hp => hp.use rfl fun c h'' tk' y => by
    cases c with
    | true => exact W.use (y.1 rfl) rfl q
    | false => exact q _ _ _ (y.2 rfl))
theorem w_ifexp {test body orelse : Expr} {pos : Pos} {P : Value → Heap → Prop}
    (k : W w A (isTrue test env (eval test env)) (KC (W w A (eval body env) P) (W w A (eval orelse env) P)) h) : W w A (eval (.IfExp test body orelse pos) env) P h :=
  W.of fun s Q hs q => wpAny_IfExp (k.use hs fun b h' tk hp => by
    cases b with
    | true => exact W.use (hp.1 rfl) rfl q
    | false => exact W.use (hp.2 rfl) rfl q)
theorem w_chain {a : Expr} {o1 o2 : CmpOp} {r1 r2 : Expr} {pos : Pos} {whole : Sem Value} {P : Bool → Heap → Prop}
    (k : W w A (eval a env) (KCh w A (eval r1 env) (eval r2 env) (compareOp o1) (compareOp o2) P) h)
    (hm : lastMarks [o1, o2] [r1, r2] = false := by with_unfolding_all rfl) : W w A (isTrue (.Compare a [o1, o2] [r1, r2] pos) env whole) P h :=
  W.of fun s Q hs q => isTrue_chain (k.use hs fun _ _ _ x => test_link (x.use rfl fun _ _ _ y => y.use rfl fun _ _ _ z => z.use rfl fun t h' tk hp => by
    cases t with
    | true => exact test_last (W.use (hp.1 rfl) rfl fun _ _ _ a => a.use rfl fun _ _ _ b => b.use rfl q)
    | false => exact q _ _ _ (hp.2 rfl))) hm

theorem w_int {i : Int} {n : Nat} {pos : Pos} {P : Value → Heap → Prop} (k : ∀ t, P (.int i t) h) : W w A (eval (.Constant (.int i) n pos) env) P h := W.of fun s Q hs q => wpAny_Constant_int (by subst hs; exact q _ _ _ (k _))
theorem w_str {x : Str} {n : Nat} {pos : Pos} {P : Value → Heap → Prop} (k : ∀ t, P (.str x t) h) : W w A (eval (.Constant (.str x) n pos) env) P h := W.of fun s Q hs q => wpAny_Constant_str (by subst hs; exact q _ _ _ (k _))
theorem w_none {n : Nat} {pos : Pos} {P : Value → Heap → Prop} (k : P .none h) : W w A (eval (.Constant .none n pos) env) P h := W.of fun s Q hs q => wpAny_Constant_none (by subst hs; exact q _ _ s.toks k)
theorem w_bool {b : Bool} {n : Nat} {pos : Pos} {P : Value → Heap → Prop} (k : P (.bool b) h) : W w A (eval (.Constant (.bool b) n pos) env) P h := W.of fun s Q hs q => wpAny_Constant_bool (by subst hs; exact q _ _ s.toks k)
theorem w_truthy_bool {b : Bool} {P : Bool → Heap → Prop} (k : P b h) : W w A (truthy (.bool b)) P h := W.of fun s Q hs q => wpAny_truthy_bool (by subst hs; exact q _ _ s.toks k)
theorem w_truthy_none {P : Bool → Heap → Prop} (k : P false h) : W w A (truthy .none) P h := W.of fun s Q hs q => truthy_none (by subst hs; exact q _ _ s.toks k)

theorem w_call {f : Expr} {args : List Expr} {pos : Pos} {P : Value → Heap → Prop} (k : W w A (eval f env) (K1 w A (fun fv => callWith pos fv [] (backTo pos (starEach args env)) []) P) h)
    (he : eval (.Call f args [] pos) env = (do callWith pos (← eval f env) [] (backTo pos (starEach args env)) (backToKw pos (keywordEach [] env))) := by rfl) : W w A (eval (.Call f args [] pos) env) P h :=
  W.of fun s Q hs q => Call_ (k.use hs fun _ _ _ x => x.use rfl q) he
theorem w_mcall {o : Expr} {name : Str} {ap pos : Pos} {args : List Expr} {P : Value → Heap → Prop} (pl : Sem Bool)
    (he : eval (.Call (.Attribute o name ap) args [] pos) env = (do
      let ov ← eval o env
      standAt ap.atName
      let (f, first) ← holding [ov] (getMethod ov name pl)
      callWith pos f first (backTo pos (starEach args env)) []))
    (k : W w A (eval o env) (K1 w A (fun ov => getMethod ov name pl) (K1 w A (fun fx => callWith pos fx.1 fx.2 (backTo pos (starEach args env)) []) P)) h) : W w A (eval (.Call (.Attribute o name ap) args [] pos) env) P h :=
  W.of fun s Q hs q => MethodCall_ (k.use hs fun _ _ _ x => x.use rfl fun _ _ _ y => y.use rfl q) he
theorem w_args_nil {pos : Pos} {P : List Value → Heap → Prop} (k : P [] h) : W w A (spliced (backTo pos (starEach [] env))) P h := W.of fun s Q hs q => args_nil (by subst hs; exact q _ _ s.toks k)
theorem w_args_cons {e : Expr} {rest : List Expr} {pos : Pos} {P : List Value → Heap → Prop}
    (k : W w A (eval e env) (KL w A (spliced (backTo pos (starEach rest env))) P) h)
    (he : starEach (e :: rest) env = (false, eval e env) :: starEach rest env := by rfl) : W w A (spliced (backTo pos (starEach (e :: rest) env))) P h :=
  W.of fun s Q hs q => args_cons (k.use hs fun _ _ _ x => x.use rfl fun _ _ _ y => q _ _ _ y) he
theorem w_attr {value : Expr} {attr : Str} {pos : Pos} {P : Value → Heap → Prop} (k : W w A (eval value env) (K1 w A (fun o => getAttr o attr true) P) h)
    (he : eval (.Attribute value attr pos) env = (do
      let o ← eval value env
      standAt pos.atName
      let r ← holding [o] (getAttr o attr true)
      letTemporaryGo value o r
      pure r) := by with_unfolding_all rfl) : W w A (eval (.Attribute value attr pos) env) P h :=
  W.of fun s Q hs q => Attribute_any_ (k.use hs fun _ _ _ x => x.use rfl q) he
theorem w_subscript {value slice : Expr} {pos : Pos} {P : Value → Heap → Prop} (k : W w A (eval value env) (K2 w A (eval slice env) (subscriptTail value slice) P) h) : W w A (eval (.Subscript value slice pos) env) P h :=
  W.of fun s Q hs q => Subscript_ (k.use hs fun _ _ _ x => x.use rfl fun _ _ _ y => y.use rfl q)
theorem w_part_none {P : Value → Heap → Prop} (k : P .none h) : W w A (evalPart none env) P h := W.of fun s Q hs q => evalPart_none_step (by subst hs; exact q _ _ s.toks k)
theorem w_part_some {e : Expr} {P : Value → Heap → Prop} (k : W w A (eval e env) P h) : W w A (evalPart (some e) env) P h := k

theorem w_tuple {elts : List Expr} {n : Nat} {pos : Pos} {P : Value → Heap → Prop} (k : W w A (spliced (backTo pos (starEach elts env))) (K1 w A newTuple P) h) : W w A (eval (.Tuple elts n pos) env) P h :=
  W.of fun s Q hs q => Tuple_ (k.use hs fun _ _ _ x => x.use rfl q)
theorem w_list {elts : List Expr} {pos : Pos} {P : Value → Heap → Prop} (k : W w A (spliced (backTo pos (starEach elts env))) (K1 w A newList P) h) : W w A (eval (.List elts pos) env) P h :=
  W.of fun s Q hs q => List_ (k.use hs fun _ _ _ x => x.use rfl q)
theorem w_local (e : EnvF env L ks cs) (S : St g L h l led) {x : Str} {pos : Pos} {kx : List Nat} {v : Value} {P : Value → Heap → Prop} (hx : key x = kx) (hk : ks.lookup kx = some .local) (hv : l.lookup kx = some v) (k : P v h)
    (hd : (kx == [95, 95, 100, 101, 98, 117, 103, 95, 95]) = false := by rfl) : W w A (eval (.Name x pos) env) P h :=
  W.of fun s Q hs q => by
    obtain ⟨m, F, hm⟩ := S.ns
    subst hs
    refine wpAny_Name (wpAny_loadName_local e.kind (e.kindOf hx hk) (e.locals ▸ F) (hm x v (hx ▸ hv)) (q _ _ s.toks k)) (beq_eq_false_iff_ne.mpr fun z => ?_)
    have : kx = [95, 95, 100, 101, 98, 117, 103, 95, 95] := by rw [← hx, z]; decide +kernel
    rw [this] at hd; exact absurd hd (by decide)
theorem w_store (e : EnvF env L ks cs) (S : St g L h l led) {x : Str} {kx : List Nat} {v : Value} {P : Unit → Heap → Prop} (hx : key x = kx) (hk : ks.lookup kx = some .local)
    (k : ∀ h', St g L h' ((kx, v) :: l) led → P () h') : W w A (storeName env x v) P h :=
  W.of fun s Q hs q => by
    obtain ⟨m, F, hm⟩ := S.ns
    subst hs
    exact wpAny_storeName_local (e.kindOf hx hk) (e.locals ▸ F) (fun h' hn hs => q _ _ _ (k h' (S.set hx (fun m' hm' => by
      have e1 := e.locals
      rw [e1] at hn
      have : m = m' := funext fun y => F.agree hm' y
      rw [← this]; exact hn) (e.locals ▸ hs)))) e.plain
def IsC (v : Option Value) (o : Obj) : Prop := o.data = .cell v
theorem IsC.at {v : Option Value} {o : Obj} (H : IsC v o) {c : Addr} (e : h.get? c = some o) : h.IsCell c v := ⟨o, e, H⟩
theorem w_cell (e : EnvF env L ks cs) (S : St g L h l led) {x : Str} {pos : Pos} {kx : List Nat} {c : Addr} {o : Obj} {v : Value} {P : Value → Heap → Prop} (hx : key x = kx) (hk : ks.lookup kx = some .cell) (hc : cs.lookup kx = some c) (m : (c, o) ∈ led) (ho : IsC (some v) o) (k : P v h)
    (hd : (kx == [95, 95, 100, 101, 98, 117, 103, 95, 95]) = false := by rfl) : W w A (eval (.Name x pos) env) P h :=
  W.of fun s Q hs q => by
    subst hs
    refine wpAny_Name (wpAny_loadName_cell e.kind (e.kindOf hx hk) (e.cellOf hx hc) (ho.at (S.get m)) (q _ _ s.toks k)) (beq_eq_false_iff_ne.mpr fun z => ?_)
    have : kx = [95, 95, 100, 101, 98, 117, 103, 95, 95] := by rw [← hx, z]; decide +kernel
    rw [this] at hd; exact absurd hd (by decide)
theorem w_free (e : EnvF env L ks cs) (S : St g L h l led) {x : Str} {pos : Pos} {kx : List Nat} {c : Addr} {o : Obj} {v : Value} {P : Value → Heap → Prop} (hx : key x = kx) (hk : ks.lookup kx = some .free) (hc : cs.lookup kx = some c) (m : (c, o) ∈ led) (ho : IsC (some v) o) (k : P v h)
    (hd : (kx == [95, 95, 100, 101, 98, 117, 103, 95, 95]) = false := by rfl) (hd2 : (kx == [95, 95, 99, 108, 97, 115, 115, 100, 105, 99, 116, 95, 95]) = false := by rfl) : W w A (eval (.Name x pos) env) P h :=
  W.of fun s Q hs q => by
    subst hs
    refine wpAny_Name (wpAny_loadName_free e.kind (e.kindOf hx hk) (e.cellOf hx hc) (ho.at (S.get m)) (q _ _ s.toks k) (beq_eq_false_iff_ne.mpr fun z => ?_)) (beq_eq_false_iff_ne.mpr fun z => ?_)
    · have : kx = [95, 95, 99, 108, 97, 115, 115, 100, 105, 99, 116, 95, 95] := by rw [← hx, z]; decide +kernel
      rw [this] at hd2; exact absurd hd2 (by decide)
    · have : kx = [95, 95, 100, 101, 98, 117, 103, 95, 95] := by rw [← hx, z]; decide +kernel
      rw [this] at hd; exact absurd hd (by decide)
theorem w_storeC (e : EnvF env L ks cs) (S : St g L h l led) {x : Str} {kx : List Nat} {c : Addr} {o : Obj} {v₀ : Option Value} {G : Obj → Led} {v : Value} {P : Unit → Heap → Prop} (hx : key x = kx) (hk : ks.lookup kx = some .cell) (hc : cs.lookup kx = some c) (U : PutF c o led G) (ho : IsC v₀ o)
    (k : ∀ h' o', IsC (some v) o' → St g L h' l (G o') → P () h') : W w A (storeName env x v) P h :=
  W.of fun s Q hs q => by
    subst hs
    exact wpAny_storeName_cell e.kind (e.kindOf hx hk) (e.cellOf hx hc) (ho.at (S.get U.mem)) fun h' hv hs => by
      obtain ⟨o', ho', hd'⟩ := hv
      have := q () h' s.toks (k h' o' hd' (S.put U hs ho'))
      exact this
end
end Mine
end

section
open PySem PySem.W PySem.Calls PyProof.Rows
set_option Elab.async false
set_option linter.all false
namespace Mine
inductive FE : List DictEntry → Loc → Prop
  | nil : FE [] []
  | cons {x : Str} {t : Tok} {hs : Int} {v : Value} {kx : List Nat} {es fs} : key x = kx → FE es fs → FE (⟨hs, .str x t, v⟩ :: es) ((kx, v) :: fs)
def IsF (fs : Loc) (o : Obj) : Prop := ∃ es n, o = dictOf es n ∧ es.length ≤ 500 ∧ FE es fs
inductive SetF (k : List Nat) (v : Value) : Loc → Loc → Prop
  | nil : SetF k v [] [(k, v)]
  | head {u r} : SetF k v ((k, u) :: r) ((k, v) :: r)
  | tail {k' u r r'} : (k == k') = false → SetF k v r r' → SetF k v ((k', u) :: r) ((k', u) :: r')

theorem str_is {x y : Str} {t : Tok} : (Value.str x t).isStr y = decide (key x = key y) := by
  show (x == y) = _
  by_cases e : x = y
  · subst e; simp
  · have : ¬ key x = key y := fun q => e (key_inj q)
    simp [e, this]
theorem fe_find {es : List DictEntry} {fs : Loc} (H : FE es fs) (name : Str) : (es.find? (·.key.isStr name)).map (·.val) = fs.lookup (key name) := by
  induction H with
  | nil => rfl
  | @cons x t hs v kx es fs hx _ ih =>
    rw [List.find?_cons, List.lookup_cons]
    show Option.map _ (match (Value.str x t).isStr name with | true => _ | false => _) = _
    rw [str_is, hx]
    by_cases e : kx = key name
    · subst e; simp
    · have : (key name == kx) = false := beq_eq_false_iff_ne.mpr (Ne.symm e)
      rw [this]; simp [e, ih]
theorem fe_ref {es : List DictEntry} {fs : Loc} (H : FE es fs) : es.any (·.refKey) = false := by
  induction H with
  | nil => rfl
  | cons _ _ ih => rw [List.any_cons, ih]; rfl
theorem fe_get {es : List DictEntry} {fs : Loc} (H : FE es fs) {name : Str} {kx : List Nat} (hn : key name = kx) {r : Option Value} (hv : fs.lookup kx = r) : getL name es = some r := by
  have e := fe_find H name
  unfold getL
  rw [hn, hv] at e
  cases q : es.find? (·.key.isStr name) with
  | some en => rw [q] at e; dsimp only; rw [← e]; rfl
  | none => rw [q] at e; dsimp only; rw [if_neg (by rw [fe_ref H]; exact Bool.false_ne_true), ← e]; rfl
theorem fe_put {es : List DictEntry} {fs fs' : Loc} {name : Str} {kx : List Nat} {hs : Int} {t : Tok} {v : Value} (hn : key name = kx) (U : SetF kx v fs fs') (H : FE es fs) : FE (putL name hs (.str name t) v es) fs' := by
  induction U generalizing es with
  | nil => cases H; exact .cons hn .nil
  | @head u r =>
    cases H with
    | @cons x t' hs' v' kx' es' fs' hx r' =>
      unfold putL
      show FE (if (Value.str x t').isStr name = true then _ else _) _
      rw [str_is, if_pos (by rw [hx, hn]; simp)]
      exact .cons hx r'
  | @tail k' u r r' hk _ ih =>
    cases H with
    | @cons x t' hs' v' kx' es' fs' hx r' =>
      unfold putL
      show FE (if (Value.str x t').isStr name = true then _ else _) _
      rw [str_is, if_neg (by rw [hx, hn]; simp; exact fun z => absurd hk (by simp [z]))]
      exact .cons hx (ih r')
theorem putL_len (name : Str) (hs : Int) (ky v : Value) : ∀ es : List DictEntry, (putL name hs ky v es).length ≤ es.length + 1
  | [] => Nat.le_refl _
  | e :: r => by
    unfold putL
    split
    · simp
    · have := putL_len name hs ky v r; simp only [List.length_cons]; omega
theorem fe_len {es : List DictEntry} {fs : Loc} (H : FE es fs) : es.length = fs.length := by
  induction H with
  | nil => rfl
  | cons _ _ ih => simp [ih]

structure AttrOK (K : Frag) (C : Addr) (name : Str) : Prop where
  get : plainGet K C name = true
  dict : hasDictIn K C = true
  no : findIn K (.ref C) name = some none
  set : findIn K (.ref C) "__setattr__" = some (some (.builtin "object.__setattr__"))
  over : plainOver K C = true
  taker : takerIn K C name = some none
structure MethOK (K : Frag) (C : Addr) (name : Str) (f : Addr) : Prop where
  get : plainGet K C name = true
  fn : findIn K (.ref C) name = some (some (.ref f))
  is : isFn K (.ref f) = true
  keep : keepIn K (.ref f) = true
structure ClsOK (K : Frag) (C f : Addr) : Prop where
  makes : makesIn K C = true
  init : findIn K (.ref C) "__init__" = some (some (.ref f))
  is : isFn K (.ref f) = true
  keep : keepIn K (.ref C) = true

section
variable {w : World} {A : Around} {h g : Heap} {env : Env} {L : Addr} {l : Loc} {led : Led} {ks : List (List Nat × NameKind)} {cs : List (List Nat × Addr)} {K : Frag}

theorem inst_at {C x dx : Addr} {o : Obj} (hx : h.get? x = some (instObj C dx)) (hd : h.get? dx = some o) : InstAt h x (instObj C dx) C (some o) := ⟨hx, rfl, rfl, hd⟩
def allOf (h : Heap) : Led := (List.range h.objs.size).filterMap fun a => (h.get? a).map fun o => (a, o)
theorem mem_allOf {a : Addr} {o : Obj} : (a, o) ∈ allOf h ↔ h.get? a = some o := by
  unfold allOf
  rw [List.mem_filterMap]
  constructor
  · rintro ⟨b, _, e⟩
    cases q : h.get? b with
    | none => rw [q] at e; cases e
    | some ob => rw [q] at e; cases e; exact q
  · intro e
    exact ⟨a, List.mem_range.mpr (Heap.lt_size e), by rw [e]; rfl⟩
theorem nodup_allOf : ((allOf h).map (·.1)).Nodup := by
  have : (allOf h).map (·.1) = (List.range h.objs.size).filter fun a => (h.get? a).isSome := by
    unfold allOf
    generalize List.range h.objs.size = r
    induction r with
    | nil => rfl
    | cons a r ih =>
      rw [List.filterMap_cons, List.filter_cons]
      cases q : h.get? a with
      | none => simpa using ih
      | some o => simpa using ih
  rw [this]
  exact List.nodup_range.filter _
theorem same_of_news {h' : Heap} {dx : Addr} {o o' : Obj} {pre post : Led} (e : allOf h = pre ++ (dx, o) :: post) {L : Addr} {m : Str → Option Value} (hL : dx ≠ L)
    (F' : h'.Ns L m) (N' : News {} L h' ((pre ++ (dx, o') :: post).filter fun p => p.1 != L)) :
    (∀ b ob, b ≠ dx → b ≠ L → h.get? b = some ob → h'.get? b = some ob) ∧ h'.get? dx = some o' := by
  refine ⟨fun b ob hb hbL eb => ?_, ?_⟩
  · have hm : (b, ob) ∈ allOf h := mem_allOf.mpr eb
    rw [e] at hm
    refine (N' (b, ob) (List.mem_filter.mpr ⟨?_, by simpa using hbL⟩)).1
    rcases List.mem_append.mp hm with q | q
    · exact List.mem_append_left _ q
    · rcases List.mem_cons.mp q with q | q
      · cases q; exact absurd rfl hb
      · exact List.mem_append_right _ (.tail _ q)
  · exact (N' (dx, o') (List.mem_filter.mpr ⟨by simp, by simpa using hL⟩)).1

theorem s_getattr (S : St g L h l led) (G : Gd w g) {C x dx : Addr} {name : Str} {b : Bool} {kx : List Nat} {fs : Loc} {o : Obj} {v : Value} {P : Value → Heap → Prop} (mx : (x, instObj C dx) ∈ led) (md : (dx, o) ∈ led) (hf : IsF fs o)
    (hn : key name = kx) (hv : fs.lookup kx = some v) (a : AttrOK (Mine.hd.heap_39 w.params) C name) (k : P v h) (hh : handedIn v = true) : W w A (getAttr (.ref x) name b) P h :=
  W.of fun s Q hs q => by
    subst hs
    obtain ⟨es, n, rfl, _, H⟩ := hf
    exact get_value (G.X.keeps S.keep) (inst_at (S.get mx) (S.get md)) (plainGet_of a.get).1 (findObj_own a.dict a.no rfl (by rw [lookIn_dict]; exact fe_get H hn hv)) hh (q _ _ _ k)

theorem s_setattr (S : St g L h l led) (G : Gd w g) {C x dx : Addr} {name : Str} {kx : List Nat} {fs fs' : Loc} {o : Obj} {R : Obj → Led} {v : Value} {P : Unit → Heap → Prop} (mx : (x, instObj C dx) ∈ led) (U : PutF dx o led R) (hf : IsF fs o)
    (hn : key name = kx) (V : SetF kx v fs fs') (a : AttrOK (Mine.hd.heap_39 w.params) C name) (hl : fs.length < 400) (k : ∀ h' o', IsF fs' o' → St g L h' l (R o') → P () h') : W w A (setAttr (.ref x) name v) P h :=
  W.of fun s Q hs q => by
    subst hs
    obtain ⟨es, n, rfl, hlen, H⟩ := hf
    have I := inst_at (S.get mx) (S.get U.mem)
    have e1 := fe_len H
    obtain ⟨m, F, hm⟩ := S.ns
    have hdL : dx ≠ L := S.ne U.mem
    obtain ⟨pre, post, e⟩ := List.append_of_mem (mem_allOf.mpr (S.get U.mem))
    have D := nodup_allOf (h := s.heap)
    rw [e] at D
    simp only [List.map_append, List.map_cons] at D
    have h1 : ∀ p ∈ pre, p.1 ≠ dx := fun p hp z => (List.nodup_append.mp D).2.2 p.1 (List.mem_map_of_mem hp) dx (.head _) z
    have h2 : ∀ p ∈ post, p.1 ≠ dx := fun p hp z => (List.nodup_cons.mp (List.nodup_append.mp D).2.1).1 (z ▸ List.mem_map_of_mem hp)
    have fl : ∀ ob : Obj, (pre ++ (dx, ob) :: post).filter (fun p => p.1 != L) = pre.filter (fun p => p.1 != L) ++ (dx, ob) :: post.filter (fun p => p.1 != L) := fun ob => by
      rw [List.filter_append, List.filter_cons, if_pos (by simpa using hdL)]
    have none0 : ∀ b, Heap.get? ({} : Heap) b = none := fun b => by simp [Heap.get?]
    have N0 : News {} L s.heap (pre.filter (fun p => p.1 != L) ++ (dx, dictOf es n) :: post.filter (fun p => p.1 != L)) := by
      rw [← fl, ← e]
      intro p hp
      obtain ⟨hp, hb⟩ := List.mem_filter.mp hp
      exact ⟨mem_allOf.mp hp, by simpa using hb, none0 _⟩
    have F0 : Fr {} L s.heap m := ⟨F, fun b o z => (by rw [none0] at z; cases z), Nat.zero_le _⟩
    refine set_plain (G.X.keeps S.keep) I a.set (osa_dict (s := { s with toks := s.toks + 1 }) F0 N0 (G.X.keeps S.keep) I rfl a.over a.taker a.dict (by rw [lookIn_dict, fe_get H hn rfl]; rfl)
      (fun p hp => h1 p (List.mem_filter.mp hp).1) (fun p hp => h2 p (List.mem_filter.mp hp).1) (putName_dict _ _ _ _ _ _) rfl (Nat.le_trans (putL_len _ _ _ _ _) (by omega)) fun h' F' N' => ?_)
    rw [← fl] at N'
    obtain ⟨s1, s2⟩ := same_of_news e hdL F'.ns N'
    refine q _ _ _ (k h' _ ⟨_, _, rfl, Nat.le_trans (putL_len _ _ _ _ _) (by omega), fe_put hn V H⟩ (S.put' U s1 (fun m' hm' => ?_) s2))
    have : m = m' := funext fun y => F.agree hm' y
    exact this ▸ F'.ns

theorem s_method (S : St g L h l led) (G : Gd w g) {C x dx f : Addr} {name : Str} {kx : List Nat} {fs : Loc} {o : Obj} {pl : Sem Bool} {P : Value × List Value → Heap → Prop} (mx : (x, instObj C dx) ∈ led) (md : (dx, o) ∈ led) (hf : IsF fs o)
    (hn : key name = kx) (hv : fs.lookup kx = none) (a : MethOK (Mine.hd.heap_39 w.params) C name f) (k : P (.ref f, [.ref x]) h) : W w A (getMethod (.ref x) name pl) P h :=
  W.of fun s Q hs q => by
    subst hs
    obtain ⟨es, n, rfl, _, H⟩ := hf
    exact method_fn (G.X.keeps S.keep) (inst_at (S.get mx) (S.get md)) (plainGet_of a.get).1 (plainGet_of a.get).2 a.fn (beq_iff_eq.mp a.is) (by show (lookIn name (dictOf es n)).map _ = _; rw [lookIn_dict, fe_get H hn hv]; rfl) (by have := q _ _ s.toks k; exact this)
theorem s_callK {f : Value} {first : List Value} {pos : Pos} {e : Expr} {rest : List Expr} {P : Value → Heap → Prop} (hk : keepIn (Mine.hd.heap_39 w.params) f = true)
    (k : W w A (spliced (backTo pos (starEach (e :: rest) env))) (fun vs h1 => (Mine.hd.heap_39 w.params).In h1 ∧ W w A (call f (first ++ vs)) P h1) h)
    (he : starEach (e :: rest) env = (false, eval e env) :: starEach rest env := by rfl) (hplain : (backTo pos (starEach rest env)).any (·.1) = false := by rfl) : W w A (callWith pos f first (backTo pos (starEach (e :: rest) env)) []) P h :=
  W.of fun s Q hs q => by
    rw [he] at k ⊢
    exact callWith_of (by show ((false || (backTo pos (starEach rest env)).any (·.1)) || false) = false; rw [hplain]; rfl) (keeps_K hk) (evalArgs_plain (k.use hs fun vs h' tk x => ⟨x.1, x.2.use rfl q⟩))
theorem s_callK0 (S : St g L h l led) (G : Gd w g) {f : Value} {first : List Value} {pos : Pos} {P : Value → Heap → Prop} (hk : keepIn (Mine.hd.heap_39 w.params) f = true) (k : W w A (call f (first ++ [])) P h) : W w A (callWith pos f first (backTo pos (starEach [] env)) []) P h :=
  W.of fun s Q hs q => by subst hs; exact callWith_K0 (G.X.keeps S.keep) hk (k.use rfl q)
theorem s_in (S : St g L h l led) (G : Gd w g) {Q : Prop} (q : Q) : (Mine.hd.heap_39 w.params).In h ∧ Q := ⟨G.X.keeps S.keep, q⟩
theorem w_callB0 {id : String} {first : List Value} {pos : Pos} {P : Value → Heap → Prop} (k : W w A (call (.builtin id) first) P h) : W w A (callWith pos (.builtin id) first (backTo pos (starEach [] env)) []) P h :=
  W.of fun s Q hs q => callWith_method0 (k.use hs q)
theorem w_callB {id : String} {first : List Value} {pos : Pos} {e : Expr} {rest : List Expr} {P : Value → Heap → Prop} (k : W w A (spliced (backTo pos (starEach (e :: rest) env))) (K1 w A (fun vs => call (.builtin id) (first ++ vs)) P) h)
    (he : starEach (e :: rest) env = (false, eval e env) :: starEach rest env := by rfl) (hplain : (backTo pos (starEach rest env)).any (·.1) = false := by rfl) : W w A (callWith pos (.builtin id) first (backTo pos (starEach (e :: rest) env)) []) P h :=
  W.of fun s Q hs q => callWith_method1 (k.use hs fun _ _ _ x => x.use rfl q) he hplain
theorem w_callT {T : String} {pos : Pos} {e : Expr} {rest : List Expr} {P : Value → Heap → Prop} (k : W w A (spliced (backTo pos (starEach (e :: rest) env))) (K1 w A (fun vs => call (.type T) vs) P) h)
    (he : starEach (e :: rest) env = (false, eval e env) :: starEach rest env := by rfl) (hplain : (backTo pos (starEach rest env)).any (·.1) = false := by rfl) : W w A (callWith pos (.type T) [] (backTo pos (starEach (e :: rest) env)) []) P h :=
  W.of fun s Q hs q => Pv.callWith_type1 (k.use hs fun _ _ _ x => x.use rfl q) he hplain

theorem w_newTuple (S : St g L h l led) {vs : List Value} {P : Value → Heap → Prop} (k : ∀ a h', St g L h' l ((a, { cls := .type "tuple", data := .seq vs.toArray }) :: led) → P (.ref a) h') (hz : vs.length ≤ sizeLine := by size_fits) : W w A (newTuple vs) P h :=
  W.of fun s Q hs q => by
    subst hs
    exact wpAny_newObj_type (q _ _ s.toks (k _ _ (S.push _))) (by show vs.toArray.size ≤ sizeLine; rw [List.size_toArray]; exact hz)
theorem w_newList (S : St g L h l led) {vs : List Value} {P : Value → Heap → Prop} (k : ∀ a h', St g L h' l ((a, listOf vs.toArray 0) :: led) → P (.ref a) h') (hz : vs.length ≤ sizeLine := by size_fits) : W w A (newList vs) P h :=
  W.of fun s Q hs q => by
    subst hs
    exact wpAny_newObj_type (q _ _ s.toks (k _ _ (S.push _))) (by show vs.toArray.size ≤ sizeLine; rw [List.size_toArray]; exact hz)

theorem s_global (e : EnvF env L ks cs) (S : St g L h l led) (G : Gd w g) {x : Str} {pos : Pos} {kx : List Nat} {v : Value} {P : Value → Heap → Prop} (hx : key x = kx) (hk : ks.lookup kx = some .globalImplicit) (hv : nsIn (Mine.hd.heap_39 w.params) mainGlobals x = some (some v)) (k : P v h)
    (hd : (kx == [95, 95, 100, 101, 98, 117, 103, 95, 95]) = false) : W w A (eval (.Name x pos) env) P h :=
  W.of fun s Q hs q => by
    subst hs
    obtain ⟨_, _, _, _, T⟩ := G.T
    have T := T.keeps S.keep
    refine Name_function_global e.kind (e.kindOf hx hk) (loadGlobal_global (e.globals ▸ T.g) (mg_of (G.X.keeps S.keep) T.g hv) (q _ _ s.toks k)) (beq_eq_false_iff_ne.mpr fun z => ?_)
    have : kx = [95, 95, 100, 101, 98, 117, 103, 95, 95] := by rw [← hx, z]; decide +kernel
    rw [this] at hd; exact absurd hd (by decide)
theorem s_builtin (e : EnvF env L ks cs) (S : St g L h l led) (G : Gd w g) {x : Str} {pos : Pos} {kx : List Nat} {v : Value} {P : Value → Heap → Prop} (hx : key x = kx) (hk : ks.lookup kx = some .globalImplicit) (hv : nsIn (Mine.hd.heap_39 w.params) mainGlobals x = some none) (hb : bootBuiltins x = some v) (k : P v h)
    (hd : (kx == [95, 95, 100, 101, 98, 117, 103, 95, 95]) = false) (hd2 : (kx == [95, 95, 110, 97, 109, 101, 95, 95]) = false) : W w A (eval (.Name x pos) env) P h :=
  W.of fun s Q hs q => by
    subst hs
    obtain ⟨_, _, _, _, T⟩ := G.T
    have T := T.keeps S.keep
    refine Name_function_global e.kind (e.kindOf hx hk) (loadGlobal_builtin (e.globals ▸ T.g) (mg_none_of (G.X.keeps S.keep) T.g hv) (e.builtins ▸ T.b) ((T.builtins x fun z => ?_).trans hb) (q _ _ s.toks k)) (beq_eq_false_iff_ne.mpr fun z => ?_)
    · have : kx = [95, 95, 110, 97, 109, 101, 95, 95] := by rw [← hx, z]; decide +kernel
      rw [this] at hd2; exact absurd hd2 (by decide)
    · have : kx = [95, 95, 100, 101, 98, 117, 103, 95, 95] := by rw [← hx, z]; decide +kernel
      rw [this] at hd; exact absurd hd (by decide)
inductive EndB (g : Heap) (Q : Led → Value → Heap → Prop) (v : Value) (h' : Heap) : Prop
  | mk (L' : Addr) (l' : Loc) (led' : Led) (S : St g L' h' l' led') (q : Q led' v h')
def ValOf : Flow → Value
  | .ret v => v
  | _ => .none
@[reducible] def BodyEnd (g' g : Heap) (L : Addr) (l : Loc) (rest : Led) (P : Value → Heap → Prop) : Flow → Heap → Prop := fun fl h' => EndB g' (fun led' v h' => St g L h' l (led' ++ rest) → P v h') (ValOf fl) h'
theorem call_St {fp rest : Led} (S : St g L h l led) (H : Pk fp led rest) (G : Gd w g) : ∃ g', g' = hideAll h (fp.map (·.1)) ∧ Gd w g' ∧ (∀ b o, b ∉ fp.map (·.1) → h.get? b = some o → g'.get? b = some o) ∧
    (∀ L' h₁ l', L' = h.objs.size → (∃ o, h₁.get? L' = some o ∧ LocO l' o) → (∀ b o, h.get? b = some o → h₁.get? b = some o) → St g' L' h₁ l' fp) ∧
    ∀ L' h' l' led', St g' L' h' l' led' → St g L h' l (led' ++ rest) := by
  have S := S.pk H
  have nm : ∀ b o, g.get? b = some o → b ∉ fp.map (·.1) := fun b o e z => by
    obtain ⟨p, hp, rfl⟩ := List.mem_map.mp z
    rw [(S.N p (List.mem_append_left _ hp)).2.2] at e; cases e
  refine ⟨_, rfl, G.keeps fun b o e => hideAll_get _ (S.keep b o e) (nm b o e), fun b o hb e => hideAll_get _ e hb, ?_, fun L' h' l' led' S' => S.back S' fun b o hb e => hideAll_get _ e hb⟩
  rintro L' h₁ l' rfl fr k
  refine ⟨fr, fun b o e => k b o (of_hideAll _ e), ?_, fun p hp => ⟨k _ _ (S.N p (List.mem_append_left _ hp)).1, Nat.ne_of_lt (Heap.lt_size (S.N p (List.mem_append_left _ hp)).1), hideAll_none _ (List.mem_map_of_mem hp)⟩, S.only.D⟩
  cases q : (hideAll h (fp.map (·.1))).get? h.objs.size with
  | none => rfl
  | some o => exact absurd (Heap.lt_size (of_hideAll _ q)) (Nat.lt_irrefl _)

theorem locO_of {m : Str → Option Value} {l : Loc} (H : h.Ns L m) (k : ∀ x v, l.lookup (key x) = some v → m x = some v) : ∃ o, h.get? L = some o ∧ LocO l o := by
  obtain ⟨o, e, hn⟩ := nsO_of H
  exact ⟨o, e, m, hn, k⟩
theorem w_def {fp rest : Led} {P : Value → Heap → Prop} {name qual : Str} {params : Arguments} {body : List Stmt} {scope : Scope} {dV kV doc pm cdv ct oc : Value} {an od : Option Addr} {osl : Array (Option Value)} {f : Addr} {pos : List Value} {binds : List (Str × Value)} {n : Nat} {l₁ : Loc}
    (S : St g L h l led) (G : Gd w g) (hA : Amb A (n + 1)) (H : Pk fp led rest)
    (ho : (Mine.hd.heap_39 w.params).lookup f = some ⟨oc, od, .func (fnOf name qual params body scope dV kV doc pm an cdv ct), osl⟩) (hcd : codeIn (Mine.hd.heap_39 w.params) cdv qual = true)
    (hbind : ∀ s : Shared, s.heap = h → BindsTo s (fnOf name qual params body scope dV kV doc pm an cdv ct) ⟨pos, []⟩ binds) (hloc : ∀ y ∈ binds, scope.names.lookup y.1 = some .local)
    (hks : scope.names.map (fun p => (key p.1, p.2)) = ks) (hl : binds.reverse.map (fun p => (key p.1, p.2)) = l₁)
    (k : ∀ g' L' h₁ env A', Amb A' n → EnvF env L' ks [] → St g' L' h₁ l₁ fp → Gd w g' →
      ∀ R : Flow → Heap → Prop, (∀ fl h', BodyEnd g' g L l rest P fl h' → R fl h') → W w A' (execs body env) R h₁)
    (hcell : ∀ x ∈ scope.names, x.2 ≠ .cell) (hco : scope.isCoroutine = false := by rfl) (hgen : scope.isGenerator = false := by rfl) (hk : scope.kind = .function := by rfl)
     : W w A (call (.ref f) pos) P h :=
  W.of fun s Q hs q => by
    subst hs
    refine wpAny_call ?_
    obtain ⟨g', rfl, G', -, mk, back⟩ := call_St S H G
    have XS := G.X.keeps S.keep
    obtain ⟨_, _, _, _, T⟩ := G.T
    refine codeAny_call_def (fd := fnOf name qual params body scope dV kV doc pm an cdv ct) (body := body) (binds := binds) hA.room (XS _ _ ho) rfl (T.nolimit.keeps S.keep) (codeRec_of XS hcd) rfl (hbind s rfl) hcell hloc (fun h₁ hns hk₁ => ?_) hco hgen hk
    refine wpAny_mono (W.use (k _ _ h₁ (envOf qual scope s.heap.objs.size f cdv) _ (hA.deeper _) ⟨hk, rfl, rfl, rfl, hks, rfl⟩ (mk _ _ _ rfl (locO_of hns fun x v e => by rw [← hl, lookup_names] at e; exact e) hk₁) G' _ fun _ _ z => z) rfl
      (Q := fun fl s' => (match fl with | .ret v => Q v s' | _ => Q .none s')) (E := fun _ _ => False) fun fl h' tk he => ?_) (fun fl s' hl => ?_) fun _ _ y => y.elim
    · obtain ⟨L1, l1, led1, S1, kk⟩ := he
      have r := kk (back _ _ _ _ S1)
      cases fl <;> exact q _ _ _ r
    · cases fl <;> exact hl

theorem nmap_nil {α : Type} : ([] : List (Str × α)).map (fun p => (key p.1, p.2)) = [] := rfl
theorem nmap_cons {α : Type} {x : Str} {k : List Nat} {nk : α} {r : List (Str × α)} {ks : List (List Nat × α)} (hx : key x = k) (hr : r.map (fun p => (key p.1, p.2)) = ks) : ((x, nk) :: r).map (fun p => (key p.1, p.2)) = (k, nk) :: ks := by
  rw [List.map_cons, hx, hr]
end
end Mine
end

section
open PySem PySem.W PySem.Calls PyProof.Rows
set_option Elab.async false
set_option linter.all false
namespace Mine
set_option maxRecDepth 100000
@[simp] theorem nm_ADDING : key (Str.ofString "ADDING") = [65, 68, 68, 73, 78, 71] := by kernel_rfl!
@[simp] theorem nm_BY_ORDER : key (Str.ofString "BY_ORDER") = [66, 89, 95, 79, 82, 68, 69, 82] := by kernel_rfl!
@[simp] theorem nm_Exception : key (Str.ofString "Exception") = [69, 120, 99, 101, 112, 116, 105, 111, 110] := by kernel_rfl!
@[simp] theorem nm_FileFault : key (Str.ofString "FileFault") = [70, 105, 108, 101, 70, 97, 117, 108, 116] := by kernel_rfl!
@[simp] theorem nm_KINDS : key (Str.ofString "KINDS") = [75, 73, 78, 68, 83] := by kernel_rfl!
@[simp] theorem nm_KIND_LETTERS : key (Str.ofString "KIND_LETTERS") = [75, 73, 78, 68, 95, 76, 69, 84, 84, 69, 82, 83] := by kernel_rfl!
@[simp] theorem nm_KeyFile : key (Str.ofString "KeyFile") = [75, 101, 121, 70, 105, 108, 101] := by kernel_rfl!
@[simp] theorem nm_LedgerError : key (Str.ofString "LedgerError") = [76, 101, 100, 103, 101, 114, 69, 114, 114, 111, 114] := by kernel_rfl!
@[simp] theorem nm_READING_keyfile : key (Str.ofString "READING_keyfile") = [82, 69, 65, 68, 73, 78, 71, 95, 107, 101, 121, 102, 105, 108, 101] := by kernel_rfl!
@[simp] theorem nm_READING_rowfile : key (Str.ofString "READING_rowfile") = [82, 69, 65, 68, 73, 78, 71, 95, 114, 111, 119, 102, 105, 108, 101] := by kernel_rfl!
@[simp] theorem nm_RelFile : key (Str.ofString "RelFile") = [82, 101, 108, 70, 105, 108, 101] := by kernel_rfl!
@[simp] theorem nm_RowFile : key (Str.ofString "RowFile") = [82, 111, 119, 70, 105, 108, 101] := by kernel_rfl!
@[simp] theorem nm_Shelf : key (Str.ofString "Shelf") = [83, 104, 101, 108, 102] := by kernel_rfl!
@[simp] theorem nm_ShelfReader : key (Str.ofString "ShelfReader") = [83, 104, 101, 108, 102, 82, 101, 97, 100, 101, 114] := by kernel_rfl!
@[simp] theorem nm___init__ : key (Str.ofString "__init__") = [95, 95, 105, 110, 105, 116, 95, 95] := by kernel_rfl!
@[simp] theorem nm___name__ : key (Str.ofString "__name__") = [95, 95, 110, 97, 109, 101, 95, 95] := by kernel_rfl!
@[simp] theorem nm__law_KINDS : key (Str.ofString "_law_KINDS") = [95, 108, 97, 119, 95, 75, 73, 78, 68, 83] := by kernel_rfl!
@[simp] theorem nm__law_in_order : key (Str.ofString "_law_in_order") = [95, 108, 97, 119, 95, 105, 110, 95, 111, 114, 100, 101, 114] := by kernel_rfl!
@[simp] theorem nm__law_is_read : key (Str.ofString "_law_is_read") = [95, 108, 97, 119, 95, 105, 115, 95, 114, 101, 97, 100] := by kernel_rfl!
@[simp] theorem nm__law_keyed_right : key (Str.ofString "_law_keyed_right") = [95, 108, 97, 119, 95, 107, 101, 121, 101, 100, 95, 114, 105, 103, 104, 116] := by kernel_rfl!
@[simp] theorem nm__law_open : key (Str.ofString "_law_open") = [95, 108, 97, 119, 95, 111, 112, 101, 110] := by kernel_rfl!
@[simp] theorem nm__law_place : key (Str.ofString "_law_place") = [95, 108, 97, 119, 95, 112, 108, 97, 99, 101] := by kernel_rfl!
@[simp] theorem nm__law_rows_right : key (Str.ofString "_law_rows_right") = [95, 108, 97, 119, 95, 114, 111, 119, 115, 95, 114, 105, 103, 104, 116] := by kernel_rfl!
@[simp] theorem nm__law_session_right : key (Str.ofString "_law_session_right") = [95, 108, 97, 119, 95, 115, 101, 115, 115, 105, 111, 110, 95, 114, 105, 103, 104, 116] := by kernel_rfl!
@[simp] theorem nm__law_taker : key (Str.ofString "_law_taker") = [95, 108, 97, 119, 95, 116, 97, 107, 101, 114] := by kernel_rfl!
@[simp] theorem nm__law_told : key (Str.ofString "_law_told") = [95, 108, 97, 119, 95, 116, 111, 108, 100] := by kernel_rfl!
@[simp] theorem nm__wall : key (Str.ofString "_wall") = [95, 119, 97, 108, 108] := by kernel_rfl!
@[simp] theorem nm_access : key (Str.ofString "access") = [97, 99, 99, 101, 115, 115] := by kernel_rfl!
@[simp] theorem nm_ahead : key (Str.ofString "ahead") = [97, 104, 101, 97, 100] := by kernel_rfl!
@[simp] theorem nm_alternates : key (Str.ofString "alternates") = [97, 108, 116, 101, 114, 110, 97, 116, 101, 115] := by kernel_rfl!
@[simp] theorem nm_append : key (Str.ofString "append") = [97, 112, 112, 101, 110, 100] := by kernel_rfl!
@[simp] theorem nm_at : key (Str.ofString "at") = [97, 116] := by kernel_rfl!
@[simp] theorem nm_begin : key (Str.ofString "begin") = [98, 101, 103, 105, 110] := by kernel_rfl!
@[simp] theorem nm_bytes : key (Str.ofString "bytes") = [98, 121, 116, 101, 115] := by kernel_rfl!
@[simp] theorem nm_cells : key (Str.ofString "cells") = [99, 101, 108, 108, 115] := by kernel_rfl!
@[simp] theorem nm_chosen : key (Str.ofString "chosen") = [99, 104, 111, 115, 101, 110] := by kernel_rfl!
@[simp] theorem nm_clear : key (Str.ofString "clear") = [99, 108, 101, 97, 114] := by kernel_rfl!
@[simp] theorem nm_content : key (Str.ofString "content") = [99, 111, 110, 116, 101, 110, 116] := by kernel_rfl!
@[simp] theorem nm_content_of : key (Str.ofString "content_of") = [99, 111, 110, 116, 101, 110, 116, 95, 111, 102] := by kernel_rfl!
@[simp] theorem nm_copied : key (Str.ofString "copied") = [99, 111, 112, 105, 101, 100] := by kernel_rfl!
@[simp] theorem nm_count : key (Str.ofString "count") = [99, 111, 117, 110, 116] := by kernel_rfl!
@[simp] theorem nm_count_octets : key (Str.ofString "count_octets") = [99, 111, 117, 110, 116, 95, 111, 99, 116, 101, 116, 115] := by kernel_rfl!
@[simp] theorem nm_decode : key (Str.ofString "decode") = [100, 101, 99, 111, 100, 101] := by kernel_rfl!
@[simp] theorem nm_delete : key (Str.ofString "delete") = [100, 101, 108, 101, 116, 101] := by kernel_rfl!
@[simp] theorem nm_doubled : key (Str.ofString "doubled") = [100, 111, 117, 98, 108, 101, 100] := by kernel_rfl!
@[simp] theorem nm_drop : key (Str.ofString "drop") = [100, 114, 111, 112] := by kernel_rfl!
@[simp] theorem nm_encode : key (Str.ofString "encode") = [101, 110, 99, 111, 100, 101] := by kernel_rfl!
@[simp] theorem nm_enumerate : key (Str.ofString "enumerate") = [101, 110, 117, 109, 101, 114, 97, 116, 101] := by kernel_rfl!
@[simp] theorem nm_failed : key (Str.ofString "failed") = [102, 97, 105, 108, 101, 100] := by kernel_rfl!
@[simp] theorem nm_fault : key (Str.ofString "fault") = [102, 97, 117, 108, 116] := by kernel_rfl!
@[simp] theorem nm_files : key (Str.ofString "files") = [102, 105, 108, 101, 115] := by kernel_rfl!
@[simp] theorem nm_find : key (Str.ofString "find") = [102, 105, 110, 100] := by kernel_rfl!
@[simp] theorem nm_found : key (Str.ofString "found") = [102, 111, 117, 110, 100] := by kernel_rfl!
@[simp] theorem nm_highest : key (Str.ofString "highest") = [104, 105, 103, 104, 101, 115, 116] := by kernel_rfl!
@[simp] theorem nm_index : key (Str.ofString "index") = [105, 110, 100, 101, 120] := by kernel_rfl!
@[simp] theorem nm_is_behind : key (Str.ofString "is_behind") = [105, 115, 95, 98, 101, 104, 105, 110, 100] := by kernel_rfl!
@[simp] theorem nm_is_double : key (Str.ofString "is_double") = [105, 115, 95, 100, 111, 117, 98, 108, 101] := by kernel_rfl!
@[simp] theorem nm_is_nowhere : key (Str.ofString "is_nowhere") = [105, 115, 95, 110, 111, 119, 104, 101, 114, 101] := by kernel_rfl!
@[simp] theorem nm_is_turned : key (Str.ofString "is_turned") = [105, 115, 95, 116, 117, 114, 110, 101, 100] := by kernel_rfl!
@[simp] theorem nm_is_valid : key (Str.ofString "is_valid") = [105, 115, 95, 118, 97, 108, 105, 100] := by kernel_rfl!
@[simp] theorem nm_k : key (Str.ofString "k") = [107] := by kernel_rfl!
@[simp] theorem nm_key : key (Str.ofString "key") = [107, 101, 121] := by kernel_rfl!
@[simp] theorem nm_keys : key (Str.ofString "keys") = [107, 101, 121, 115] := by kernel_rfl!
@[simp] theorem nm_kind : key (Str.ofString "kind") = [107, 105, 110, 100] := by kernel_rfl!
@[simp] theorem nm_kind_of : key (Str.ofString "kind_of") = [107, 105, 110, 100, 95, 111, 102] := by kernel_rfl!
@[simp] theorem nm_last : key (Str.ofString "last") = [108, 97, 115, 116] := by kernel_rfl!
@[simp] theorem nm_last_place : key (Str.ofString "last_place") = [108, 97, 115, 116, 95, 112, 108, 97, 99, 101] := by kernel_rfl!
@[simp] theorem nm_law : key (Str.ofString "law") = [108, 97, 119] := by kernel_rfl!
@[simp] theorem nm_lay : key (Str.ofString "lay") = [108, 97, 121] := by kernel_rfl!
@[simp] theorem nm_least_from : key (Str.ofString "least_from") = [108, 101, 97, 115, 116, 95, 102, 114, 111, 109] := by kernel_rfl!
@[simp] theorem nm_len : key (Str.ofString "len") = [108, 101, 110] := by kernel_rfl!
@[simp] theorem nm_level : key (Str.ofString "level") = [108, 101, 118, 101, 108] := by kernel_rfl!
@[simp] theorem nm_limit : key (Str.ofString "limit") = [108, 105, 109, 105, 116] := by kernel_rfl!
@[simp] theorem nm_list : key (Str.ofString "list") = [108, 105, 115, 116] := by kernel_rfl!
@[simp] theorem nm_lose : key (Str.ofString "lose") = [108, 111, 115, 101] := by kernel_rfl!
@[simp] theorem nm_low : key (Str.ofString "low") = [108, 111, 119] := by kernel_rfl!
@[simp] theorem nm_many : key (Str.ofString "many") = [109, 97, 110, 121] := by kernel_rfl!
@[simp] theorem nm_max : key (Str.ofString "max") = [109, 97, 120] := by kernel_rfl!
@[simp] theorem nm_may_write : key (Str.ofString "may_write") = [109, 97, 121, 95, 119, 114, 105, 116, 101] := by kernel_rfl!
@[simp] theorem nm_mode : key (Str.ofString "mode") = [109, 111, 100, 101] := by kernel_rfl!
@[simp] theorem nm_more : key (Str.ofString "more") = [109, 111, 114, 101] := by kernel_rfl!
@[simp] theorem nm_most : key (Str.ofString "most") = [109, 111, 115, 116] := by kernel_rfl!
@[simp] theorem nm_need : key (Str.ofString "need") = [110, 101, 101, 100] := by kernel_rfl!
@[simp] theorem nm_next_stamp : key (Str.ofString "next_stamp") = [110, 101, 120, 116, 95, 115, 116, 97, 109, 112] := by kernel_rfl!
@[simp] theorem nm_number : key (Str.ofString "number") = [110, 117, 109, 98, 101, 114] := by kernel_rfl!
@[simp] theorem nm_numbers : key (Str.ofString "numbers") = [110, 117, 109, 98, 101, 114, 115] := by kernel_rfl!
@[simp] theorem nm_octet : key (Str.ofString "octet") = [111, 99, 116, 101, 116] := by kernel_rfl!
@[simp] theorem nm_octets : key (Str.ofString "octets") = [111, 99, 116, 101, 116, 115] := by kernel_rfl!
@[simp] theorem nm_offset : key (Str.ofString "offset") = [111, 102, 102, 115, 101, 116] := by kernel_rfl!
@[simp] theorem nm_old : key (Str.ofString "old") = [111, 108, 100] := by kernel_rfl!
@[simp] theorem nm_one : key (Str.ofString "one") = [111, 110, 101] := by kernel_rfl!
@[simp] theorem nm_op : key (Str.ofString "op") = [111, 112] := by kernel_rfl!
@[simp] theorem nm_open_file : key (Str.ofString "open_file") = [111, 112, 101, 110, 95, 102, 105, 108, 101] := by kernel_rfl!
@[simp] theorem nm_opened : key (Str.ofString "opened") = [111, 112, 101, 110, 101, 100] := by kernel_rfl!
@[simp] theorem nm_ordered : key (Str.ofString "ordered") = [111, 114, 100, 101, 114, 101, 100] := by kernel_rfl!
@[simp] theorem nm_others_with : key (Str.ofString "others_with") = [111, 116, 104, 101, 114, 115, 95, 119, 105, 116, 104] := by kernel_rfl!
@[simp] theorem nm_own : key (Str.ofString "own") = [111, 119, 110] := by kernel_rfl!
@[simp] theorem nm_path : key (Str.ofString "path") = [112, 97, 116, 104] := by kernel_rfl!
@[simp] theorem nm_path_octets : key (Str.ofString "path_octets") = [112, 97, 116, 104, 95, 111, 99, 116, 101, 116, 115] := by kernel_rfl!
@[simp] theorem nm_paths : key (Str.ofString "paths") = [112, 97, 116, 104, 115] := by kernel_rfl!
@[simp] theorem nm_place : key (Str.ofString "place") = [112, 108, 97, 99, 101] := by kernel_rfl!
@[simp] theorem nm_place_of : key (Str.ofString "place_of") = [112, 108, 97, 99, 101, 95, 111, 102] := by kernel_rfl!
@[simp] theorem nm_pop : key (Str.ofString "pop") = [112, 111, 112] := by kernel_rfl!
@[simp] theorem nm_put : key (Str.ofString "put") = [112, 117, 116] := by kernel_rfl!
@[simp] theorem nm_range : key (Str.ofString "range") = [114, 97, 110, 103, 101] := by kernel_rfl!
@[simp] theorem nm_read_at : key (Str.ofString "read_at") = [114, 101, 97, 100, 95, 97, 116] := by kernel_rfl!
@[simp] theorem nm_read_last : key (Str.ofString "read_last") = [114, 101, 97, 100, 95, 108, 97, 115, 116] := by kernel_rfl!
@[simp] theorem nm_read_next : key (Str.ofString "read_next") = [114, 101, 97, 100, 95, 110, 101, 120, 116] := by kernel_rfl!
@[simp] theorem nm_read_shelf : key (Str.ofString "read_shelf") = [114, 101, 97, 100, 95, 115, 104, 101, 108, 102] := by kernel_rfl!
@[simp] theorem nm_reader : key (Str.ofString "reader") = [114, 101, 97, 100, 101, 114] := by kernel_rfl!
@[simp] theorem nm_record : key (Str.ofString "record") = [114, 101, 99, 111, 114, 100] := by kernel_rfl!
@[simp] theorem nm_rewrite : key (Str.ofString "rewrite") = [114, 101, 119, 114, 105, 116, 101] := by kernel_rfl!
@[simp] theorem nm_row : key (Str.ofString "row") = [114, 111, 119] := by kernel_rfl!
@[simp] theorem nm_row_octets : key (Str.ofString "row_octets") = [114, 111, 119, 95, 111, 99, 116, 101, 116, 115] := by kernel_rfl!
@[simp] theorem nm_rows : key (Str.ofString "rows") = [114, 111, 119, 115] := by kernel_rfl!
@[simp] theorem nm_rows_of : key (Str.ofString "rows_of") = [114, 111, 119, 115, 95, 111, 102] := by kernel_rfl!
@[simp] theorem nm_script : key (Str.ofString "script") = [115, 99, 114, 105, 112, 116] := by kernel_rfl!
@[simp] theorem nm_self : key (Str.ofString "self") = [115, 101, 108, 102] := by kernel_rfl!
@[simp] theorem nm_shelf : key (Str.ofString "shelf") = [115, 104, 101, 108, 102] := by kernel_rfl!
@[simp] theorem nm_sign : key (Str.ofString "sign") = [115, 105, 103, 110] := by kernel_rfl!
@[simp] theorem nm_signs : key (Str.ofString "signs") = [115, 105, 103, 110, 115] := by kernel_rfl!
@[simp] theorem nm_size : key (Str.ofString "size") = [115, 105, 122, 101] := by kernel_rfl!
@[simp] theorem nm_some : key (Str.ofString "some") = [115, 111, 109, 101] := by kernel_rfl!
@[simp] theorem nm_sorted : key (Str.ofString "sorted") = [115, 111, 114, 116, 101, 100] := by kernel_rfl!
@[simp] theorem nm_spot : key (Str.ofString "spot") = [115, 112, 111, 116] := by kernel_rfl!
@[simp] theorem nm_stamp : key (Str.ofString "stamp") = [115, 116, 97, 109, 112] := by kernel_rfl!
@[simp] theorem nm_stamps : key (Str.ofString "stamps") = [115, 116, 97, 109, 112, 115] := by kernel_rfl!
@[simp] theorem nm_stand : key (Str.ofString "stand") = [115, 116, 97, 110, 100] := by kernel_rfl!
@[simp] theorem nm_start : key (Str.ofString "start") = [115, 116, 97, 114, 116] := by kernel_rfl!
@[simp] theorem nm_status : key (Str.ofString "status") = [115, 116, 97, 116, 117, 115] := by kernel_rfl!
@[simp] theorem nm_take : key (Str.ofString "take") = [116, 97, 107, 101] := by kernel_rfl!
@[simp] theorem nm_taken : key (Str.ofString "taken") = [116, 97, 107, 101, 110] := by kernel_rfl!
@[simp] theorem nm_told : key (Str.ofString "told") = [116, 111, 108, 100] := by kernel_rfl!
@[simp] theorem nm_tuple : key (Str.ofString "tuple") = [116, 117, 112, 108, 101] := by kernel_rfl!
@[simp] theorem nm_turn : key (Str.ofString "turn") = [116, 117, 114, 110] := by kernel_rfl!
@[simp] theorem nm_turned : key (Str.ofString "turned") = [116, 117, 114, 110, 101, 100] := by kernel_rfl!
@[simp] theorem nm_wanted : key (Str.ofString "wanted") = [119, 97, 110, 116, 101, 100] := by kernel_rfl!
@[simp] theorem nm_what : key (Str.ofString "what") = [119, 104, 97, 116] := by kernel_rfl!
@[simp] theorem nm_which : key (Str.ofString "which") = [119, 104, 105, 99, 104] := by kernel_rfl!
@[simp] theorem nm_width : key (Str.ofString "width") = [119, 105, 100, 116, 104] := by kernel_rfl!
@[simp] theorem nm_word : key (Str.ofString "word") = [119, 111, 114, 100] := by kernel_rfl!
@[simp] theorem nm_worth : key (Str.ofString "worth") = [119, 111, 114, 116, 104] := by kernel_rfl!
@[simp] theorem nm_write : key (Str.ofString "write") = [119, 114, 105, 116, 101] := by kernel_rfl!
@[simp] theorem nm_write_shelf : key (Str.ofString "write_shelf") = [119, 114, 105, 116, 101, 95, 115, 104, 101, 108, 102] := by kernel_rfl!
theorem ca_540 (P : Params) : plainGet (Mine.hd.heap_39 P) 540 (Str.ofString "x") = true ∧ hasDictIn (Mine.hd.heap_39 P) 540 = true ∧ findIn (Mine.hd.heap_39 P) (.ref 540) "__setattr__" = some (some (.builtin "object.__setattr__")) ∧ plainOver (Mine.hd.heap_39 P) 540 = true := ⟨by kernel_rfl!, by kernel_rfl!, by kernel_rfl!, by kernel_rfl!⟩
@[simp] theorem at_540_content (P : Params) : AttrOK (Mine.hd.heap_39 P) 540 (Str.ofString "content") := ⟨(ca_540 P).1, (ca_540 P).2.1, by kernel_rfl!, (ca_540 P).2.2.1, (ca_540 P).2.2.2, by kernel_rfl!⟩
@[simp] theorem at_540_mode (P : Params) : AttrOK (Mine.hd.heap_39 P) 540 (Str.ofString "mode") := ⟨(ca_540 P).1, (ca_540 P).2.1, by kernel_rfl!, (ca_540 P).2.2.1, (ca_540 P).2.2.2, by kernel_rfl!⟩
@[simp] theorem at_540_at (P : Params) : AttrOK (Mine.hd.heap_39 P) 540 (Str.ofString "at") := ⟨(ca_540 P).1, (ca_540 P).2.1, by kernel_rfl!, (ca_540 P).2.2.1, (ca_540 P).2.2.2, by kernel_rfl!⟩
@[simp] theorem at_540_is_valid (P : Params) : AttrOK (Mine.hd.heap_39 P) 540 (Str.ofString "is_valid") := ⟨(ca_540 P).1, (ca_540 P).2.1, by kernel_rfl!, (ca_540 P).2.2.1, (ca_540 P).2.2.2, by kernel_rfl!⟩
@[simp] theorem at_540_last (P : Params) : AttrOK (Mine.hd.heap_39 P) 540 (Str.ofString "last") := ⟨(ca_540 P).1, (ca_540 P).2.1, by kernel_rfl!, (ca_540 P).2.2.1, (ca_540 P).2.2.2, by kernel_rfl!⟩
theorem cl_540 (P : Params) : ClsOK (Mine.hd.heap_39 P) 540 509 := ⟨by kernel_rfl!, by kernel_rfl!, by kernel_rfl!, by kernel_rfl!⟩
@[simp] theorem ck_540 (P : Params) : keepIn (Mine.hd.heap_39 P) (.ref 540) = true := (cl_540 P).keep
theorem mt_540_read_next (P : Params) : MethOK (Mine.hd.heap_39 P) 540 (Str.ofString "read_next") 516 := ⟨(ca_540 P).1, by kernel_rfl!, by kernel_rfl!, by kernel_rfl!⟩
@[simp] theorem mk_540_read_next (P : Params) : keepIn (Mine.hd.heap_39 P) (.ref 516) = true := (mt_540_read_next P).keep
theorem mt_540_write (P : Params) : MethOK (Mine.hd.heap_39 P) 540 (Str.ofString "write") 523 := ⟨(ca_540 P).1, by kernel_rfl!, by kernel_rfl!, by kernel_rfl!⟩
@[simp] theorem mk_540_write (P : Params) : keepIn (Mine.hd.heap_39 P) (.ref 523) = true := (mt_540_write P).keep
theorem mt_540_rewrite (P : Params) : MethOK (Mine.hd.heap_39 P) 540 (Str.ofString "rewrite") 530 := ⟨(ca_540 P).1, by kernel_rfl!, by kernel_rfl!, by kernel_rfl!⟩
@[simp] theorem mk_540_rewrite (P : Params) : keepIn (Mine.hd.heap_39 P) (.ref 530) = true := (mt_540_rewrite P).keep
theorem mt_540_told (P : Params) : MethOK (Mine.hd.heap_39 P) 540 (Str.ofString "told") 537 := ⟨(ca_540 P).1, by kernel_rfl!, by kernel_rfl!, by kernel_rfl!⟩
@[simp] theorem mk_540_told (P : Params) : keepIn (Mine.hd.heap_39 P) (.ref 537) = true := (mt_540_told P).keep
theorem ca_489 (P : Params) : plainGet (Mine.hd.heap_39 P) 489 (Str.ofString "x") = true ∧ hasDictIn (Mine.hd.heap_39 P) 489 = true ∧ findIn (Mine.hd.heap_39 P) (.ref 489) "__setattr__" = some (some (.builtin "object.__setattr__")) ∧ plainOver (Mine.hd.heap_39 P) 489 = true := ⟨by kernel_rfl!, by kernel_rfl!, by kernel_rfl!, by kernel_rfl!⟩
@[simp] theorem at_489_content (P : Params) : AttrOK (Mine.hd.heap_39 P) 489 (Str.ofString "content") := ⟨(ca_489 P).1, (ca_489 P).2.1, by kernel_rfl!, (ca_489 P).2.2.1, (ca_489 P).2.2.2, by kernel_rfl!⟩
@[simp] theorem at_489_mode (P : Params) : AttrOK (Mine.hd.heap_39 P) 489 (Str.ofString "mode") := ⟨(ca_489 P).1, (ca_489 P).2.1, by kernel_rfl!, (ca_489 P).2.2.1, (ca_489 P).2.2.2, by kernel_rfl!⟩
@[simp] theorem at_489_access (P : Params) : AttrOK (Mine.hd.heap_39 P) 489 (Str.ofString "access") := ⟨(ca_489 P).1, (ca_489 P).2.1, by kernel_rfl!, (ca_489 P).2.2.1, (ca_489 P).2.2.2, by kernel_rfl!⟩
@[simp] theorem at_489_most (P : Params) : AttrOK (Mine.hd.heap_39 P) 489 (Str.ofString "most") := ⟨(ca_489 P).1, (ca_489 P).2.1, by kernel_rfl!, (ca_489 P).2.2.1, (ca_489 P).2.2.2, by kernel_rfl!⟩
@[simp] theorem at_489_place (P : Params) : AttrOK (Mine.hd.heap_39 P) 489 (Str.ofString "place") := ⟨(ca_489 P).1, (ca_489 P).2.1, by kernel_rfl!, (ca_489 P).2.2.1, (ca_489 P).2.2.2, by kernel_rfl!⟩
@[simp] theorem at_489_is_behind (P : Params) : AttrOK (Mine.hd.heap_39 P) 489 (Str.ofString "is_behind") := ⟨(ca_489 P).1, (ca_489 P).2.1, by kernel_rfl!, (ca_489 P).2.2.1, (ca_489 P).2.2.2, by kernel_rfl!⟩
@[simp] theorem at_489_is_valid (P : Params) : AttrOK (Mine.hd.heap_39 P) 489 (Str.ofString "is_valid") := ⟨(ca_489 P).1, (ca_489 P).2.1, by kernel_rfl!, (ca_489 P).2.2.1, (ca_489 P).2.2.2, by kernel_rfl!⟩
@[simp] theorem at_489_last (P : Params) : AttrOK (Mine.hd.heap_39 P) 489 (Str.ofString "last") := ⟨(ca_489 P).1, (ca_489 P).2.1, by kernel_rfl!, (ca_489 P).2.2.1, (ca_489 P).2.2.2, by kernel_rfl!⟩
@[simp] theorem at_489_number (P : Params) : AttrOK (Mine.hd.heap_39 P) 489 (Str.ofString "number") := ⟨(ca_489 P).1, (ca_489 P).2.1, by kernel_rfl!, (ca_489 P).2.2.1, (ca_489 P).2.2.2, by kernel_rfl!⟩
theorem cl_489 (P : Params) : ClsOK (Mine.hd.heap_39 P) 489 408 := ⟨by kernel_rfl!, by kernel_rfl!, by kernel_rfl!, by kernel_rfl!⟩
@[simp] theorem ck_489 (P : Params) : keepIn (Mine.hd.heap_39 P) (.ref 489) = true := (cl_489 P).keep
theorem mt_489_need (P : Params) : MethOK (Mine.hd.heap_39 P) 489 (Str.ofString "need") 415 := ⟨(ca_489 P).1, by kernel_rfl!, by kernel_rfl!, by kernel_rfl!⟩
@[simp] theorem mk_489_need (P : Params) : keepIn (Mine.hd.heap_39 P) (.ref 415) = true := (mt_489_need P).keep
theorem mt_489_failed (P : Params) : MethOK (Mine.hd.heap_39 P) 489 (Str.ofString "failed") 422 := ⟨(ca_489 P).1, by kernel_rfl!, by kernel_rfl!, by kernel_rfl!⟩
@[simp] theorem mk_489_failed (P : Params) : keepIn (Mine.hd.heap_39 P) (.ref 422) = true := (mt_489_failed P).keep
theorem mt_489_found (P : Params) : MethOK (Mine.hd.heap_39 P) 489 (Str.ofString "found") 429 := ⟨(ca_489 P).1, by kernel_rfl!, by kernel_rfl!, by kernel_rfl!⟩
@[simp] theorem mk_489_found (P : Params) : keepIn (Mine.hd.heap_39 P) (.ref 429) = true := (mt_489_found P).keep
theorem mt_489_read_next (P : Params) : MethOK (Mine.hd.heap_39 P) 489 (Str.ofString "read_next") 436 := ⟨(ca_489 P).1, by kernel_rfl!, by kernel_rfl!, by kernel_rfl!⟩
@[simp] theorem mk_489_read_next (P : Params) : keepIn (Mine.hd.heap_39 P) (.ref 436) = true := (mt_489_read_next P).keep
theorem mt_489_write (P : Params) : MethOK (Mine.hd.heap_39 P) 489 (Str.ofString "write") 458 := ⟨(ca_489 P).1, by kernel_rfl!, by kernel_rfl!, by kernel_rfl!⟩
@[simp] theorem mk_489_write (P : Params) : keepIn (Mine.hd.heap_39 P) (.ref 458) = true := (mt_489_write P).keep
theorem mt_489_chosen (P : Params) : MethOK (Mine.hd.heap_39 P) 489 (Str.ofString "chosen") 465 := ⟨(ca_489 P).1, by kernel_rfl!, by kernel_rfl!, by kernel_rfl!⟩
@[simp] theorem mk_489_chosen (P : Params) : keepIn (Mine.hd.heap_39 P) (.ref 465) = true := (mt_489_chosen P).keep
theorem mt_489_rewrite (P : Params) : MethOK (Mine.hd.heap_39 P) 489 (Str.ofString "rewrite") 473 := ⟨(ca_489 P).1, by kernel_rfl!, by kernel_rfl!, by kernel_rfl!⟩
@[simp] theorem mk_489_rewrite (P : Params) : keepIn (Mine.hd.heap_39 P) (.ref 473) = true := (mt_489_rewrite P).keep
theorem mt_489_delete (P : Params) : MethOK (Mine.hd.heap_39 P) 489 (Str.ofString "delete") 481 := ⟨(ca_489 P).1, by kernel_rfl!, by kernel_rfl!, by kernel_rfl!⟩
@[simp] theorem mk_489_delete (P : Params) : keepIn (Mine.hd.heap_39 P) (.ref 481) = true := (mt_489_delete P).keep
theorem ca_381 (P : Params) : plainGet (Mine.hd.heap_39 P) 381 (Str.ofString "x") = true ∧ hasDictIn (Mine.hd.heap_39 P) 381 = true ∧ findIn (Mine.hd.heap_39 P) (.ref 381) "__setattr__" = some (some (.builtin "object.__setattr__")) ∧ plainOver (Mine.hd.heap_39 P) 381 = true := ⟨by kernel_rfl!, by kernel_rfl!, by kernel_rfl!, by kernel_rfl!⟩
@[simp] theorem at_381_content (P : Params) : AttrOK (Mine.hd.heap_39 P) 381 (Str.ofString "content") := ⟨(ca_381 P).1, (ca_381 P).2.1, by kernel_rfl!, (ca_381 P).2.2.1, (ca_381 P).2.2.2, by kernel_rfl!⟩
@[simp] theorem at_381_mode (P : Params) : AttrOK (Mine.hd.heap_39 P) 381 (Str.ofString "mode") := ⟨(ca_381 P).1, (ca_381 P).2.1, by kernel_rfl!, (ca_381 P).2.2.1, (ca_381 P).2.2.2, by kernel_rfl!⟩
@[simp] theorem at_381_access (P : Params) : AttrOK (Mine.hd.heap_39 P) 381 (Str.ofString "access") := ⟨(ca_381 P).1, (ca_381 P).2.1, by kernel_rfl!, (ca_381 P).2.2.1, (ca_381 P).2.2.2, by kernel_rfl!⟩
@[simp] theorem at_381_keys (P : Params) : AttrOK (Mine.hd.heap_39 P) 381 (Str.ofString "keys") := ⟨(ca_381 P).1, (ca_381 P).2.1, by kernel_rfl!, (ca_381 P).2.2.1, (ca_381 P).2.2.2, by kernel_rfl!⟩
@[simp] theorem at_381_stamps (P : Params) : AttrOK (Mine.hd.heap_39 P) 381 (Str.ofString "stamps") := ⟨(ca_381 P).1, (ca_381 P).2.1, by kernel_rfl!, (ca_381 P).2.2.1, (ca_381 P).2.2.2, by kernel_rfl!⟩
@[simp] theorem at_381_next_stamp (P : Params) : AttrOK (Mine.hd.heap_39 P) 381 (Str.ofString "next_stamp") := ⟨(ca_381 P).1, (ca_381 P).2.1, by kernel_rfl!, (ca_381 P).2.2.1, (ca_381 P).2.2.2, by kernel_rfl!⟩
@[simp] theorem at_381_which (P : Params) : AttrOK (Mine.hd.heap_39 P) 381 (Str.ofString "which") := ⟨(ca_381 P).1, (ca_381 P).2.1, by kernel_rfl!, (ca_381 P).2.2.1, (ca_381 P).2.2.2, by kernel_rfl!⟩
@[simp] theorem at_381_at (P : Params) : AttrOK (Mine.hd.heap_39 P) 381 (Str.ofString "at") := ⟨(ca_381 P).1, (ca_381 P).2.1, by kernel_rfl!, (ca_381 P).2.2.1, (ca_381 P).2.2.2, by kernel_rfl!⟩
@[simp] theorem at_381_is_nowhere (P : Params) : AttrOK (Mine.hd.heap_39 P) 381 (Str.ofString "is_nowhere") := ⟨(ca_381 P).1, (ca_381 P).2.1, by kernel_rfl!, (ca_381 P).2.2.1, (ca_381 P).2.2.2, by kernel_rfl!⟩
@[simp] theorem at_381_read_last (P : Params) : AttrOK (Mine.hd.heap_39 P) 381 (Str.ofString "read_last") := ⟨(ca_381 P).1, (ca_381 P).2.1, by kernel_rfl!, (ca_381 P).2.2.1, (ca_381 P).2.2.2, by kernel_rfl!⟩
@[simp] theorem at_381_highest (P : Params) : AttrOK (Mine.hd.heap_39 P) 381 (Str.ofString "highest") := ⟨(ca_381 P).1, (ca_381 P).2.1, by kernel_rfl!, (ca_381 P).2.2.1, (ca_381 P).2.2.2, by kernel_rfl!⟩
theorem cl_381 (P : Params) : ClsOK (Mine.hd.heap_39 P) 381 250 := ⟨by kernel_rfl!, by kernel_rfl!, by kernel_rfl!, by kernel_rfl!⟩
@[simp] theorem ck_381 (P : Params) : keepIn (Mine.hd.heap_39 P) (.ref 381) = true := (cl_381 P).keep
theorem mt_381_worth (P : Params) : MethOK (Mine.hd.heap_39 P) 381 (Str.ofString "worth") 264 := ⟨(ca_381 P).1, by kernel_rfl!, by kernel_rfl!, by kernel_rfl!⟩
@[simp] theorem mk_381_worth (P : Params) : keepIn (Mine.hd.heap_39 P) (.ref 264) = true := (mt_381_worth P).keep
theorem mt_381_ordered (P : Params) : MethOK (Mine.hd.heap_39 P) 381 (Str.ofString "ordered") 271 := ⟨(ca_381 P).1, by kernel_rfl!, by kernel_rfl!, by kernel_rfl!⟩
@[simp] theorem mk_381_ordered (P : Params) : keepIn (Mine.hd.heap_39 P) (.ref 271) = true := (mt_381_ordered P).keep
theorem mt_381_place_of (P : Params) : MethOK (Mine.hd.heap_39 P) 381 (Str.ofString "place_of") 278 := ⟨(ca_381 P).1, by kernel_rfl!, by kernel_rfl!, by kernel_rfl!⟩
@[simp] theorem mk_381_place_of (P : Params) : keepIn (Mine.hd.heap_39 P) (.ref 278) = true := (mt_381_place_of P).keep
theorem mt_381_stand (P : Params) : MethOK (Mine.hd.heap_39 P) 381 (Str.ofString "stand") 292 := ⟨(ca_381 P).1, by kernel_rfl!, by kernel_rfl!, by kernel_rfl!⟩
@[simp] theorem mk_381_stand (P : Params) : keepIn (Mine.hd.heap_39 P) (.ref 292) = true := (mt_381_stand P).keep
theorem mt_381_lose (P : Params) : MethOK (Mine.hd.heap_39 P) 381 (Str.ofString "lose") 299 := ⟨(ca_381 P).1, by kernel_rfl!, by kernel_rfl!, by kernel_rfl!⟩
@[simp] theorem mk_381_lose (P : Params) : keepIn (Mine.hd.heap_39 P) (.ref 299) = true := (mt_381_lose P).keep
theorem mt_381_found (P : Params) : MethOK (Mine.hd.heap_39 P) 381 (Str.ofString "found") 304 := ⟨(ca_381 P).1, by kernel_rfl!, by kernel_rfl!, by kernel_rfl!⟩
@[simp] theorem mk_381_found (P : Params) : keepIn (Mine.hd.heap_39 P) (.ref 304) = true := (mt_381_found P).keep
theorem mt_381_read_next (P : Params) : MethOK (Mine.hd.heap_39 P) 381 (Str.ofString "read_next") 311 := ⟨(ca_381 P).1, by kernel_rfl!, by kernel_rfl!, by kernel_rfl!⟩
@[simp] theorem mk_381_read_next (P : Params) : keepIn (Mine.hd.heap_39 P) (.ref 311) = true := (mt_381_read_next P).keep
theorem mt_381_put (P : Params) : MethOK (Mine.hd.heap_39 P) 381 (Str.ofString "put") 332 := ⟨(ca_381 P).1, by kernel_rfl!, by kernel_rfl!, by kernel_rfl!⟩
@[simp] theorem mk_381_put (P : Params) : keepIn (Mine.hd.heap_39 P) (.ref 332) = true := (mt_381_put P).keep
theorem mt_381_drop (P : Params) : MethOK (Mine.hd.heap_39 P) 381 (Str.ofString "drop") 339 := ⟨(ca_381 P).1, by kernel_rfl!, by kernel_rfl!, by kernel_rfl!⟩
@[simp] theorem mk_381_drop (P : Params) : keepIn (Mine.hd.heap_39 P) (.ref 339) = true := (mt_381_drop P).keep
theorem mt_381_doubled (P : Params) : MethOK (Mine.hd.heap_39 P) 381 (Str.ofString "doubled") 346 := ⟨(ca_381 P).1, by kernel_rfl!, by kernel_rfl!, by kernel_rfl!⟩
@[simp] theorem mk_381_doubled (P : Params) : keepIn (Mine.hd.heap_39 P) (.ref 346) = true := (mt_381_doubled P).keep
theorem mt_381_may_write (P : Params) : MethOK (Mine.hd.heap_39 P) 381 (Str.ofString "may_write") 353 := ⟨(ca_381 P).1, by kernel_rfl!, by kernel_rfl!, by kernel_rfl!⟩
@[simp] theorem mk_381_may_write (P : Params) : keepIn (Mine.hd.heap_39 P) (.ref 353) = true := (mt_381_may_write P).keep
theorem mt_381_write (P : Params) : MethOK (Mine.hd.heap_39 P) 381 (Str.ofString "write") 360 := ⟨(ca_381 P).1, by kernel_rfl!, by kernel_rfl!, by kernel_rfl!⟩
@[simp] theorem mk_381_write (P : Params) : keepIn (Mine.hd.heap_39 P) (.ref 360) = true := (mt_381_write P).keep
theorem mt_381_rewrite (P : Params) : MethOK (Mine.hd.heap_39 P) 381 (Str.ofString "rewrite") 370 := ⟨(ca_381 P).1, by kernel_rfl!, by kernel_rfl!, by kernel_rfl!⟩
@[simp] theorem mk_381_rewrite (P : Params) : keepIn (Mine.hd.heap_39 P) (.ref 370) = true := (mt_381_rewrite P).keep
theorem mt_381_delete (P : Params) : MethOK (Mine.hd.heap_39 P) 381 (Str.ofString "delete") 378 := ⟨(ca_381 P).1, by kernel_rfl!, by kernel_rfl!, by kernel_rfl!⟩
@[simp] theorem mk_381_delete (P : Params) : keepIn (Mine.hd.heap_39 P) (.ref 378) = true := (mt_381_delete P).keep
theorem ca_137 (P : Params) : plainGet (Mine.hd.heap_39 P) 137 (Str.ofString "x") = true ∧ hasDictIn (Mine.hd.heap_39 P) 137 = true ∧ findIn (Mine.hd.heap_39 P) (.ref 137) "__setattr__" = some (some (.builtin "object.__setattr__")) ∧ plainOver (Mine.hd.heap_39 P) 137 = true := ⟨by kernel_rfl!, by kernel_rfl!, by kernel_rfl!, by kernel_rfl!⟩
@[simp] theorem at_137_files (P : Params) : AttrOK (Mine.hd.heap_39 P) 137 (Str.ofString "files") := ⟨(ca_137 P).1, (ca_137 P).2.1, by kernel_rfl!, (ca_137 P).2.2.1, (ca_137 P).2.2.2, by kernel_rfl!⟩
theorem cl_137 (P : Params) : ClsOK (Mine.hd.heap_39 P) 137 77 := ⟨by kernel_rfl!, by kernel_rfl!, by kernel_rfl!, by kernel_rfl!⟩
@[simp] theorem ck_137 (P : Params) : keepIn (Mine.hd.heap_39 P) (.ref 137) = true := (cl_137 P).keep
theorem mt_137_paths (P : Params) : MethOK (Mine.hd.heap_39 P) 137 (Str.ofString "paths") 84 := ⟨(ca_137 P).1, by kernel_rfl!, by kernel_rfl!, by kernel_rfl!⟩
@[simp] theorem mk_137_paths (P : Params) : keepIn (Mine.hd.heap_39 P) (.ref 84) = true := (mt_137_paths P).keep
theorem mt_137_kind_of (P : Params) : MethOK (Mine.hd.heap_39 P) 137 (Str.ofString "kind_of") 91 := ⟨(ca_137 P).1, by kernel_rfl!, by kernel_rfl!, by kernel_rfl!⟩
@[simp] theorem mk_137_kind_of (P : Params) : keepIn (Mine.hd.heap_39 P) (.ref 91) = true := (mt_137_kind_of P).keep
theorem mt_137_content_of (P : Params) : MethOK (Mine.hd.heap_39 P) 137 (Str.ofString "content_of") 98 := ⟨(ca_137 P).1, by kernel_rfl!, by kernel_rfl!, by kernel_rfl!⟩
@[simp] theorem mk_137_content_of (P : Params) : keepIn (Mine.hd.heap_39 P) (.ref 98) = true := (mt_137_content_of P).keep
theorem mt_137_begin (P : Params) : MethOK (Mine.hd.heap_39 P) 137 (Str.ofString "begin") 105 := ⟨(ca_137 P).1, by kernel_rfl!, by kernel_rfl!, by kernel_rfl!⟩
@[simp] theorem mk_137_begin (P : Params) : keepIn (Mine.hd.heap_39 P) (.ref 105) = true := (mt_137_begin P).keep
theorem mt_137_lay (P : Params) : MethOK (Mine.hd.heap_39 P) 137 (Str.ofString "lay") 110 := ⟨(ca_137 P).1, by kernel_rfl!, by kernel_rfl!, by kernel_rfl!⟩
@[simp] theorem mk_137_lay (P : Params) : keepIn (Mine.hd.heap_39 P) (.ref 110) = true := (mt_137_lay P).keep
theorem mt_137_opened (P : Params) : MethOK (Mine.hd.heap_39 P) 137 (Str.ofString "opened") 117 := ⟨(ca_137 P).1, by kernel_rfl!, by kernel_rfl!, by kernel_rfl!⟩
@[simp] theorem mk_137_opened (P : Params) : keepIn (Mine.hd.heap_39 P) (.ref 117) = true := (mt_137_opened P).keep
theorem mt_137_rows_of (P : Params) : MethOK (Mine.hd.heap_39 P) 137 (Str.ofString "rows_of") 122 := ⟨(ca_137 P).1, by kernel_rfl!, by kernel_rfl!, by kernel_rfl!⟩
@[simp] theorem mk_137_rows_of (P : Params) : keepIn (Mine.hd.heap_39 P) (.ref 122) = true := (mt_137_rows_of P).keep
theorem mt_137_told (P : Params) : MethOK (Mine.hd.heap_39 P) 137 (Str.ofString "told") 134 := ⟨(ca_137 P).1, by kernel_rfl!, by kernel_rfl!, by kernel_rfl!⟩
@[simp] theorem mk_137_told (P : Params) : keepIn (Mine.hd.heap_39 P) (.ref 134) = true := (mt_137_told P).keep
theorem ca_226 (P : Params) : plainGet (Mine.hd.heap_39 P) 226 (Str.ofString "x") = true ∧ hasDictIn (Mine.hd.heap_39 P) 226 = true ∧ findIn (Mine.hd.heap_39 P) (.ref 226) "__setattr__" = some (some (.builtin "object.__setattr__")) ∧ plainOver (Mine.hd.heap_39 P) 226 = true := ⟨by kernel_rfl!, by kernel_rfl!, by kernel_rfl!, by kernel_rfl!⟩
@[simp] theorem at_226_octets (P : Params) : AttrOK (Mine.hd.heap_39 P) 226 (Str.ofString "octets") := ⟨(ca_226 P).1, (ca_226 P).2.1, by kernel_rfl!, (ca_226 P).2.2.1, (ca_226 P).2.2.2, by kernel_rfl!⟩
@[simp] theorem at_226_at (P : Params) : AttrOK (Mine.hd.heap_39 P) 226 (Str.ofString "at") := ⟨(ca_226 P).1, (ca_226 P).2.1, by kernel_rfl!, (ca_226 P).2.2.1, (ca_226 P).2.2.2, by kernel_rfl!⟩
theorem cl_226 (P : Params) : ClsOK (Mine.hd.heap_39 P) 226 181 := ⟨by kernel_rfl!, by kernel_rfl!, by kernel_rfl!, by kernel_rfl!⟩
@[simp] theorem ck_226 (P : Params) : keepIn (Mine.hd.heap_39 P) (.ref 226) = true := (cl_226 P).keep
theorem mt_226_taken (P : Params) : MethOK (Mine.hd.heap_39 P) 226 (Str.ofString "taken") 195 := ⟨(ca_226 P).1, by kernel_rfl!, by kernel_rfl!, by kernel_rfl!⟩
@[simp] theorem mk_226_taken (P : Params) : keepIn (Mine.hd.heap_39 P) (.ref 195) = true := (mt_226_taken P).keep
theorem mt_226_count (P : Params) : MethOK (Mine.hd.heap_39 P) 226 (Str.ofString "count") 202 := ⟨(ca_226 P).1, by kernel_rfl!, by kernel_rfl!, by kernel_rfl!⟩
@[simp] theorem mk_226_count (P : Params) : keepIn (Mine.hd.heap_39 P) (.ref 202) = true := (mt_226_count P).keep
theorem mt_226_path (P : Params) : MethOK (Mine.hd.heap_39 P) 226 (Str.ofString "path") 209 := ⟨(ca_226 P).1, by kernel_rfl!, by kernel_rfl!, by kernel_rfl!⟩
@[simp] theorem mk_226_path (P : Params) : keepIn (Mine.hd.heap_39 P) (.ref 209) = true := (mt_226_path P).keep
theorem mt_226_kind (P : Params) : MethOK (Mine.hd.heap_39 P) 226 (Str.ofString "kind") 216 := ⟨(ca_226 P).1, by kernel_rfl!, by kernel_rfl!, by kernel_rfl!⟩
@[simp] theorem mk_226_kind (P : Params) : keepIn (Mine.hd.heap_39 P) (.ref 216) = true := (mt_226_kind P).keep
theorem mt_226_row (P : Params) : MethOK (Mine.hd.heap_39 P) 226 (Str.ofString "row") 223 := ⟨(ca_226 P).1, by kernel_rfl!, by kernel_rfl!, by kernel_rfl!⟩
@[simp] theorem mk_226_row (P : Params) : keepIn (Mine.hd.heap_39 P) (.ref 223) = true := (mt_226_row P).keep
@[simp] theorem kp_146 (P : Params) : keepIn (Mine.hd.heap_39 P) (.ref 146) = true := by kernel_rfl!
theorem gl_count_octets (P : Params) : nsIn (Mine.hd.heap_39 P) mainGlobals (Str.ofString "count_octets") = some (some (.ref 146)) := by kernel_rfl!
@[simp] theorem kp_153 (P : Params) : keepIn (Mine.hd.heap_39 P) (.ref 153) = true := by kernel_rfl!
theorem gl_path_octets (P : Params) : nsIn (Mine.hd.heap_39 P) mainGlobals (Str.ofString "path_octets") = some (some (.ref 153)) := by kernel_rfl!
@[simp] theorem kp_160 (P : Params) : keepIn (Mine.hd.heap_39 P) (.ref 160) = true := by kernel_rfl!
theorem gl_row_octets (P : Params) : nsIn (Mine.hd.heap_39 P) mainGlobals (Str.ofString "row_octets") = some (some (.ref 160)) := by kernel_rfl!
@[simp] theorem kp_167 (P : Params) : keepIn (Mine.hd.heap_39 P) (.ref 167) = true := by kernel_rfl!
theorem gl_write_shelf (P : Params) : nsIn (Mine.hd.heap_39 P) mainGlobals (Str.ofString "write_shelf") = some (some (.ref 167)) := by kernel_rfl!
@[simp] theorem kp_237 (P : Params) : keepIn (Mine.hd.heap_39 P) (.ref 237) = true := by kernel_rfl!
theorem gl_read_shelf (P : Params) : nsIn (Mine.hd.heap_39 P) mainGlobals (Str.ofString "read_shelf") = some (some (.ref 237)) := by kernel_rfl!
@[simp] theorem kp_393 (P : Params) : keepIn (Mine.hd.heap_39 P) (.ref 393) = true := by kernel_rfl!
theorem gl_least_from (P : Params) : nsIn (Mine.hd.heap_39 P) mainGlobals (Str.ofString "least_from") = some (some (.ref 393)) := by kernel_rfl!
@[simp] theorem kp_552 (P : Params) : keepIn (Mine.hd.heap_39 P) (.ref 552) = true := by kernel_rfl!
theorem gl__law_taker (P : Params) : nsIn (Mine.hd.heap_39 P) mainGlobals (Str.ofString "_law_taker") = some (some (.ref 552)) := by kernel_rfl!
@[simp] theorem kp_559 (P : Params) : keepIn (Mine.hd.heap_39 P) (.ref 559) = true := by kernel_rfl!
theorem gl__law_open (P : Params) : nsIn (Mine.hd.heap_39 P) mainGlobals (Str.ofString "_law_open") = some (some (.ref 559)) := by kernel_rfl!
@[simp] theorem kp_566 (P : Params) : keepIn (Mine.hd.heap_39 P) (.ref 566) = true := by kernel_rfl!
theorem gl__law_in_order (P : Params) : nsIn (Mine.hd.heap_39 P) mainGlobals (Str.ofString "_law_in_order") = some (some (.ref 566)) := by kernel_rfl!
@[simp] theorem kp_571 (P : Params) : keepIn (Mine.hd.heap_39 P) (.ref 571) = true := by kernel_rfl!
theorem gl__law_told (P : Params) : nsIn (Mine.hd.heap_39 P) mainGlobals (Str.ofString "_law_told") = some (some (.ref 571)) := by kernel_rfl!
@[simp] theorem kp_578 (P : Params) : keepIn (Mine.hd.heap_39 P) (.ref 578) = true := by kernel_rfl!
theorem gl__law_place (P : Params) : nsIn (Mine.hd.heap_39 P) mainGlobals (Str.ofString "_law_place") = some (some (.ref 578)) := by kernel_rfl!
@[simp] theorem kp_585 (P : Params) : keepIn (Mine.hd.heap_39 P) (.ref 585) = true := by kernel_rfl!
theorem gl__law_keyed_right (P : Params) : nsIn (Mine.hd.heap_39 P) mainGlobals (Str.ofString "_law_keyed_right") = some (some (.ref 585)) := by kernel_rfl!
@[simp] theorem kp_592 (P : Params) : keepIn (Mine.hd.heap_39 P) (.ref 592) = true := by kernel_rfl!
theorem gl__law_rows_right (P : Params) : nsIn (Mine.hd.heap_39 P) mainGlobals (Str.ofString "_law_rows_right") = some (some (.ref 592)) := by kernel_rfl!
@[simp] theorem kp_599 (P : Params) : keepIn (Mine.hd.heap_39 P) (.ref 599) = true := by kernel_rfl!
theorem gl__law_is_read (P : Params) : nsIn (Mine.hd.heap_39 P) mainGlobals (Str.ofString "_law_is_read") = some (some (.ref 599)) := by kernel_rfl!
@[simp] theorem kp_604 (P : Params) : keepIn (Mine.hd.heap_39 P) (.ref 604) = true := by kernel_rfl!
theorem gl__law_session_right (P : Params) : nsIn (Mine.hd.heap_39 P) mainGlobals (Str.ofString "_law_session_right") = some (some (.ref 604)) := by kernel_rfl!
@[simp] theorem kp_611 (P : Params) : keepIn (Mine.hd.heap_39 P) (.ref 611) = true := by kernel_rfl!
theorem gl_law (P : Params) : nsIn (Mine.hd.heap_39 P) mainGlobals (Str.ofString "law") = some (some (.ref 611)) := by kernel_rfl!
theorem gl_RowFile (P : Params) : nsIn (Mine.hd.heap_39 P) mainGlobals (Str.ofString "RowFile") = some (some (.ref 540)) := by kernel_rfl!
theorem gl_RelFile (P : Params) : nsIn (Mine.hd.heap_39 P) mainGlobals (Str.ofString "RelFile") = some (some (.ref 489)) := by kernel_rfl!
theorem gl_KeyFile (P : Params) : nsIn (Mine.hd.heap_39 P) mainGlobals (Str.ofString "KeyFile") = some (some (.ref 381)) := by kernel_rfl!
theorem gl_Shelf (P : Params) : nsIn (Mine.hd.heap_39 P) mainGlobals (Str.ofString "Shelf") = some (some (.ref 137)) := by kernel_rfl!
theorem gl_ShelfReader (P : Params) : nsIn (Mine.hd.heap_39 P) mainGlobals (Str.ofString "ShelfReader") = some (some (.ref 226)) := by kernel_rfl!
theorem gn_len (P : Params) : nsIn (Mine.hd.heap_39 P) mainGlobals (Str.ofString "len") = some none := by kernel_rfl!
theorem gn_range (P : Params) : nsIn (Mine.hd.heap_39 P) mainGlobals (Str.ofString "range") = some none := by kernel_rfl!
theorem gn_sorted (P : Params) : nsIn (Mine.hd.heap_39 P) mainGlobals (Str.ofString "sorted") = some none := by kernel_rfl!
theorem gn_bytes (P : Params) : nsIn (Mine.hd.heap_39 P) mainGlobals (Str.ofString "bytes") = some none := by kernel_rfl!
theorem gn_tuple (P : Params) : nsIn (Mine.hd.heap_39 P) mainGlobals (Str.ofString "tuple") = some none := by kernel_rfl!
theorem gn_list (P : Params) : nsIn (Mine.hd.heap_39 P) mainGlobals (Str.ofString "list") = some none := by kernel_rfl!
theorem gn_enumerate (P : Params) : nsIn (Mine.hd.heap_39 P) mainGlobals (Str.ofString "enumerate") = some none := by kernel_rfl!
theorem gn_max (P : Params) : nsIn (Mine.hd.heap_39 P) mainGlobals (Str.ofString "max") = some none := by kernel_rfl!
theorem gn_Exception (P : Params) : nsIn (Mine.hd.heap_39 P) mainGlobals (Str.ofString "Exception") = some none := by kernel_rfl!
end Mine
end

section
open PySem PySem.W PySem.Calls PyProof.Rows
set_option Elab.async false
set_option linter.all false
namespace Mine
def IsL (vs : List Value) (o : Obj) : Prop := ∃ n, o = listOf vs.toArray n
theorem IsL.new {vs : List Value} {n : Nat} : IsL vs (listOf vs.toArray n) := ⟨n, rfl⟩
theorem IsL.ints {vs : List Value} {o : Obj} {h : Heap} {c : Addr} (H : IsL vs o) (e : h.get? c = some o) : h.IsList c vs.toArray := by
  obtain ⟨n, rfl⟩ := H; exact ⟨_, e, rfl, n, rfl⟩
inductive BV : List Value → List (Array UInt8) → Prop
  | nil : BV [] []
  | cons {v vs r rs} : (∃ t, v = .bytes r t) → BV vs rs → BV (v :: vs) (r :: rs)
theorem BV.length {vs rs} (H : BV vs rs) : vs.length = rs.length := by
  induction H with
  | nil => rfl
  | cons _ _ ih => simp [ih]
theorem BV.append {vs rs vs' rs'} (H : BV vs rs) (H' : BV vs' rs') : BV (vs ++ vs') (rs ++ rs') := by
  induction H with
  | nil => exact H'
  | cons h _ ih => exact .cons h ih
theorem BV.get {vs rs} (H : BV vs rs) : ∀ {i : Nat} {r : Array UInt8}, rs[i]? = some r → ∃ t, vs[i]? = some (.bytes r t) := by
  induction H with
  | nil => intro i r e; simp at e
  | cons h _ ih =>
    intro i r e
    cases i with
    | zero => obtain ⟨t, rfl⟩ := h; simp at e; subst e; exact ⟨t, rfl⟩
    | succ i => simp at e; obtain ⟨t, ht⟩ := ih e; exact ⟨t, by simpa using ht⟩
theorem BV.set {vs rs} (H : BV vs rs) (r : Array UInt8) (t : Tok) : ∀ i : Nat, BV (vs.set i (.bytes r t)) (rs.set i r) := by
  induction H with
  | nil => intro i; exact .nil
  | cons h x ih =>
    intro i
    cases i with
    | zero => exact .cons ⟨t, rfl⟩ x
    | succ i => exact .cons h (ih i)
theorem BV.erase {vs rs} (H : BV vs rs) : ∀ i : Nat, BV (vs.eraseIdx i) (rs.eraseIdx i) := by
  induction H with
  | nil => intro i; exact .nil
  | cons h x ih =>
    intro i
    cases i with
    | zero => exact x
    | succ i => exact .cons h (ih i)
inductive IsR (rows : List (Array UInt8)) (o : Obj) : Prop
  | mk (vs : List Value) (h : IsL vs o) (b : BV vs rows)

section
variable {w : World} {A : Around} {h g : Heap} {env : Env} {L : Addr} {l : Loc} {led : Led} {ks : List (List Nat × NameKind)} {cs : List (List Nat × Addr)} {K : Frag} {c : Addr} {oc : Obj} {vs : List Value} {G : Obj → Led}

theorem d_len (S : St g L h l led) (m : (c, oc) ∈ led) (H : IsL vs oc) {P : Value → Heap → Prop} (k : ∀ t, P (.int vs.length t) h) (hz : vs.length ≤ 16777216) : W w A (call (.builtin "len") [.ref c]) P h :=
  W.of fun s Q hs q => by
    subst hs
    have := H.ints (S.get m)
    exact call_len_list this (by simp; omega) (by have := q _ _ (s.toks + 1 + 1) (k (s.toks + 1)); simpa using this)
theorem d_item (S : St g L h l led) (m : (c, oc) ∈ led) (H : IsL vs oc) {value slice : Expr} {i : Int} {u : Tok} {v : Value} {P : Value → Heap → Prop} (h0 : 0 ≤ i) (h1 : i < 2 ^ 63) (hv : vs[i.toNat]? = some v) (k : P v h)
    (hs : subscripted slice false (.ref c) (.int i u) = operate [.ref c, .int i u] (getItem (.ref c) (.int i u))) : W w A (subscriptTail value slice (.ref c) (.int i u)) P h :=
  W.of fun s Q hs' q => by
    subst hs'
    have := H.ints (S.get m)
    exact tail_any this.typeIs slot_list_getitem.lookup (wpAny_getItem_list this h0 h1 (by simpa using hv) (q _ _ s.toks k)) hs
theorem d_set (S : St g L h l led) (U : PutF c oc led G) (H : IsL vs oc) {i : Int} {u : Tok} {v : Value} {P : Unit → Heap → Prop} (h0 : 0 ≤ i) (h1 : i < vs.length) (hz : vs.length ≤ 16777216)
    (k : ∀ h' o', IsL (vs.set i.toNat v) o' → St g L h' l (G o') → P () h') : W w A (setItem (.ref c) (.int i u) v) P h :=
  W.of fun s Q hs q => by
    subst hs
    obtain ⟨n, rfl⟩ := H
    refine ki_setAt (S.get U.mem) h0 (by omega) (by simpa using h1) (q _ _ s.toks (k _ _ ⟨_, congrArg (fun xs => listOf xs _) ?_⟩ (S.put U (Heap.SameBut.update ..) (get?_update_seq (S.get U.mem) _))))
    simp
theorem d_append (S : St g L h l led) (U : PutF c oc led G) (H : IsL vs oc) {v : Value} {P : Value → Heap → Prop} (hz : vs.length ≤ 16777216)
    (k : ∀ h' o', IsL (vs ++ [v]) o' → St g L h' l (G o') → P .none h') : W w A (call (.builtin "list.append") [.ref c, v]) P h :=
  W.of fun s Q hs q => by
    subst hs
    obtain ⟨n, rfl⟩ := H
    refine append_at (S.get U.mem) (fun h' hs ho' => q _ _ s.toks (k h' _ ⟨n + 1, ?_⟩ (S.put U hs ho'))) (by rw [sizeLine_eq]; simpa using hz)
    show listOf (vs.toArray.push v) (n + 1) = listOf (vs ++ [v]).toArray (n + 1)
    simp
theorem d_clear (S : St g L h l led) (U : PutF c oc led G) (H : IsL vs oc) {P : Value → Heap → Prop} (hz : vs.length ≤ 16777216)
    (k : ∀ h' o', IsL [] o' → St g L h' l (G o') → P .none h') : W w A (call (.builtin "list.clear") [.ref c]) P h :=
  W.of fun s Q hs q => by
    subst hs
    obtain ⟨n, rfl⟩ := H
    exact call_meets PySem.F.slot_list_clear ⟨_, S.get U.mem, rfl⟩ PySem.F.entry_list_clear (PySem.F.args_list_clear_1 _) (PySem.AutoSeq1.list_clear_list_0 c _ n (by rw [sizeLine_eq]; simpa using hz)) ⟨S.get U.mem, q _ _ s.toks (k _ _ ⟨_, rfl⟩ (S.put U (Heap.SameBut.update ..) (get?_update_seq (S.get U.mem) _)))⟩
theorem d_pop (S : St g L h l led) (U : PutF c oc led G) (H : IsL vs oc) {i : Int} {u : Tok} {v : Value} {P : Value → Heap → Prop} (h0 : 0 ≤ i) (hv : vs[i.toNat]? = some v) (hz : vs.length ≤ 16777216)
    (k : ∀ h' o', IsL (vs.eraseIdx i.toNat) o' → St g L h' l (G o') → P v h') : W w A (call (.builtin "list.pop") [.ref c, .int i u]) P h :=
  W.of fun s Q hs q => by
    subst hs
    obtain ⟨n, rfl⟩ := H
    have hlt : i.toNat < vs.length := by
      rcases Nat.lt_or_ge i.toNat vs.length with x | x
      · exact x
      · rw [List.getElem?_eq_none x] at hv; cases hv
    refine call_meets PySem.F.slot_list_pop ⟨_, S.get U.mem, rfl⟩ PySem.F.entry_list_pop (PySem.F.args_list_pop_2 _ _) (PySem.MeetsSeq.list_pop_at c vs.toArray n i u i.toNat v ?_ ?_ (by simpa using hv) (by rw [sizeLine_eq]; simpa using hz)) ⟨S.get U.mem, q _ _ s.toks (k _ _ ⟨_, congrArg (fun xs => listOf xs _) ?_⟩ (S.put U (Heap.SameBut.update ..) (get?_update_seq (S.get U.mem) _)))⟩
    · simp only [Builtin.List.listFitsIndex, Bool.and_eq_true, decide_eq_true_eq]; omega
    · unfold seqIndex?
      simp
      omega
    · simp [Array.eraseIdxIfInBounds, hlt]
theorem d_add {a b : Int} {t u : Tok} {P : Value → Heap → Prop} (k : ∀ t, P (.int (a + b) t) h) : W w A (binaryOp .Add (.int a t) (.int b u)) P h := W.of fun s Q hs q => PyProof.Rows.add_int (by subst hs; exact q _ _ _ (k _))
theorem d_sub {a b : Int} {t u : Tok} {P : Value → Heap → Prop} (k : ∀ t, P (.int (a - b) t) h) : W w A (binaryOp .Sub (.int a t) (.int b u)) P h := W.of fun s Q hs q => PyProof.Rows.sub_int (by subst hs; exact q _ _ _ (k _))
theorem d_mod {a b : Int} {t u : Tok} {P : Value → Heap → Prop} (hb : b ≠ 0) (k : ∀ t, P (.int (a.fmod b) t) h) : W w A (binaryOp .Mod (.int a t) (.int b u)) P h := W.of fun s Q hs q => PyProof.Rows.mod_int' hb (by subst hs; exact q _ _ _ (k _))
theorem d_neg {a : Int} {t : Tok} {P : Value → Heap → Prop} (k : ∀ t, P (.int (-a) t) h) : W w A (unaryOp .USub (.int a t)) P h := W.of fun s Q hs q => PyProof.Rows.neg_int (by subst hs; exact q _ _ _ (k _))
theorem d_lt {a b : Int} {t u : Tok} {P : Value → Heap → Prop} (k : P (.bool (decide (a < b))) h) : W w A (compareOp .Lt (.int a t) (.int b u)) P h := W.of fun s Q hs q => PyProof.Rows.lt_int (by subst hs; exact q _ _ s.toks k)
theorem d_gt {a b : Int} {t u : Tok} {P : Value → Heap → Prop} (k : P (.bool (decide (b < a))) h) : W w A (compareOp .Gt (.int a t) (.int b u)) P h := W.of fun s Q hs q => PyProof.Rows.gt_int (by subst hs; exact q _ _ s.toks k)
theorem d_le {a b : Int} {t u : Tok} {P : Value → Heap → Prop} (k : P (.bool (decide (a ≤ b))) h) : W w A (compareOp .LtE (.int a t) (.int b u)) P h := W.of fun s Q hs q => PyProof.Rows.le_int (by subst hs; exact q _ _ s.toks k)
theorem d_ge {a b : Int} {t u : Tok} {P : Value → Heap → Prop} (k : P (.bool (decide (b ≤ a))) h) : W w A (compareOp .GtE (.int a t) (.int b u)) P h := W.of fun s Q hs q => PyProof.Rows.ge_int (by subst hs; exact q _ _ s.toks k)
theorem d_eq {a b : Int} {t u : Tok} {P : Value → Heap → Prop} (k : P (.bool (a == b)) h) : W w A (compareOp .Eq (.int a t) (.int b u)) P h := W.of fun s Q hs q => PyProof.Rows.eq_int (by subst hs; exact q _ _ s.toks k)
theorem d_ne {a b : Int} {t u : Tok} {P : Value → Heap → Prop} (k : P (.bool (a != b)) h) : W w A (compareOp .NotEq (.int a t) (.int b u)) P h := W.of fun s Q hs q => PyProof.Rows.ne_int (by subst hs; exact q _ _ s.toks k)
theorem str_eq {a b : Str} : (a == b) = decide (key a = key b) := by
  by_cases e : a = b
  · subst e; simp
  · have : ¬ key a = key b := fun q => e (key_inj q)
    simp [e, this]
theorem d_seq {a b : Str} {t u : Tok} {ka kb : List Nat} {P : Value → Heap → Prop} (ha : key a = ka) (hb : key b = kb) (k : P (.bool (decide (ka = kb))) h) : W w A (compareOp .Eq (.str a t) (.str b u)) P h :=
  W.of fun s Q hs q => PyProof.Rows.eq_str (by subst hs ha hb; rw [str_eq]; exact q _ _ s.toks k)
theorem d_sne {a b : Str} {t u : Tok} {ka kb : List Nat} {P : Value → Heap → Prop} (ha : key a = ka) (hb : key b = kb) (k : P (.bool (!decide (ka = kb))) h) : W w A (compareOp .NotEq (.str a t) (.str b u)) P h :=
  W.of fun s Q hs q => PyProof.Rows.ne_str (by subst hs ha hb; show Q (.bool (!(a == b))) s; rw [str_eq]; exact q _ _ s.toks k)
theorem d_isnone {v : Value} {P : Value → Heap → Prop} (k : P (.bool (v == .none)) h) : W w A (compareOp .Is v .none) P h := W.of fun s Q hs q => is_none_gen (by subst hs; exact q _ _ s.toks k)
theorem d_isnotnone {v : Value} {P : Value → Heap → Prop} (k : P (.bool (!(v == .none))) h) : W w A (compareOp .IsNot v .none) P h := W.of fun s Q hs q => isnot_none_gen (by subst hs; exact q _ _ s.toks k)
theorem w_bytes {x : List UInt8} {n : Nat} {pos : Pos} {P : Value → Heap → Prop} (k : ∀ t, P (.bytes x.toArray t) h) : W w A (eval (.Constant (.bytes x) n pos) env) P h := W.of fun s Q hs q => Constant_bytes (by subst hs; exact q _ _ _ (k _))


theorem eqAt_bytes {s : Shared} {b c : Array UInt8} {t u : Tok} : SeqAt.EqAt A s (.bytes b t) (.bytes c u) (decide (b = c)) := fun prog w E Q q => by
  unfold eqBool
  refine wpAny_holding ?_
  refine wpAny_ite_split (fun hab => ?_) (fun _ => ?_)
  · have e := eq_of_beq hab
    injection e with e1 e2
    subst e1
    refine wpAny_bind (wpAny_rule (wpAny_pure ?_))
    simpa using q
  · refine wpAny_bind (show wpAny (model prog w) A (compareOp .Eq (.bytes b t) (.bytes c u)) _ E s from eq_bytes ?_)
    refine wpAny_truthy_bool ?_
    have : (b.toList == c.toList) = decide (b = c) := by
      by_cases e : b = c
      · subst e; simp
      · have : ¬ b.toList = c.toList := fun z => e (Array.toList_inj.mp z)
        simp [e, this]
    rw [this]; exact q
end
inductive PD where
  | none
  | int (i : Int)
  | str (k : List Nat)
  | bytes (b : Array UInt8)
  | tup (ds : List PD)
mutual
inductive DV (h : Heap) : Value → PD → Prop
  | none : DV h .none .none
  | int {i t} : DV h (.int i t) (.int i)
  | str {x t k} : key x = k → DV h (.str x t) (.str k)
  | bytes {b t} : DV h (.bytes b t) (.bytes b)
  | tup {a vs ds} : h.IsTuple a vs.toArray → DVs h vs ds → DV h (.ref a) (.tup ds)
inductive DVs (h : Heap) : List Value → List PD → Prop
  | nil : DVs h [] []
  | cons {v vs d ds} : DV h v d → DVs h vs ds → DVs h (v :: vs) (d :: ds)
end
mutual
def PD.depth : PD → Nat
  | .tup ds => PD.depths ds + 1
  | _ => 0
def PD.depths : List PD → Nat
  | [] => 0
  | d :: ds => max d.depth (PD.depths ds)
end
theorem DVs.length {h : Heap} {vs : List Value} {ds : List PD} (H : DVs h vs ds) : vs.length = ds.length :=
  DVs.rec (motive_1 := fun _ _ _ => True) (motive_2 := fun vs ds _ => vs.length = ds.length) trivial trivial (fun _ => trivial) trivial (fun _ _ _ => trivial) rfl (fun _ _ _ b => congrArg Nat.succ b) H
theorem dv_tup {s : Shared} {a b : Addr} {vs us : List Value} {ds : List PD} {A : Around} (ha : s.heap.IsTuple a vs.toArray) (hb : s.heap.IsTuple b us.toArray) (hs : DVs s.heap vs ds) (ht : DVs s.heap us ds) (hu : A.units + (PD.depths ds + 1) < cLine)
    (k : ∀ (j : Nat) (u v : Value) (h1 : j < vs.length) (h2 : j < us.length), vs[j] = u → us[j] = v → SeqAt.EqAt A.in1 s u v true) : SeqAt.EqAt A s (.ref a) (.ref b) true := by
  by_cases e : a = b
  · subst e; exact SeqAt.EqAt.same _
  · refine SeqAt.EqAt.of_refs e ?_
    have r := SeqAt.RcAt.tuples (A := A) (e := fun _ => true) ha hb (by omega) (fun j h1 h2 => k j _ _ h1 h2 rfl rfl)
    have : ((List.range (min vs.toArray.size us.toArray.size)).all (fun _ => true) && vs.toArray.size == us.toArray.size) = true := by simp [hs.length, ht.length]
    rwa [this] at r
def EqV (s : Shared) (u : Value) (d : PD) : Prop := ∀ (v : Value) (A : Around), DV s.heap v d → A.units + d.depth < cLine → SeqAt.EqAt A s u v true
def EqVs (s : Shared) (us : List Value) (ds : List PD) : Prop := ∀ (vs : List Value) (A : Around), DVs s.heap vs ds → A.units + PD.depths ds < cLine → ∀ (j : Nat) (u v : Value) (h1 : j < us.length) (h2 : j < vs.length), us[j] = u → vs[j] = v → SeqAt.EqAt A s u v true
theorem eqV_str {s : Shared} {x : Str} {t : Tok} {k : List Nat} (e : key x = k) : EqV s (.str x t) (.str k) := fun v A hv _ => by
  cases hv with
  | @str y t2 _ e' =>
    obtain rfl : x = y := key_inj (e.trans e'.symm)
    have := eqGives_str x x t t2
    simp at this
    exact this.at _ _
theorem eqV_int {s : Shared} {i : Int} {t : Tok} : EqV s (.int i t) (.int i) := fun v A hv _ => by
  cases hv with
  | @int _ t2 => have := (MeetsSeq.EqGives.int i i t t2); simp at this; exact this.at _ _
theorem eqV_bytes {s : Shared} {b : Array UInt8} {t : Tok} : EqV s (.bytes b t) (.bytes b) := fun v A hv _ => by
  cases hv with
  | @bytes _ t2 => have := eqAt_bytes (A := A) (s := s) (b := b) (c := b) (t := t) (u := t2); simpa using this
theorem eqV_tup {s : Shared} {a : Addr} {vs : List Value} {ds : List PD} (ha : s.heap.IsTuple a vs.toArray) (hs : DVs s.heap vs ds) (ih : EqVs s vs ds) : EqV s (.ref a) (.tup ds) := fun v A hv hu => by
  cases hv with
  | tup hb ht => exact dv_tup ha hb hs ht hu fun j u v h1 h2 e1 e2 => ih _ A.in1 ht (by have : A.units + (PD.depths ds + 1) < cLine := hu; show A.units + 1 + _ < _; omega) j u v h1 h2 e1 e2
theorem eqVs_cons {s : Shared} {v : Value} {vs : List Value} {d : PD} {ds : List PD} (a : EqV s v d) (b : EqVs s vs ds) : EqVs s (v :: vs) (d :: ds) := fun us A hv hu j u w h1 h2 e1 e2 => by
  have hu' : A.units + max d.depth (PD.depths ds) < cLine := hu
  cases hv with
  | cons c cs => cases j with
    | zero => subst e1 e2; exact a _ _ c (by omega)
    | succ j => exact b _ _ cs (by omega) j u w (Nat.lt_of_succ_lt_succ h1) (Nat.lt_of_succ_lt_succ h2) e1 e2
theorem DVs.eq {s : Shared} {ds : List PD} {us vs : List Value} {A : Around} (H : DVs s.heap us ds) (K : DVs s.heap vs ds) (hu : A.units + PD.depths ds < cLine) : ∀ (j : Nat) (u v : Value) (h1 : j < us.length) (h2 : j < vs.length), us[j] = u → vs[j] = v → SeqAt.EqAt A s u v true :=
  DVs.rec (motive_1 := fun u d _ => EqV s u d) (motive_2 := fun us ds _ => EqVs s us ds) (fun v A hv _ => by cases hv; exact SeqAt.EqAt.same _) eqV_int eqV_str eqV_bytes eqV_tup (fun _ _ _ _ j _ _ h1 => absurd h1 (Nat.not_lt_zero j)) (fun _ _ a b => eqVs_cons a b) H vs A K hu
section
variable {w : World} {A : Around} {h g : Heap} {env : Env}
theorem d_tne {a b : Addr} {vs us : List Value} {ds : List PD} {P : Value → Heap → Prop} (ha : h.IsTuple a vs.toArray) (hb : h.IsTuple b us.toArray) (hs : DVs h vs ds) (ht : DVs h us ds) (hu : A.units + PD.depths ds + 2 < cLine) (k : P (.bool false) h) : W w A (compareOp .NotEq (.ref a) (.ref b)) P h :=
  W.of fun s Q e q => by
    subst e
    have z := hs.length
    have z' := ht.length
    refine SeqAt.RcNeAt.tuples (A := A) (e := fun _ => true) ha hb (by omega) (fun j h1 h2 => DVs.eq hs ht (A := A.in1) (by show A.units + 1 + _ < _; omega) j _ _ (by simpa using h1) (by simpa using h2) (by simp) (by simp)) _ _ _ _ ?_
    have : (!((List.range (min vs.toArray.size us.toArray.size)).all (fun _ => true) && vs.toArray.size == us.toArray.size)) = false := by simp; omega
    rw [this]; exact q _ _ s.toks k
theorem d_leq {a b : Addr} {vs us : List Value} {ds : List PD} {P : Value → Heap → Prop} (ha : h.IsList a vs.toArray) (hb : h.IsList b us.toArray) (hs : DVs h vs ds) (ht : DVs h us ds) (hu : A.units + PD.depths ds + 2 < cLine) (k : P (.bool true) h) : W w A (compareOp .Eq (.ref a) (.ref b)) P h :=
  W.of fun s Q e q => by
    subst e
    have z := hs.length
    have z' := ht.length
    refine SeqAt.eq_listAt (A := A) (e := fun _ => true) ha hb (by simp; omega) (by omega) (fun j h1 h2 => DVs.eq hs ht (A := A.in1) (by show A.units + 1 + _ < _; omega) j _ _ (by simpa using h1) (by simpa using h2) (by simp) (by simp)) ?_
    have : (List.range vs.toArray.size).all (fun _ => true) = true := by simp
    rw [this]; exact q _ _ s.toks k
end
end Mine
end

section
open PySem PySem.W PySem.Calls PyProof.Rows
set_option Elab.async false
set_option linter.all false
namespace Mine

section
variable {w : World} {A : Around} {h g : Heap} {env : Env} {L : Addr} {l : Loc} {led : Led} {ks : List (List Nat × NameKind)} {cs : List (List Nat × Addr)}
inductive TurnE (g : Heap) (L : Addr) (prot : Led) (J : Loc → Led → Prop) (h' : Heap) : Prop
  | mk (l' : Loc) (led' : Led) (S : St g L h' l' (prot ++ led')) (j : J l' led')
def TurnEnd (g : Heap) (L : Addr) (prot : Led) (J : Loc → Led → Prop) (P : Flow → Heap → Prop) : Flow → Heap → Prop
  | .ret v, h' => P (.ret v) h'
  | .brk, h' => P .next h'
  | _, h' => TurnE g L prot J h'
inductive ForAt (w : World) (A : Around) (g : Heap) (L : Addr) (kx : List Nat) (body : Heap → (Flow → Heap → Prop) → Prop) (P : Flow → Heap → Prop) (it : Value) (h2 : Heap) : Prop
  | mk (I : Addr) (n : Nat) (Pt : Nat → Value → Prop) (StI : Nat → Heap → Prop) (rest : Led) (l : Loc) (led : Led) (oI : Obj) (J : Nat → Loc → Led → Prop)
    (e : it = .ref I) (live : ∀ i h, StI i h → ∃ o, h.get? I = some o) (Wk : Walks PG w A I (I :: rest.map (·.1)) [I] n Pt StI) (st0 : StI 0 h2) (S : St g L h2 l ((I, oI) :: rest ++ led)) (j0 : J 0 l led)
    (step : ∀ i v l led oI h, i < n → Pt i v → J i l led → St g L h ((kx, v) :: l) ((I, oI) :: rest ++ led) → body h (TurnEnd g L ((I, oI) :: rest) (J (i + 1)) P))
    (done : ∀ l led h, J n l led → St g L h l (rest ++ led) → P .next h)

theorem St.keepBut {I : Addr} {oI : Obj} (S : St g L h l ((I, oI) :: led)) {h' : Heap} (hk : ∀ b o, b ∉ [I] → h.get? b = some o → h'.get? b = some o) : St g L h' l led := by
  have hI := S.N (I, oI) (.head _)
  have D := S.D
  rw [List.map_cons, List.nodup_cons] at D
  have kk : ∀ b o, b ≠ I → h.get? b = some o → h'.get? b = some o := fun b o hb => hk b o (by simpa using hb)
  obtain ⟨oL, eL, HL⟩ := S.fr
  exact ⟨⟨oL, kk _ _ (Ne.symm hI.2.1) eL, HL⟩, fun b o e => kk b o (fun z => by rw [z] at e; rw [show g.get? I = none from hI.2.2] at e; cases e) (S.keep b o e), S.hL,
    fun p hp => ⟨kk _ _ (fun z => D.1 (List.mem_map.mpr ⟨p, hp, z⟩)) (S.N p (.tail _ hp)).1, (S.N p (.tail _ hp)).2⟩, D.2⟩

theorem St.again {I : Addr} {oI oI' : Obj} (S : St g L h l ((I, oI) :: led)) {h' : Heap} {l' : Loc} (S' : St g L h' l' led) (hI : h'.get? I = some oI') : St g L h' l' ((I, oI') :: led) :=
  ⟨S'.fr, S'.keep, S'.hL, fun p hp => by
    rcases List.mem_cons.mp hp with rfl | hp
    · exact ⟨hI, (S.N (I, oI) (.head _)).2⟩
    · exact S'.N p hp, S.D⟩

inductive FoInv (g : Heap) (L I : Addr) (rest : Led) (n : Nat) (StI : Nat → Heap → Prop) (J : Nat → Loc → Led → Prop) (s : Shared) (m : Nat) (s' : Shared) : Prop
  | mk (i : Nat) (h' : Heap) (tk : Nat) (l : Loc) (led : Led) (oI : Obj) (e : s' = { s with heap := h', toks := tk }) (hi : i ≤ n) (hm : m = n + 1 - i) (st : StI i h') (S : St g L h' l ((I, oI) :: rest ++ led)) (hj : J i l led)
theorem w_for (e : EnvF env L ks cs) {x : Str} {px pos : Pos} {iter : Expr} {body : List Stmt} {kx : List Nat} {P : Flow → Heap → Prop} (hx : key x = kx) (hkx : ks.lookup kx = some .local)
    (k : W w A (eval iter env) (K1 w A pyIter (ForAt w A g L kx (fun h Q => W w A (execs body env) Q h) P)) h)
    (hs : ∀ x, foldedSetIterable iter env x = pure x) : W w A (exec (.For (.Name x px) iter body [] pos) env) P h :=
  W.of fun s Q hs' q => by
    refine wpAny_For (k.use hs' fun xv h1 tk hp => hp.use rfl fun it h2 tk2 hf => ?_) hs
    obtain ⟨I, n, Pt, StI, rest, l, led, oI, J, rfl, live, Wk, hst, S, j0, step, done⟩ := hf
    refine codeAny_forLoop
      (FoInv g L I rest n StI J s) ?_ (n + 1)
      ⟨0, h2, tk2, l, led, oI, rfl, Nat.zero_le _, rfl, hst, S, j0⟩
    rintro m s' ⟨i, h', tk', l, led, oI, rfl, hi, rfl, hst', S', hj⟩
    by_cases hlt : i < n
    · refine Wk.item i _ _ _ hlt hst' fun v h₁ tk₁ hP hst₁ hk₁ => ?_
      obtain ⟨oI', hI⟩ := live _ _ hst₁
      have S₁ := S'.again (S'.keepBut hk₁) hI
      refine wpAny_assign_Name (W.use (w_store e S₁ hx hkx (P := fun _ h2 => St g L h2 ((kx, v) :: l) ((I, oI') :: rest ++ led)) fun h' S2 => S2) rfl fun _ h₂ tk₂ S₂ => ?_)
      have hst₂ : StI (i + 1) h₂ := Wk.frame _ _ _ hst₁ fun b hb o eo => by
        have hb' : ∃ ob, (b, ob) ∈ (I, oI') :: rest ++ led := by
          rcases List.mem_cons.mp hb with rfl | hb
          · exact ⟨oI', .head _⟩
          · obtain ⟨p, hp, rfl⟩ := List.mem_map.mp hb
            exact ⟨p.2, List.mem_append_left _ (.tail _ hp)⟩
        obtain ⟨ob, hm⟩ := hb'
        have e1 := S₁.get hm
        have e2 := S₂.get hm
        rw [eo] at e1; cases e1; exact e2
      refine W.use (step i v l led oI' h₂ hlt hP hj S₂) rfl fun f h₃ tk₃ ht => ?_
      have fin : TurnE g L ((I, oI') :: rest) (J (i + 1)) h₃ → ∃ m, m < n + 1 - i ∧ FoInv g L I rest n StI J s m ({ s with heap := h₃, toks := tk₃ } : Shared) := by
        rintro ⟨l', led', S₃, hj'⟩
        refine ⟨n + 1 - (i + 1), by omega, i + 1, h₃, tk₃, l', led', oI', rfl, hlt, rfl, ?_, S₃, hj'⟩
        refine Wk.frame _ _ _ hst₂ fun b hb o eo => ?_
        rcases List.mem_cons.mp hb with rfl | hb
        · have e1 := S₂.get (List.Mem.head _); rw [eo] at e1; cases e1; exact S₃.get (List.Mem.head _)
        · obtain ⟨p, hp, rfl⟩ := List.mem_map.mp hb
          have e1 := S₂.get (List.mem_append_left led (List.Mem.tail _ hp)); rw [eo] at e1; cases e1
          exact S₃.get (List.mem_append_left led' (List.Mem.tail _ hp))
      cases f with
      | next => exact fin ht
      | cont => exact fin ht
      | brk => exact q _ _ _ ht
      | ret v => exact q _ _ _ ht
    · have : i = n := by omega
      subst this
      refine Wk.done _ _ _ hst' fun h₁ tk₁ hk₁ => wpAny_execs_nil ?_
      exact q _ _ _ (done l led h₁ hj (S'.keepBut hk₁))
end
end Mine
end

section
open PySem PySem.W PySem.Calls PyProof.Rows
set_option Elab.async false
set_option linter.all false
namespace Mine
abbrev tupO (vs : List Value) : Obj := { cls := .type "tuple", data := .seq vs.toArray }
theorem tupO_at {h : Heap} {a : Addr} {vs : List Value} (e : h.get? a = some (tupO vs)) : h.IsTuple a vs.toArray := ⟨_, e, rfl, 0, rfl⟩

section
variable {w : World} {A : Around} {h g : Heap} {env : Env} {L : Addr} {l : Loc} {led : Led} {ks : List (List Nat × NameKind)} {cs : List (List Nat × Addr)} {c a : Addr} {oc : Obj} {vs : List Value} {G : Obj → Led}

theorem m_list {name : Str} {id : String} {pl : Sem Bool} {P : Value × List Value → Heap → Prop} (S : St g L h l led) (m : (c, oc) ∈ led) (H : IsL vs oc) (sl : Slot "list" name id) (ty : typeOf (.builtin id) = pure (.type "method_descriptor"))
    (k : P (.builtin id, [.ref c]) h) : W w A (getMethod (.ref c) name pl) P h :=
  W.of fun s Q hs q => by
    subst hs
    obtain ⟨n, rfl⟩ := H
    exact getMethod_builtin ⟨_, S.get m, rfl⟩ PySem.F.plainAttrs_list sl ty (fun a e => by cases e; exact ⟨_, S.get m, rfl⟩) (q _ _ s.toks k)
theorem m_append {pl : Sem Bool} {P : Value × List Value → Heap → Prop} (S : St g L h l led) (m : (c, oc) ∈ led) (H : IsL vs oc) (k : P (.builtin "list.append", [.ref c]) h) : W w A (getMethod (.ref c) (Str.ofString "append") pl) P h :=
  m_list S m H PySem.F.slot_list_append PySem.F.type_list_append k
theorem m_clear {pl : Sem Bool} {P : Value × List Value → Heap → Prop} (S : St g L h l led) (m : (c, oc) ∈ led) (H : IsL vs oc) (k : P (.builtin "list.clear", [.ref c]) h) : W w A (getMethod (.ref c) (Str.ofString "clear") pl) P h :=
  m_list S m H PySem.F.slot_list_clear PySem.F.type_list_clear k
theorem m_pop {pl : Sem Bool} {P : Value × List Value → Heap → Prop} (S : St g L h l led) (m : (c, oc) ∈ led) (H : IsL vs oc) (k : P (.builtin "list.pop", [.ref c]) h) : W w A (getMethod (.ref c) (Str.ofString "pop") pl) P h :=
  m_list S m H PySem.F.slot_list_pop PySem.F.type_list_pop k
theorem t_item (S : St g L h l led) (m : (a, tupO vs) ∈ led) {value slice : Expr} {i : Int} {u : Tok} {v : Value} {P : Value → Heap → Prop} (h0 : 0 ≤ i) (h1 : i < 2 ^ 63) (hv : vs[i.toNat]? = some v) (k : P v h)
    (hs : subscripted slice false (.ref a) (.int i u) = operate [.ref a, .int i u] (getItem (.ref a) (.int i u))) : W w A (subscriptTail value slice (.ref a) (.int i u)) P h :=
  W.of fun s Q hs' q => by
    subst hs'
    have hlt : i.toNat < vs.length := by
      rcases Nat.lt_or_ge i.toNat vs.length with x | x
      · exact x
      · rw [List.getElem?_eq_none x] at hv; cases hv
    refine tail_any (T := "tuple") ⟨_, S.get m, rfl⟩ slot_tuple_getitem.lookup (PyProof.Rows.getItem_tuple (j := i.toNat) ⟨_, S.get m, rfl, 0, rfl⟩ (by omega) h1 ?_ (by simpa using hv) (q _ _ s.toks k)) hs
    unfold seqIndex?
    simp
    omega
theorem t_unpack (S : St g L h l led) (hA : A.handled = none) (m : (a, tupO vs) ∈ led) {elts : List Expr} {n : Nat} {pos : Pos} {P : Unit → Heap → Prop} (hn : (assignEach elts env).length = vs.length) (hstar : (assignEach elts env).findIdx? (·.1) = none)
    (k : ∀ h', St g L h' l led → W w A (assignInOrder ((assignEach elts env).map (·.2)) vs) P h') : W w A (assign (.Tuple elts n pos) env (.ref a)) P h :=
  W.of fun s Q hs q => by
    subst hs
    refine assign_Tuple_tuple hA (tupO_at (S.get m)) (by simpa using hn) hstar fun h' he => ?_
    refine W.use (k h' (S.grow fun b o e => he b o (Nat.ne_of_lt (Heap.lt_size e)) e)) rfl ?_
    exact q
theorem t_items (S : St g L h l led) (hA : A.handled = none) (m : (a, tupO vs) ∈ led) {n : Nat} {P : List Value → Heap → Prop} (hn : n = vs.length)
    (k : ∀ h', St g L h' l led → P vs h') : W w A (unpackItems (.ref a) n none) P h :=
  W.of fun s Q hs q => by
    subst hs hn
    rw [show vs.length = vs.toArray.size by simp]
    refine wpAny_unpackItems_tuple hA (tupO_at (S.get m)) fun h' he => ?_
    have := q vs h' s.toks (k h' (S.grow fun b o e => he b o (Nat.ne_of_lt (Heap.lt_size e)) e))
    simpa using this
inductive SV : List Value → List (List Nat) → Prop
  | nil : SV [] []
  | cons {x t k vs ks} : key x = k → SV vs ks → SV (.str x t :: vs) (k :: ks)
theorem SV.any {vs : List Value} {qs : List (List Nat)} (H : SV vs qs) (k : List Nat) : vs.any (fun v => match v with | .str y _ => decide (key y = k) | _ => false) = qs.any (fun q => decide (q = k)) := by
  induction H with
  | nil => rfl
  | @cons x t k' vs' qs' e r ih => rw [List.any_cons, List.any_cons, ih, ← e]
theorem SV.str {vs : List Value} {qs : List (List Nat)} (H : SV vs qs) : ∀ v ∈ vs, ∃ x t, v = .str x t := by
  induction H with
  | nil => intro v hv; cases hv
  | cons _ _ ih =>
    intro v hv
    rcases List.mem_cons.mp hv with rfl | hv
    · exact ⟨_, _, rfl⟩
    · exact ih v hv
theorem t_in (S : St g L h l led) (e : h.IsTuple a vs.toArray) {qs : List (List Nat)} (H : SV vs qs) {x : Str} {t : Tok} {k : List Nat} {P : Value → Heap → Prop} (hx : key x = k) (kk : P (.bool (qs.any fun q => decide (q = k))) h) : W w A (compareOp .In (.str x t) (.ref a)) P h :=
  W.of fun s Q hs q => by
    subst hs
    refine SeqAt.in_tupleAt (fun v => match v with | .str y _ => decide (key y = k) | _ => false) e (fun y hy => ?_) ?_
    · obtain ⟨z, u, rfl⟩ := H.str y (by simpa using hy)
      have := (eqGives_str z x u t).at A.in1 s
      rw [str_eq, hx] at this
      exact this
    · have : vs.toArray.any (fun v => match v with | .str y _ => decide (key y = k) | _ => false) = qs.any fun q => decide (q = k) := by
        rw [← H.any k, List.any_toArray]
      rw [this]; exact q _ _ s.toks kk
theorem t_notin (S : St g L h l led) (e : h.IsTuple a vs.toArray) {qs : List (List Nat)} (H : SV vs qs) {x : Str} {t : Tok} {k : List Nat} {P : Value → Heap → Prop} (hx : key x = k) (kk : P (.bool (!qs.any fun q => decide (q = k))) h) : W w A (compareOp .NotIn (.str x t) (.ref a)) P h :=
  W.of fun s Q hs q => by
    subst hs
    refine SeqAt.notIn_tupleAt (fun v => match v with | .str y _ => decide (key y = k) | _ => false) e (fun y hy => ?_) ?_
    · obtain ⟨z, u, rfl⟩ := H.str y (by simpa using hy)
      have := (eqGives_str z x u t).at A.in1 s
      rw [str_eq, hx] at this
      exact this
    · have : vs.toArray.any (fun v => match v with | .str y _ => decide (key y = k) | _ => false) = qs.any fun q => decide (q = k) := by
        rw [← H.any k, List.any_toArray]
      rw [this]; exact q _ _ s.toks kk
theorem w_truthy_int {i : Int} {t : Tok} {P : Bool → Heap → Prop} (k : P (i != 0) h) : W w A (truthy (.int i t)) P h := W.of fun s Q hs q => PyProof.Rows.truthy_int (by subst hs; exact q _ _ s.toks k)
end
end Mine
end

section
open PySem PySem.W PySem.Calls PyProof.Rows
set_option Elab.async false
set_option linter.all false
namespace Mine
section
variable {w : World} {A : Around} {h g : Heap} {env : Env} {α : Type}
theorem gd_newtuple {vs : List Value} {P : Value → Heap → Prop} (k : W w A (newTuple vs) P h) : W w A (newTuple vs) P h := k
theorem gd_newlist {vs : List Value} {P : Value → Heap → Prop} (k : W w A (newList vs) P h) : W w A (newList vs) P h := k
theorem w_callB1 {id : String} {pos : Pos} {e : Expr} {rest : List Expr} {P : Value → Heap → Prop} (k : W w A (spliced (backTo pos (starEach (e :: rest) env))) (K1 w A (fun vs => call (.builtin id) vs) P) h)
    (he : starEach (e :: rest) env = (false, eval e env) :: starEach rest env) (hplain : (backTo pos (starEach rest env)).any (·.1) = false) : W w A (callWith pos (.builtin id) [] (backTo pos (starEach (e :: rest) env)) []) P h := w_callB k he hplain
theorem w_callB2 {id : String} {x : Value} {pos : Pos} {e : Expr} {rest : List Expr} {P : Value → Heap → Prop} (k : W w A (spliced (backTo pos (starEach (e :: rest) env))) (K1 w A (fun vs => call (.builtin id) (x :: vs)) P) h)
    (he : starEach (e :: rest) env = (false, eval e env) :: starEach rest env) (hplain : (backTo pos (starEach rest env)).any (·.1) = false) : W w A (callWith pos (.builtin id) [x] (backTo pos (starEach (e :: rest) env)) []) P h := w_callB k he hplain
theorem s_callK1 {f : Value} {pos : Pos} {e : Expr} {rest : List Expr} {P : Value → Heap → Prop} (hk : keepIn (Mine.hd.heap_39 w.params) f = true)
    (k : W w A (spliced (backTo pos (starEach (e :: rest) env))) (fun vs h1 => (Mine.hd.heap_39 w.params).In h1 ∧ W w A (call f vs) P h1) h)
    (he : starEach (e :: rest) env = (false, eval e env) :: starEach rest env) (hplain : (backTo pos (starEach rest env)).any (·.1) = false) : W w A (callWith pos f [] (backTo pos (starEach (e :: rest) env)) []) P h := s_callK hk k he hplain
theorem s_callK2 {f x : Value} {pos : Pos} {e : Expr} {rest : List Expr} {P : Value → Heap → Prop} (hk : keepIn (Mine.hd.heap_39 w.params) f = true)
    (k : W w A (spliced (backTo pos (starEach (e :: rest) env))) (fun vs h1 => (Mine.hd.heap_39 w.params).In h1 ∧ W w A (call f (x :: vs)) P h1) h)
    (he : starEach (e :: rest) env = (false, eval e env) :: starEach rest env) (hplain : (backTo pos (starEach rest env)).any (·.1) = false) : W w A (callWith pos f [x] (backTo pos (starEach (e :: rest) env)) []) P h := s_callK hk k he hplain
theorem s_callK01 {L : Addr} {l : Loc} {led : Led} (S : St g L h l led) (G : Gd w g) {f x : Value} {pos : Pos} {P : Value → Heap → Prop} (hk : keepIn (Mine.hd.heap_39 w.params) f = true) (k : W w A (call f [x]) P h) : W w A (callWith pos f [x] (backTo pos (starEach [] env)) []) P h := s_callK0 S G hk k
theorem s_callK00 {L : Addr} {l : Loc} {led : Led} (S : St g L h l led) (G : Gd w g) {f : Value} {pos : Pos} {P : Value → Heap → Prop} (hk : keepIn (Mine.hd.heap_39 w.params) f = true) (k : W w A (call f []) P h) : W w A (callWith pos f [] (backTo pos (starEach [] env)) []) P h := s_callK0 S G hk k
theorem gd_triv {p : Prop} (k : p) : (match Value.none with | .ref _ => False | _ => True) ∧ p := ⟨trivial, k⟩
theorem gd_br {b : Bool} {p q : Prop} (k : (b = true → p) ∧ (b = false → q)) : (b = true → p) ∧ (b = false → q) := k
end
end Mine
end

section
open PySem PySem.W PySem.Calls PyProof.Rows
set_option Elab.async false
set_option linter.all false
namespace Mine
def Cd (w : World) (A : Around) (f : Addr) (args : List Value) (P : Value → Heap → Prop) (h : Heap) : Prop :=
  ∀ s : Shared, s.heap = h → ∀ R : Result → Shared → Prop, (∀ v h' tk, P v h' → R (.ok (.ret v)) { s with heap := h', toks := tk }) → codeAny (model PG w) A (.call (.ref f) ⟨args, []⟩) R s
theorem Amb.make {A : Around} {n : Nat} (h : Amb A (n + 1)) (C : Addr) (vals : List Value) : Amb (A.under (.builtin "type.__call__" ⟨.ref C :: vals, []⟩)) n := by
  refine ⟨?_, ?_, h.handled⟩
  · have := h.depth; rw [depth_under_make]; omega
  · have := h.units
    have e : (A.under (.builtin "type.__call__" ⟨.ref C :: vals, []⟩)).units = A.units + (Code.builtin "type.__call__" ⟨.ref C :: vals, []⟩).cUnits := rfl
    have e2 : (Code.builtin "type.__call__" ⟨.ref C :: vals, []⟩).cUnits ≤ 10 := by
      show 1 + 3 * (Code.builtin "type.__call__" ⟨.ref C :: vals, []⟩).frames ≤ 10
      have : (Code.builtin "type.__call__" ⟨.ref C :: vals, []⟩).frames ≤ 1 := Nat.le_of_ble_eq_true (by kernel_rfl!)
      omega
    omega
section
variable {w : World} {A : Around} {h g : Heap} {env : Env} {L : Addr} {l l₁ : Loc} {led fp rest : Led} {ks : List (List Nat × NameKind)} {cs : List (List Nat × Addr)} {P : Value → Heap → Prop}
theorem w_ofC {f : Addr} {pos : List Value} (H : Cd w A f pos P h) : W w A (call (.ref f) pos) P h :=
  W.of fun s Q hs q => wpAny_call (H s hs _ fun v h' tk hp => q v h' tk hp)
theorem w_class (S : St g L h l led) (G : Gd w g) {C f : Addr} {n : Nat} (hA : Amb A (n + 1)) (a : ClsOK (Mine.hd.heap_39 w.params) C f) {pos : List Value}
    (k : ∀ x dx h' A', Amb A' n → St g L h' l ((x, instObj C dx) :: (dx, dictOf [] 0) :: led) → Cd w A' f (.ref x :: pos) (fun v h2 => v = .none ∧ P (.ref x) h2) h') : W w A (call (.ref C) pos) P h :=
  W.of fun s Q hs q => by
    obtain ⟨hh, gg, d, t, os⟩ := s
    dsimp only at hs
    subst hs
    refine wpAny_call (make_core (makes_of (G.X.keeps S.keep) a.makes) (looks_findIn (G.X.keeps S.keep) a.init) (fun self => bind_fn (G.X.keeps S.keep) self (beq_iff_eq.mp a.is)) (.inl rfl) ?_)
    have S' := (S.push emptyDict).push (instObj C hh.objs.size)
    rw [Heap.size_push] at S'
    refine k (hh.objs.size + 1) hh.objs.size _ _ (hA.make C pos) S' _ rfl _ ?_
    rintro v h' tk ⟨rfl, hp⟩
    exact ⟨rfl, q _ _ _ hp⟩
theorem c_def {name qual : Str} {params : Arguments} {body : List Stmt} {scope : Scope} {dV kV doc pm cdv ct oc : Value} {an od : Option Addr} {osl : Array (Option Value)} {f : Addr} {pos : List Value} {binds : List (Str × Value)} {n : Nat}
    (S : St g L h l led) (G : Gd w g) (hA : Amb A (n + 1)) (H : Pk fp led rest)
    (ho : (Mine.hd.heap_39 w.params).lookup f = some ⟨oc, od, .func (fnOf name qual params body scope dV kV doc pm an cdv ct), osl⟩) (hcd : codeIn (Mine.hd.heap_39 w.params) cdv qual = true)
    (hbind : ∀ s : Shared, s.heap = h → BindsTo s (fnOf name qual params body scope dV kV doc pm an cdv ct) ⟨pos, []⟩ binds) (hloc : ∀ y ∈ binds, scope.names.lookup y.1 = some .local)
    (hks : scope.names.map (fun p => (key p.1, p.2)) = ks) (hl : binds.reverse.map (fun p => (key p.1, p.2)) = l₁)
    (k : ∀ g' L' h₁ env A', Amb A' n → EnvF env L' ks [] → St g' L' h₁ l₁ fp → Gd w g' →
      ∀ R : Flow → Heap → Prop, (∀ fl h', BodyEnd g' g L l rest P fl h' → R fl h') → W w A' (execs body env) R h₁)
    (hcell : ∀ x ∈ scope.names, x.2 ≠ .cell) (hco : scope.isCoroutine = false) (hgen : scope.isGenerator = false) (hk : scope.kind = .function)
     : Cd w A f pos P h := fun s hs Q q => by
    subst hs
    obtain ⟨g', rfl, G', -, mk, back⟩ := call_St S H G
    have XS := G.X.keeps S.keep
    obtain ⟨_, _, _, _, T⟩ := G.T
    refine codeAny_call_def (fd := fnOf name qual params body scope dV kV doc pm an cdv ct) (body := body) (binds := binds) hA.room (XS _ _ ho) rfl (T.nolimit.keeps S.keep) (codeRec_of XS hcd) rfl (hbind s rfl) hcell hloc (fun h₁ hns hk₁ => ?_) hco hgen hk
    refine wpAny_mono (W.use (k _ _ h₁ (envOf qual scope s.heap.objs.size f cdv) _ (hA.deeper _) ⟨hk, rfl, rfl, rfl, hks, rfl⟩ (mk _ _ _ rfl (locO_of hns fun x v e => by rw [← hl, lookup_names] at e; exact e) hk₁) G' _ fun _ _ z => z) rfl
      (Q := fun fl s' => Q (.ok (.ret (ValOf fl))) s') (E := fun _ _ => False) fun fl h' tk he => ?_) (fun fl s' hl => ?_) fun _ _ y => y.elim
    · obtain ⟨L1, l1, led1, S1, kk⟩ := he
      exact q _ _ _ (kk (back _ _ _ _ S1))
    · cases fl <;> exact hl

theorem bindL_lookup {kindOf : Str → Option NameKind} : ∀ (binds : List (Str × Value)) (m : Str → Option Value) {x : Str} {v : Value},
    (binds.filter fun y => decide (kindOf y.1 = some .local)).reverse.lookup x = some v → bindL kindOf binds m x = some v := by
  intro binds
  have gen : ∀ (binds : List (Str × Value)) (m : Str → Option Value) (acc : List (Str × Value)) {x : Str} {v : Value}, (∀ {x v}, acc.lookup x = some v → m x = some v) →
      ((binds.filter fun y => decide (kindOf y.1 = some .local)).reverse ++ acc).lookup x = some v → bindL kindOf binds m x = some v := by
    intro binds
    induction binds with
    | nil => intro m acc x v hm e; exact hm (by simpa using e)
    | cons p r ih =>
      obtain ⟨n, u⟩ := p
      intro m acc x v hm e
      unfold bindL
      by_cases hk : kindOf n = some .local
      · rw [if_pos hk]
        rw [List.filter_cons, if_pos (by simpa using hk), List.reverse_cons, List.append_assoc] at e
        refine ih _ ((n, u) :: acc) (fun {y z} ez => ?_) e
        rw [List.lookup_cons] at ez
        by_cases hy : y = n
        · subst hy; simp at ez; simp [ez]
        · have : (y == n) = false := beq_eq_false_iff_ne.mpr hy
          rw [this] at ez; simp [hy, hm ez]
      · rw [if_neg hk]
        rw [List.filter_cons, if_neg (by simpa using hk)] at e
        exact ih _ acc hm e
  intro m x v e
  exact gen binds m [] (fun z => by cases z) (by simpa using e)
inductive CellsX (m : Str → Option Value) : List Str → List (List Nat × Addr) → Led → Prop
  | nil : CellsX m [] [] []
  | cons {n c o ns cs led} : IsC (m n) o → CellsX m ns cs led → CellsX m (n :: ns) ((key n, c) :: cs) ((c, o) :: led)
theorem cellsX_of {m : Str → Option Value} {cl : List (Str × Addr)} {cells : Led} (H : CellsAre m cl cells) : CellsX m (cl.map (·.1)) (cl.map fun p => (key p.1, p.2)) cells := by
  induction H with
  | nil => exact .nil
  | cons e _ ih => exact .cons e ih
theorem CellsX.one {m : Str → Option Value} {n : Str} {cs cells} (H : CellsX m [n] cs cells) : ∃ c o, cs = [(key n, c)] ∧ cells = [(c, o)] ∧ IsC (m n) o := by
  cases H with | cons e r => cases r; exact ⟨_, _, rfl, rfl, e⟩
theorem CellsX.two {m : Str → Option Value} {n n' : Str} {cs cells} (H : CellsX m [n, n'] cs cells) : ∃ c c' o o', cs = [(key n, c), (key n', c')] ∧ cells = [(c, o), (c', o')] ∧ IsC (m n) o ∧ IsC (m n') o' := by
  cases H with | cons e r => obtain ⟨c', o', rfl, rfl, e'⟩ := r.one; exact ⟨_, _, _, _, rfl, rfl, e, e'⟩
theorem CellsX.three {m : Str → Option Value} {n n' n'' : Str} {cs cells} (H : CellsX m [n, n', n''] cs cells) : ∃ c c' c'' o o' o'', cs = [(key n, c), (key n', c'), (key n'', c'')] ∧ cells = [(c, o), (c', o'), (c'', o'')] ∧ IsC (m n) o ∧ IsC (m n') o' ∧ IsC (m n'') o'' := by
  cases H with | cons e r => obtain ⟨c', c'', o', o'', rfl, rfl, e', e''⟩ := r.two; exact ⟨_, _, _, _, _, _, rfl, rfl, e, e', e''⟩
theorem c_defC {name qual : Str} {params : Arguments} {body : List Stmt} {scope : Scope} {dV kV doc pm cdv ct oc : Value} {an od : Option Addr} {osl : Array (Option Value)} {f : Addr} {pos : List Value} {binds bl : List (Str × Value)} {n : Nat} {ns : List Str} {m : Str → Option Value}
    (S : St g L h l led) (G : Gd w g) (hA : Amb A (n + 1)) (H : Pk fp led rest)
    (ho : (Mine.hd.heap_39 w.params).lookup f = some ⟨oc, od, .func (fnOf name qual params body scope dV kV doc pm an cdv ct), osl⟩) (hcd : codeIn (Mine.hd.heap_39 w.params) cdv qual = true)
    (hbind : ∀ s : Shared, s.heap = h → BindsTo s (fnOf name qual params body scope dV kV doc pm an cdv ct) ⟨pos, []⟩ binds)
    (hkind : (binds.all fun y => scope.names.lookup y.1 == some .local || scope.names.lookup y.1 == some .cell) = true)
    (hnd : ((cellsFrom 0 scope.names []).map (·.1)).Nodup)
    (hks : scope.names.map (fun p => (key p.1, p.2)) = ks) (hbl : (binds.filter fun y => decide (scope.names.lookup y.1 = some .local)) = bl) (hl : bl.reverse.map (fun p => (key p.1, p.2)) = l₁)
    (hns : (cellsFrom 0 scope.names []).map (·.1) = ns) (hm : bindC (fun x => scope.names.lookup x) binds (fun _ => none) = m)
    (k : ∀ g' L' h₁ env A' cs cells, CellsX m ns cs cells → Amb A' n → EnvF env L' ks cs → St g' L' h₁ l₁ (cells ++ fp) → Gd w g' →
      ∀ R : Flow → Heap → Prop, (∀ fl h', BodyEnd g' g L l rest P fl h' → R fl h') → W w A' (execs body env) R h₁)
    (hco : scope.isCoroutine = false) (hgen : scope.isGenerator = false) (hk : scope.kind = .function)
     : Cd w A f pos P h := fun s hs Q q => by
    subst hs
    obtain ⟨g', rfl, G', gk, mk, back⟩ := call_St S H G
    have XS := G.X.keeps S.keep
    obtain ⟨_, _, _, _, T⟩ := G.T
    refine codeAny_call_function hA.room (XS _ _ ho) rfl hco hgen rfl (codeRec_of XS hcd) (hbind s rfl _ _ _ _ ?_)
    refine wpAny_newFunctionEnv_cells hk (kindsX hkind _) fun env' he s' x => ?_
    subst he
    refine ⟨(T.nolimit.keeps S.keep).keeps x.toInCall.keep, codeAny_func ?_⟩
    obtain ⟨h₁, tk, rfl, _⟩ := x.done
    have hk₁ := x.toInCall.keep
    obtain ⟨cells, NC, Y⟩ := Cl.news (h₀ := s.heap) (Nat.le_refl _) fun n c hm => ⟨x.cell n c (lookup_of_mem_nodup (cellsFrom_names scope.names 0 (s.heap.objs.size + 1) [] [] rfl ▸ hnd) hm), x.above n c hm⟩
    have S₁ := mk s.heap.objs.size h₁ l₁ rfl (locO_of x.toInCall.ns fun y v e => by rw [← hl, lookup_names, ← hbl] at e; exact bindL_lookup binds _ e) hk₁
    have nodupC : (cells.map (·.1)).Nodup := by
      have ap := x.apart
      have : ∀ {cl : List (Str × Addr)} {cells : Led} {m : Str → Option Value}, CellsAre m cl cells → cells.map (·.1) = cl.map (·.2) := by
        intro cl cells m Y
        induction Y with
        | nil => rfl
        | cons _ _ ih => rw [List.map_cons, List.map_cons, ih]
      rw [this Y]
      refine List.pairwise_map.mpr ?_
      exact ap
    have S₂ : St (hideAll s.heap (fp.map (·.1))) s.heap.objs.size h₁ l₁ (cells ++ fp) := by
      refine ⟨S₁.fr, S₁.keep, S₁.hL, fun p hp => ?_, ?_⟩
      · rcases List.mem_append.mp hp with hp | hp
        · refine ⟨(NC p hp).1, (NC p hp).2.1, ?_⟩
          cases q : (hideAll s.heap (fp.map (·.1))).get? p.1 with
          | none => rfl
          | some o => have := of_hideAll _ q; rw [(NC p hp).2.2] at this; cases this
        · exact S₁.N p hp
      · rw [List.map_append, List.nodup_append]
        refine ⟨nodupC, S₁.D, fun a ha b hb z => ?_⟩
        subst z
        obtain ⟨p, hp, rfl⟩ := List.mem_map.mp ha
        obtain ⟨r, hr, z⟩ := List.mem_map.mp hb
        have e1 := (NC p hp).2.2
        have e2 := (S.pk H).get (List.mem_append_left _ hr)
        rw [z] at e2
        have e3 : s.heap.get? p.1 = none := e1
        rw [e3] at e2; cases e2
    have en : (cellsFrom (s.heap.objs.size + 1) scope.names []).map (·.1) = ns := by rw [← hns]; exact cellsFrom_names _ _ _ _ _ rfl
    have Z : CellsX m ns ((cellsFrom (s.heap.objs.size + 1) scope.names []).map fun p => (key p.1, p.2)) cells := by rw [← hm, ← en]; exact cellsX_of Y
    refine wpAny_mono (W.use (k _ _ h₁ (envOfC qual scope s.heap.objs.size f cdv) _ _ cells Z (hA.deeper _) ⟨hk, rfl, rfl, rfl, hks, rfl⟩ S₂ G' _ fun _ _ z => z) rfl
      (Q := fun fl s' => Q (.ok (.ret (ValOf fl))) s') (E := fun _ _ => False) fun fl h' tk he => ?_) (fun fl s' hl => ?_) fun _ _ y => y.elim
    · obtain ⟨L1, l1, led1, S1, kk⟩ := he
      exact q _ _ _ (kk (back _ _ _ _ S1))
    · cases fl <;> exact hl
end
end Mine
end

section
open PySem PySem.W PySem.Calls PyProof.Rows
set_option Elab.async false
set_option linter.all false
set_option maxRecDepth 100000
namespace Mine
theorem bm_bytes : typeLookup (.type "bytes") "__bytes__" = pure (some (.builtin "bytes.__bytes__")) := by rw [typeLookup_type, builtinLookup_eq_fast]; kernel_rfl
section
variable {prog : Program} {w : World} {A : Around} {E : Value → Shared → Prop} {s : Shared}
theorem bm_same {b : Array UInt8} {t : Tok} {Q : Value → Shared → Prop} (hQ : ∀ t' k, Q (.bytes b t') { s with toks := k }) :
    codeAny (model prog w) A (.call (.builtin "bytes.__new__") ⟨[.type "bytes", .bytes b t], []⟩) (wants Q E) s := by
  refine codeAny_of_tree ?_
  show wpAny _ A.in1 (do checkBuiltinCall "bytes.__new__" ⟨[.type "bytes", .bytes b t], []⟩; again (.builtin "bytes.__new__" ⟨[.type "bytes", .bytes b t], []⟩)) _ _ s
  refine wpAny_bind (wpAny_of_eq (F.bm_newCall _) (wpAny_pure ⟨plainId_quiet F.bm_plain _, codeAny_builtin F.bm_entry ?_⟩))
  rw [Around.under_plainId F.bm_plain _]
  have hT : s.TypeIs (.bytes b t) "bytes" := PySem.W.typeIs_bytes _ _ _
  unfold Builtin.«bytes.__new__»
  refine wpAny_bind (wpAny_of_eq (a := true) rfl ?_)
  refine bm_if_false rfl ?_
  refine wpAny_bind (wpAny_of_eq F.bm_sub ?_)
  refine bm_if_false rfl ?_
  refine wpAny_bind (wpAny_of_eq (F.bm_bind _) ?_)
  refine wpAny_bind (wpAny_of_eq (a := ()) rfl ?_)
  refine wpAny_bind (wpAny_of_eq (a := ()) rfl ?_)
  refine bm_if_false rfl ?_
  refine wpAny_bind (wpAny_specialOf hT bm_bytes ?_)
  refine wpAny_bind (wpAny_rule ?_)
  refine wpAny_bind (wpAny_of_eq (a := .type "bytes") rfl ?_)
  refine bm_if_true (by decide) ?_
  show wpAny _ _ (if (Value.type "bytes" == Value.type "bytes") = true then _ else _) _ _ _
  refine bm_if_true (by decide) ?_
  exact wpAny_pure (hQ t s.toks)
theorem call_bytes_same {b : Array UInt8} {t : Tok} {Q : Value → Shared → Prop} (hQ : ∀ t' k, Q (.bytes b t') { s with toks := k }) : wpAny (model prog w) A (call (.type "bytes") [.bytes b t]) Q E s := by
  refine callType_codes (Q₁ := fun obj s₁ => s₁.TypeIs obj "bytes" ∧ Q obj s₁) F.bm_called (F.bm_typeCall _) F.entry_object_init
    (bm_same fun t' k => ⟨PySem.W.typeIs_bytes _ _ _, hQ t' k⟩) fun obj s₁ h₁ => ?_
  exact ⟨h₁.1, F.args_object_init_2 obj _, object_init_meets F.bm_called.init.lookup F.bm_called.made (by decide) prog w A.in1 _ s₁ ⟨h₁.1, rfl, h₁.2⟩⟩
theorem sliced_rev (b : Array UInt8) : Builtin.Bytes.sliced b ((b.size : Int) - 1) (-1) (-1) = b.toList.reverse.toArray := by
  unfold Builtin.Bytes.sliced sliceRange
  have e0 : ¬ ((-1 : Int) > 0) := by decide
  simp only [e0, if_false]
  have e1 : ((if (b.size : Int) - 1 > -1 then ((b.size : Int) - 1 - -1 - -1 - 1) / (- -1) else 0) : Int) = b.size := by
    split
    · simp only [Int.neg_neg, Int.ediv_one]; omega
    · omega
  rw [e1, Int.toNat_natCast]
  congr 1
  rw [List.filterMap_map]
  apply List.ext_getElem?
  intro i
  have hh : ∀ n, n ≤ b.size → (List.range n).filterMap ((fun x => b[x]?) ∘ fun (k : Nat) => ((b.size : Int) - 1 + -1 * (k : Int)).toNat) = b.toList.reverse.take n := by
    intro n
    induction n with
    | zero => intro _; simp
    | succ n ih =>
      intro hn
      rw [List.range_succ, List.filterMap_append, ih (by omega), List.take_add_one]
      congr 1
      have e2 : ((b.size : Int) - 1 + -1 * (n : Int)).toNat = b.size - 1 - n := by omega
      have e3 : b.toList.reverse[n]? = b[b.size - 1 - n]? := by
        rw [List.getElem?_reverse (by simp; omega)]
        simp
      rw [e3]
      simp only [List.filterMap_cons, List.filterMap_nil, Function.comp_apply, e2]
      have : b.size - 1 - n < b.size := by omega
      simp [this]
  rw [hh _ (Nat.le_refl _)]
  rw [List.take_of_length_le (by simp)]
open Builtin in
theorem meets_rev (b : Array UInt8) (t tt : Tok) (a : Addr) :
    Meets («bytes.__getitem__» ⟨[.bytes b t, .ref a], []⟩) (fun _ R s => s.heap.IsSliceOf a .none .none (.int (-1) tt) ∧ b.size ≤ sizeLine ∧ ∀ t' k, R (.ok (.ret (.bytes b.toList.reverse.toArray t'))) { s with toks := k }) := by
  refine .of_wp fun prog w A R s hS => ?_
  obtain ⟨⟨o, ho, hc, hd⟩, hsz, h⟩ := hS
  have hT : s.TypeIs (.ref a) "slice" := ⟨o, ho, hc⟩
  show wpAny _ _ (Bytes.payload (.bytes b t) >>= fun r => _) _ _ s
  refine wpAny_bind (wpAny_of_eq (a := b) rfl ?_)
  show wpAny _ _ (Bytes.subscript? (.ref a) >>= fun r => _) _ _ s
  refine wpAny_bind ?_
  unfold Bytes.subscript?
  refine wpAny_bind (wpAny_specialOf hT slice_no_index (wpAny_pure ?_))
  refine wpAny_bind (wpAny_typeOf hT ?_)
  show wpAny _ _ (Bytes.sliceParts (.ref a) >>= fun r => _) _ _ s
  refine wpAny_bind ?_
  unfold Bytes.sliceParts
  refine wpAny_bind (wpAny_field (x := .int (-1) tt) ho hd rfl ?_)
  kby_int
  refine wpAny_ite (KBy.ite_no (show ¬ ((rawInt (-1) == rawInt 0) = true) by decide) ?_)
  refine wpAny_bind (wpAny_field (x := .none) ho hd rfl ?_)
  have go : wpAny (model prog w) A.in1 (sliceIndices (rawPart none) (rawPart none) (rawPart (some (-1))) b.size) (fun r s' => r = sliceBounds none none (some (-1)) b.size ∧ s' = s) (fun _ _ => False) s :=
    wpAny_of_eq (sliceIndices_raw none none (some (-1)) b.size (by decide)) ⟨rfl, rfl⟩
  kby_none
  refine wpAny_bind (wpAny_field (x := .none) ho hd rfl ?_)
  kby_none
  refine wpAny_pure ?_
  refine wpAny_bind (wpAny_mono go (fun r s' hr => ?_) fun _ _ e => e.elim)
  obtain ⟨hr1, hr2⟩ := hr
  subst hr1 hr2
  have hb : sliceBounds none none (some (-1)) b.size = ((b.size : Int) - 1, -1, -1) := rfl
  rw [hb]
  refine wpAny_ite (KBy.ite_no (by simp) ?_)
  have hz : (Bytes.sliced b ((b.size : Int) - 1) (-1) (-1)).size ≤ sizeLine := by rw [sliced_rev]; simpa using hsz
  refine wpAny_bind (wpAny_mkBytes (wpAny_pure ⟨_, rfl, ?_⟩) hz)
  rw [sliced_rev]
  exact h _ _
end
abbrev slcO (l u st : Value) : Obj := { cls := .type "slice", data := .fields #[l, u, st] }
section
variable {w : World} {A : Around} {h g : Heap} {env : Env} {L : Addr} {l : Loc} {led : Led} {c a : Addr} {oc : Obj} {vs : List Value} {b d : Array UInt8} {t u : Tok} {value slice : Expr}
theorem b_bytes {P : Value → Heap → Prop} (k : ∀ t, P (.bytes b t) h) : W w A (call (.type "bytes") [.bytes b t]) P h :=
  W.of fun s Q hs q => call_bytes_same fun t' tk => by subst hs; exact q _ _ _ (k t')
theorem b_ofints (S : St g L h l led) (hA : A.handled = none) (m : (c, oc) ∈ led) (H : IsL vs oc) {ns : List Int} (hi : IntsAre vs ns) (hr : ∀ n ∈ ns, 0 ≤ n ∧ n < 256) (hz : vs.length ≤ 16777216) {P : Value → Heap → Prop}
    (k : ∀ t h', St g L h' l led → P (.bytes (byteArr ns) t) h') : W w A (call (.type "bytes") [.ref c]) P h :=
  W.of fun s Q hs q => by
    subst hs
    exact call_bytes_ints (H.ints (S.get m)) hi hr (by rw [sizeLine_eq]; exact hz) hA fun h' t' tk hk => q _ _ _ (k _ _ (S.grow hk))
theorem b_len {P : Value → Heap → Prop} (hz : b.size ≤ 16777216) (k : ∀ t, P (.int b.size t) h) : W w A (call (.builtin "len") [.bytes b t]) P h :=
  W.of fun s Q hs q => len_bytes (by omega) (by subst hs; exact q _ _ _ (k _))
theorem b_item {P : Value → Heap → Prop} {i : Int} (hz : b.size ≤ 16777216) (h0 : 0 ≤ i) {x : UInt8} (hx : b[i.toNat]? = some x) (k : ∀ t, P (.int x.toNat t) h)
    (hs : subscripted slice false (.bytes b t) (.int i u) = operate [.bytes b t, .int i u] (getItem (.bytes b t) (.int i u))) : W w A (subscriptTail value slice (.bytes b t) (.int i u)) P h :=
  W.of fun s Q hs' q => by
    subst hs'
    have hlt : i.toNat < b.size := by
      rcases Nat.lt_or_ge i.toNat b.size with x | x
      · exact x
      · rw [Array.getElem?_eq_none x] at hx; cases hx
    refine tail_any (T := "bytes") (PySem.W.typeIs_bytes _ _ _) FB.slot_bytes_getitem.lookup ?_ hs
    have := getItem_bytes (prog := PG) (w := w) (A := A) (E := fun _ _ => False) (s := s) (t := t) (u := u) (l := b.toList) (i := i) (Q := Q) (by simp; omega) h0 (by simp; omega) (by
      have e : b.toList.getD i.toNat 0 = x := by
        rw [List.getD_eq_getElem?_getD, Array.getElem?_toList, hx]; rfl
      rw [e]
      exact q _ _ _ (k _))
    rw [Array.toArray_toList] at this
    exact this
theorem b_add {P : Value → Heap → Prop} (hz : b.size + d.size ≤ 16777216) (k : ∀ t, P (.bytes (b ++ d) t) h) : W w A (binaryOp .Add (.bytes b t) (.bytes d u)) P h :=
  W.of fun s Q hs q => KBy.add_bytes hz fun t' tk => by subst hs; exact q _ _ _ (k _)
theorem toList_beq {b d : Array UInt8} : (b.toList == d.toList) = decide (b = d) := by
  by_cases e : b = d
  · subst e; simp
  · have : ¬ b.toList = d.toList := fun z => e (Array.toList_inj.mp z)
    simp [e, this]
theorem b_eq {P : Value → Heap → Prop} (k : P (.bool (decide (b = d))) h) : W w A (compareOp .Eq (.bytes b t) (.bytes d u)) P h :=
  W.of fun s Q hs q => eq_bytes (by subst hs; rw [toList_beq]; exact q _ _ s.toks k)
theorem b_ne {P : Value → Heap → Prop} (k : P (.bool (!decide (b = d))) h) : W w A (compareOp .NotEq (.bytes b t) (.bytes d u)) P h :=
  W.of fun s Q hs q => ne_bytes (by subst hs; rw [bne, toList_beq]; exact q _ _ s.toks k)
def Now (P : Value → Heap → Prop) (o : Obj) (h : Heap) : Prop := ∃ g L ll led, St g L h ll led ∧ ∀ a h4, St g L h4 ll ((a, o) :: led) → P (.ref a) h4
theorem now_ (S : St g L h l led) {P : Value → Heap → Prop} {o : Obj} (k : ∀ a h4, St g L h4 l ((a, o) :: led) → P (.ref a) h4) : Now P o h := ⟨_, _, _, _, S, k⟩
theorem w_slice {lower upper step : Option Expr} {p : Pos} {P : Value → Heap → Prop}
    (k : W w A (evalPart lower env) (fun l h1 => W w A (evalPart upper env) (fun u h2 => W w A (evalPart step env) (fun st h3 => Now P (slcO l u st) h3) h2) h1) h) : W w A (eval (.Slice lower upper step p) env) P h :=
  W.of fun s Q hs q => wpAny_Slice (k.use hs fun _ _ _ x => x.use rfl fun _ _ _ y => y.use rfl fun st h3 tk z => by
    obtain ⟨g, L, ll, led, S, z⟩ := z
    exact q _ _ _ (z _ _ (S.push _)))
theorem b_slice (S : St g L h l led) {lv uv : Value} {lo hi : Option Int} (m : (a, slcO lv uv .none) ∈ led) (hl : IsPart lv lo) (hu : IsPart uv hi) (hz : b.size ≤ 16777216) {P : Value → Heap → Prop} (k : ∀ t, P (.bytes (KBy.picked b lo hi) t) h)
    (hs : subscripted slice false (.bytes b t) (.ref a) = operate [.ref a, .bytes b t] (getItem (.bytes b t) (.ref a))) : W w A (subscriptTail value slice (.bytes b t) (.ref a)) P h :=
  W.of fun s Q hs' q => by
    subst hs'
    exact tail_any (T := "bytes") (PySem.W.typeIs_bytes _ _ _) FB.slot_bytes_getitem.lookup (getItem_meets (PySem.W.typeIs_bytes _ _ _) (by decide) FB.slot_bytes_getitem FB.entry_bytes_getitem (FB.args_bytes_getitem_2 _ _) (KBc.meets_slice2 b t _ hl hu)
      ⟨⟨_, S.get m, rfl, rfl⟩, Nat.le_trans (KBc.size_picked_le b lo hi) (by rw [sizeLine_eq]; exact hz), fun t' tk => q _ _ _ (k t')⟩) hs
theorem b_rev (S : St g L h l led) {tt : Tok} (m : (a, slcO .none .none (.int (-1) tt)) ∈ led) (hz : b.size ≤ 16777216) {P : Value → Heap → Prop} (k : ∀ t, P (.bytes b.toList.reverse.toArray t) h)
    (hs : subscripted slice false (.bytes b t) (.ref a) = operate [.bytes b t, .ref a] (getItem (.bytes b t) (.ref a))) : W w A (subscriptTail value slice (.bytes b t) (.ref a)) P h :=
  W.of fun s Q hs' q => by
    subst hs'
    exact tail_any (T := "bytes") (PySem.W.typeIs_bytes _ _ _) FB.slot_bytes_getitem.lookup (getItem_meets (PySem.W.typeIs_bytes _ _ _) (by decide) FB.slot_bytes_getitem FB.entry_bytes_getitem (FB.args_bytes_getitem_2 _ _) (meets_rev b t tt _)
      ⟨⟨_, S.get m, rfl, rfl⟩, by rw [sizeLine_eq]; exact hz, fun t' tk => q _ _ _ (k t')⟩) hs
end
end Mine
end

section
open PySem PySem.W PySem.Calls PyProof.Rows
set_option Elab.async false
set_option linter.all false
set_option maxRecDepth 100000
namespace Mine
section
variable {w : World} {A : Around} {h g : Heap} {env : Env} {L : Addr} {l : Loc} {led : Led} {c d a : Addr} {oc od : Obj} {vs us : List Value}
def others (h : Heap) (L : Addr) : Led := (allOf h).filter fun p => p.1 != L
theorem none0 (b : Addr) : Heap.get? ({} : Heap) b = none := by simp [Heap.get?]
theorem mem_others {p : Addr × Obj} : p ∈ others h L ↔ h.get? p.1 = some p.2 ∧ p.1 ≠ L := by
  unfold others
  rw [List.mem_filter]
  obtain ⟨a, o⟩ := p
  simp [mem_allOf]
theorem St.kit (S : St g L h l led) : ∃ m, Fr {} L h m ∧ News {} L h (others h L) ∧
    (∀ h', Fr {} L h' m → News {} L h' (others h L) → St g L h' l led) ∧
    (∀ h' D o, Fr {} L h' m → News {} L h' ((D, o) :: others h L) → (∀ p ∈ others h L, p.1 < D) → St g L h' l ((D, o) :: led)) := by
  obtain ⟨oL, eL, m, hm, q⟩ := S.fr
  have F : Fr {} L h m := ⟨hm.ns eL, fun b o z => (by rw [none0] at z; cases z), Nat.zero_le _⟩
  have N : News {} L h (others h L) := fun p hp => ⟨(mem_others.mp hp).1, (mem_others.mp hp).2, none0 _⟩
  have one : ∀ h', Fr {} L h' m → News {} L h' (others h L) → St g L h' l led := fun h' F' N' => by
    have kp : ∀ b o, b ≠ L → h.get? b = some o → h'.get? b = some o := fun b o hb e => (N' (b, o) (mem_others.mpr ⟨e, hb⟩)).1
    obtain ⟨o', e', hm'⟩ := nsO_of F'.ns
    exact ⟨⟨o', e', m, hm', q⟩, fun b o e => kp b o (fun z => by rw [z, S.hL] at e; cases e) (S.keep b o e), S.hL, fun p hp => ⟨kp _ _ (S.N p hp).2.1 (S.N p hp).1, (S.N p hp).2⟩, S.D⟩
  refine ⟨m, F, N, one, fun h' D o F' N' hlt => ?_⟩
  have S' := one h' F' fun p hp => N' p (.tail _ hp)
  have hD := N' (D, o) (.head _)
  have hn : h.get? D = none := by
    cases e : h.get? D with
    | none => rfl
    | some ob => exact absurd (hlt (D, ob) (mem_others.mpr ⟨e, hD.2.1⟩)) (Nat.lt_irrefl _)
  refine ⟨S'.fr, S'.keep, S'.hL, fun p hp => ?_, ?_⟩
  · rcases List.mem_cons.mp hp with rfl | hp
    · refine ⟨hD.1, hD.2.1, ?_⟩
      cases e : g.get? D with
      | none => rfl
      | some ob => have := S.keep _ _ e; rw [hn] at this; cases this
    · exact S'.N p hp
  · rw [List.map_cons, List.nodup_cons]
    refine ⟨fun z => ?_, S'.D⟩
    obtain ⟨p, hp, z⟩ := List.mem_map.mp z
    have := S.get hp
    rw [show p.1 = D from z, hn] at this; cases this

theorem t_ofList (S : St g L h l led) (m : (c, oc) ∈ led) (H : IsL vs oc) (hz : vs.length ≤ 16384) {P : Value → Heap → Prop} (k : ∀ a h', St g L h' l ((a, tupO vs) :: led) → P (.ref a) h') : W w A (call (.type "tuple") [.ref c]) P h :=
  W.of fun s Q hs q => by
    subst hs
    obtain ⟨m', F, N, -, two⟩ := S.kit
    exact kde_tupleOf F N (H.ints (S.get m)) (by simpa using hz) rfl fun D h' F' N' l1 => q _ _ s.toks (k _ _ (two _ _ _ F' N' l1))
theorem l_ofList (S : St g L h l led) (m : (c, oc) ∈ led) (H : IsL vs oc) (hz : vs.length ≤ 16777216) {P : Value → Heap → Prop} (k : ∀ a h' o, IsL vs o → St g L h' l ((a, o) :: led) → P (.ref a) h') : W w A (call (.type "list") [.ref c]) P h :=
  W.of fun s Q hs q => by
    subst hs
    obtain ⟨m', F, N, -, two⟩ := S.kit
    exact list_copyK F N (H.ints (S.get m)) (fun D c' h' F' N' l1 => q _ _ s.toks (k _ _ _ ⟨_, rfl⟩ (two _ _ _ F' N' l1))) (by rw [sizeLine_eq]; simpa using hz)
theorem l_ofTuple (S : St g L h l led) (m : h.IsTuple a vs.toArray) (hz : vs.length ≤ 16777216) {P : Value → Heap → Prop} (k : ∀ a h' o, IsL vs o → St g L h' l ((a, o) :: led) → P (.ref a) h') : W w A (call (.type "list") [.ref a]) P h :=
  W.of fun s Q hs q => by
    subst hs
    obtain ⟨m', F, N, -, two⟩ := S.kit
    exact list_copyKT F N m (fun D c' h' F' N' l1 => q _ _ s.toks (k _ _ _ ⟨_, rfl⟩ (two _ _ _ F' N' l1))) (by rw [sizeLine_eq]; simpa using hz)
theorem l_add (S : St g L h l led) (m : (c, oc) ∈ led) (H : IsL vs oc) (m2 : (d, od) ∈ led) (H2 : IsL us od) (hz : vs.length + us.length ≤ 16777216) {P : Value → Heap → Prop} (k : ∀ a h' o, IsL (vs ++ us) o → St g L h' l ((a, o) :: led) → P (.ref a) h') : W w A (binaryOp .Add (.ref c) (.ref d)) P h :=
  W.of fun s Q hs q => by
    subst hs
    obtain ⟨m', F, N, -, two⟩ := S.kit
    exact add_lists F N (H.ints (S.get m)) (H2.ints (S.get m2)) (fun h' F' N' => q _ _ s.toks (k _ _ _ ⟨_, rfl⟩ (two _ _ _ F' N' fun p hp => Heap.lt_size (N p hp).1))) (by rw [sizeLine_eq]; exact hz)
theorem l_mul (S : St g L h l led) (m : (c, oc) ∈ led) (H : IsL vs oc) {x : Int} {u : Tok} (h0 : 0 ≤ x) (h1 : vs.length * x.toNat ≤ 256) (h2 : x < 2 ^ 63) {P : Value → Heap → Prop} (k : ∀ a h' o, IsL (List.replicate x.toNat vs).flatten o → St g L h' l ((a, o) :: led) → P (.ref a) h') : W w A (binaryOp .Mult (.ref c) (.int x u)) P h :=
  W.of fun s Q hs q => by
    subst hs
    obtain ⟨m', F, N, -, two⟩ := S.kit
    exact KMa.mul F N (H.ints (S.get m)) (by omega) h2 h1 rfl fun D h' F' N' l1 => q _ _ s.toks (k _ _ _ ⟨_, rfl⟩ (two _ _ _ F' N' l1))
end
end Mine
end

section
open PySem PySem.W PySem.Calls PyProof.Rows
set_option Elab.async false
set_option linter.all false
set_option maxRecDepth 100000
namespace Mine
section
variable {w : World} {A : Around} {h g : Heap} {env : Env} {L : Addr} {l : Loc} {led : Led} {d a : Addr} {o : Obj} {G : Obj → Led}
variable {K : Type} [DecidableEq K] {knd : PySem.KeyKind PG w K} {kvs : List (K × Value)} {k : K} {kv v : Value}
structure IsD {K : Type} [DecidableEq K] (knd : PySem.KeyKind PG w K) (kvs : List (K × Value)) (d : Addr) (o : Obj) : Prop where
  lo : (d == sysModules) = false
  is : o.IsDictOf knd kvs
theorem IsD.dict (H : IsD knd kvs d o) (S : St g L h l led) (m : (d, o) ∈ led) : h.DictOf knd d kvs := Heap.dictOf_iff.mpr ⟨o, S.get m, H.is⟩
theorem dd_item (S : St g L h l led) (m : (d, o) ∈ led) (H : IsD knd kvs d o) (hk : knd.is k kv = true) (hv : valueAt kvs k = some v) {value slice : Expr} {P : Value → Heap → Prop} (kk : P v h)
    (hs : subscripted slice false (.ref d) kv = operate [.ref d, kv] (getItem (.ref d) kv)) : W w A (subscriptTail value slice (.ref d) kv) P h :=
  W.of fun s Q hs' q => by
    subst hs'
    have hD := H.dict S m
    exact tail_any hD.typeIs slot_dict_getitem.lookup (wpAny_getItem_of hk hD.mapOf hv (q _ _ _ kk)) hs
theorem dd_in (S : St g L h l led) (m : (d, o) ∈ led) (H : IsD knd kvs d o) (hk : knd.is k kv = true) {P : Value → Heap → Prop} (kk : P (.bool (valueAt kvs k).isSome) h) : W w A (compareOp .In kv (.ref d)) P h :=
  W.of fun s Q hs q => by subst hs; exact wpAny_in_of hk H.lo (H.dict S m).mapOf (q _ _ _ kk)
theorem dd_notin (S : St g L h l led) (m : (d, o) ∈ led) (H : IsD knd kvs d o) (hk : knd.is k kv = true) {P : Value → Heap → Prop} (kk : P (.bool (!(valueAt kvs k).isSome)) h) : W w A (compareOp .NotIn kv (.ref d)) P h :=
  W.of fun s Q hs q => by subst hs; exact wpAny_notIn_of hk H.lo (H.dict S m).mapOf (q _ _ _ kk)
theorem dd_set (S : St g L h l led) (U : PutF d o led G) (H : IsD knd kvs d o) (hk : knd.is k kv = true) (hz : kvs.length ≤ 16777216) {P : Unit → Heap → Prop}
    (kk : ∀ h' o', IsD knd (stored kvs k v) d o' → St g L h' l (G o') → P () h') : W w A (setItem (.ref d) kv v) P h :=
  W.of fun s Q hs q => by
    subst hs
    refine wpAny_setItem_pairs (hsz := by rw [sizeLine_eq]; exact hz) hk (H.dict S U.mem) fun h' hmm hs => ?_
    obtain ⟨o', ho', hd'⟩ := Heap.dictOf_iff.mp hmm
    exact q _ _ _ (kk _ _ ⟨H.lo, hd'⟩ (S.put U hs ho'))
theorem dd_pop (S : St g L h l led) (U : PutF d o led G) (H : IsD knd kvs d o) (hk : knd.is k kv = true) (hp : (keyPart kv).isSome = true) (hv : valueAt kvs k = some v) (hz : kvs.length ≤ 16777216) {P : Value → Heap → Prop}
    (kk : ∀ h' o', IsD knd (without kvs k) d o' → St g L h' l (G o') → P v h') : W w A (call (.builtin "dict.pop") [.ref d, kv]) P h :=
  W.of fun s Q hs q => by
    subst hs
    have hD := H.dict S U.mem
    refine call_meetsIn PySem.F.slot_dict_pop hD.typeIs PySem.F.entry_dict_pop (PySem.F.args_dict_pop_2 _ _) (meets_dict_pop_there knd d hk [] (.inl rfl) hp) ⟨kvs, v, hD, by rw [sizeLine_eq]; exact hz, hv, fun h' hmm hs => ?_⟩
    obtain ⟨o', ho', hd'⟩ := Heap.dictOf_iff.mp hmm
    exact q _ _ _ (kk _ _ ⟨H.lo, hd'⟩ (S.put U hs ho'))
theorem dd_clear (S : St g L h l led) (U : PutF d o led G) (H : IsD knd kvs d o) (hz : kvs.length ≤ 16777216) {P : Value → Heap → Prop}
    (kk : ∀ h' o', IsD knd [] d o' → St g L h' l (G o') → P .none h') : W w A (call (.builtin "dict.clear") [.ref d]) P h :=
  W.of fun s Q hs q => by
    subst hs
    have hD := H.dict S U.mem
    refine call_meetsIn PySem.F.slot_dict_clear hD.typeIs PySem.F.entry_dict_clear (PySem.F.args_dict_clear_1 _) (meets_dict_clear knd d) ⟨kvs, hD, by rw [sizeLine_eq]; exact hz, fun h' hmm hs => ?_⟩
    obtain ⟨o', ho', hd'⟩ := Heap.dictOf_iff.mp hmm
    exact q _ _ s.toks (kk _ _ ⟨H.lo, hd'⟩ (S.put U hs ho'))
theorem m_dict {name : Str} {id : String} {pl : Sem Bool} {P : Value × List Value → Heap → Prop} (S : St g L h l led) (m : (d, o) ∈ led) (H : IsD knd kvs d o) (sl : Slot "dict" name id) (ty : typeOf (.builtin id) = pure (.type "method_descriptor"))
    (kk : P (.builtin id, [.ref d]) h) : W w A (getMethod (.ref d) name pl) P h :=
  W.of fun s Q hs q => by
    subst hs
    have hD := H.dict S m
    exact getMethod_builtin hD.typeIs PySem.F.plainAttrs_dict sl ty hD.mapOf.noDict (q _ _ s.toks kk)
theorem m_dclear {pl : Sem Bool} {P : Value × List Value → Heap → Prop} (S : St g L h l led) (m : (d, o) ∈ led) (H : IsD knd kvs d o) (kk : P (.builtin "dict.clear", [.ref d]) h) : W w A (getMethod (.ref d) (Str.ofString "clear") pl) P h :=
  m_dict S m H PySem.F.slot_dict_clear PySem.F.type_dict_clear kk
theorem m_dpop {pl : Sem Bool} {P : Value × List Value → Heap → Prop} (S : St g L h l led) (m : (d, o) ∈ led) (H : IsD knd kvs d o) (kk : P (.builtin "dict.pop", [.ref d]) h) : W w A (getMethod (.ref d) (Str.ofString "pop") pl) P h :=
  m_dict S m H PySem.F.slot_dict_pop PySem.F.type_dict_pop kk
theorem dd_new (S : St g L h l led) (G : Gd w g) {pos : Pos} {P : Value → Heap → Prop} (kk : ∀ a h' o, (∀ {K : Type} [DecidableEq K] (knd : PySem.KeyKind PG w K), IsD knd [] a o) → St g L h' l ((a, o) :: led) → P (.ref a) h') : W w A (eval (.Dict [] [] pos) env) P h :=
  W.of fun s Q hs q => by
    subst hs
    show wpAny _ A (do standAt pos; newDict) _ _ _
    refine wpAny_bind (wpAny_standAt ?_)
    obtain ⟨_, _, _, _, T⟩ := G.T
    have hlow : sysModules < s.heap.objs.size := modules_low (T.nolimit.keeps S.keep)
    refine wpAny_newObj_type (q _ _ s.toks (kk _ _ _ (fun knd => ⟨beq_eq_false_iff_ne.mpr (Nat.ne_of_gt hlow), ?_⟩) (S.push _))) (Nat.zero_le _)
    exact ⟨#[], 0, ⟨rfl, rfl, rfl⟩, rfl, fun _ he => by simp at he, .nil, List.nodup_nil⟩
theorem int_is (i : Int) (t : Tok) : (PySem.intKind PG w).is i (.int i t) = true := intKind_is _ _ _ _
theorem str_is' (x : Str) (t : Tok) : (PySem.strKind PG w).is x (.str x t) = true := strKind_is _ _ _ _
end
end Mine
end

section
open PySem PySem.W PySem.Calls PyProof.Rows
set_option Elab.async false
set_option linter.all false
set_option maxRecDepth 100000
namespace Mine
@[reducible] def intO : PyProof.Rows.KeyKind where
  α := Int
  blt a b := decide (a < b)
  irrefl a := by simp
  trans a b c h1 h2 := by simp only [decide_eq_true_eq] at *; omega
  negTrans a b c h := by simp only [decide_eq_true_eq] at *; omega
  total a b h1 h2 := by simp only [decide_eq_false_iff_not] at *; omega
  keyOf v := match v with | .int x _ => some x | _ => none
  dflt := 0
@[reducible] def bytesO : PyProof.Rows.KeyKind where
  α := List Nat
  blt a b := decide (a < b)
  irrefl a := by simpa using List.lt_irrefl a
  trans a b c h1 h2 := by simp only [decide_eq_true_eq] at *; exact List.lt_trans h1 h2
  negTrans a b c h := by
    simp only [decide_eq_true_eq] at *
    by_cases hab : a < b
    · exact .inl hab
    · exact .inr (List.lt_of_le_of_lt (List.not_lt.mp hab) h)
  total a b h1 h2 := by simp only [decide_eq_false_iff_not] at *; exact List.le_antisymm (List.not_lt.mp h2) (List.not_lt.mp h1)
  keyOf v := match v with | .bytes x _ => some (x.toList.map UInt8.toNat) | _ => none
  dflt := []

section
variable {prog : Program} {w : World} {A : Around} {E : Value → Shared → Prop} {s : Shared}
theorem slot_bytes_lt : Slot "bytes" (cmpInfo .Lt).2.1 "bytes.__lt__" :=
  .of (owner := "bytes") (n := "__lt__") (by rw [typeLookup_type, builtinLookup_eq_fast]; kernel_rfl) (by decide +kernel) (by decide +kernel) (by decide +kernel)
    (by first | exact .inl (by decide +kernel) | exact .inr (by decide +kernel)) (by rw [isSubtype_type]; kernel_rfl)
theorem slot_bytes_gt : Slot "bytes" (cmpInfo .Gt).2.1 "bytes.__gt__" :=
  .of (owner := "bytes") (n := "__gt__") (by rw [typeLookup_type, builtinLookup_eq_fast]; kernel_rfl) (by decide +kernel) (by decide +kernel) (by decide +kernel)
    (by first | exact .inl (by decide +kernel) | exact .inr (by decide +kernel)) (by rw [isSubtype_type]; kernel_rfl)
theorem entry_bytes_lt : entryFor table "bytes.__lt__" = some Builtin.«bytes.__lt__» := by first | exact entryFor_of_fast (by kernel_rfl) | exact entryFor_of_tree (by kernel_rfl)
theorem entry_bytes_gt : entryFor table "bytes.__gt__" = some Builtin.«bytes.__gt__» := by first | exact entryFor_of_fast (by kernel_rfl) | exact entryFor_of_tree (by kernel_rfl)
theorem args_bytes_lt (a b : Value) : argsOk "bytes.__lt__" ⟨[a, b], []⟩ := by unfold argsOk; kernel_rfl
theorem args_bytes_gt (a b : Value) : argsOk "bytes.__gt__" ⟨[a, b], []⟩ := by unfold argsOk; kernel_rfl
open Builtin in
theorem order_lt : ∀ a b : List UInt8, (Bytes.order a b == .lt) = decide (a.map UInt8.toNat < b.map UInt8.toNat)
  | [], [] => by simp [Bytes.order]
  | [], _ :: _ => by simp [Bytes.order]
  | _ :: _, [] => by simp [Bytes.order]
  | x :: a, y :: b => by
    simp only [Bytes.order, List.map_cons, List.cons_lt_cons_iff]
    by_cases h1 : x < y
    · have : x.toNat < y.toNat := UInt8.lt_iff_toNat_lt.mp h1
      simp [h1, this]
    · by_cases h2 : x > y
      · have : y.toNat < x.toNat := UInt8.lt_iff_toNat_lt.mp h2
        have h3 : ¬ x.toNat < y.toNat := by omega
        have h4 : ¬ x.toNat = y.toNat := by omega
        simp [h1, h2, h3, h4]
      · have : x = y := UInt8.le_antisymm (UInt8.not_lt.mp h2) (UInt8.not_lt.mp h1)
        subst this
        simp [order_lt a b]
open Builtin in
theorem order_gt : ∀ a b : List UInt8, (Bytes.order a b == .gt) = decide (b.map UInt8.toNat < a.map UInt8.toNat)
  | [], [] => by simp [Bytes.order]
  | [], _ :: _ => by simp [Bytes.order]
  | _ :: _, [] => by simp [Bytes.order]
  | x :: a, y :: b => by
    simp only [Bytes.order, List.map_cons, List.cons_lt_cons_iff]
    by_cases h1 : x < y
    · have : x.toNat < y.toNat := UInt8.lt_iff_toNat_lt.mp h1
      have h3 : ¬ y.toNat < x.toNat := by omega
      have h4 : ¬ y.toNat = x.toNat := by omega
      simp [h1, h3, h4]
    · by_cases h2 : x > y
      · have : y.toNat < x.toNat := UInt8.lt_iff_toNat_lt.mp h2
        simp [h1, h2, this]
      · have : x = y := UInt8.le_antisymm (UInt8.not_lt.mp h2) (UInt8.not_lt.mp h1)
        subst this
        simp [order_gt a b]
open Builtin in
theorem gives_bytes_lt (b c : Array UInt8) (t u : Tok) : Gives («bytes.__lt__» ⟨[.bytes b t, .bytes c u], []⟩) (.val (.bool (decide (b.toList.map UInt8.toNat < c.toList.map UInt8.toNat)))) := by
  refine .of_wp fun M A E s Q hq => ?_
  show wpAny M A (isInstance (.bytes c u) (.type "bytes") >>= fun r => _) _ E s
  refine wpAny_bind (wpAny_isInstance (PySem.W.typeIs_bytes s c u) F.sub_bytes_bytes ?_)
  exact wpAny_pure ⟨_, rfl, by rw [← order_lt] at hq; exact hq⟩
open Builtin in
theorem gives_bytes_gt (b c : Array UInt8) (t u : Tok) : Gives («bytes.__gt__» ⟨[.bytes b t, .bytes c u], []⟩) (.val (.bool (decide (c.toList.map UInt8.toNat < b.toList.map UInt8.toNat)))) := by
  refine .of_wp fun M A E s Q hq => ?_
  show wpAny M A (isInstance (.bytes c u) (.type "bytes") >>= fun r => _) _ E s
  refine wpAny_bind (wpAny_isInstance (PySem.W.typeIs_bytes s c u) F.sub_bytes_bytes ?_)
  exact wpAny_pure ⟨_, rfl, by rw [← order_gt] at hq; exact hq⟩
theorem gt_bytes {b c : Array UInt8} {t u : Tok} {Q : Value → Shared → Prop} (h : Q (.bool (decide (c.toList.map UInt8.toNat < b.toList.map UInt8.toNat))) s) : wpAny (model prog w) A (compareOp .Gt (.bytes b t) (.bytes c u)) Q E s :=
  compareOp_gives (op := .Gt) (PySem.W.typeIs_bytes s b t) (PySem.W.typeIs_bytes s c u) slot_bytes_gt entry_bytes_gt (args_bytes_gt _ _) (gives_bytes_gt b c t u) (fun e => nomatch e) h
theorem oneLt_bytes {b c : Array UInt8} {t u : Tok} {Q : Bool → Shared → Prop} (h : Q (decide (b.toList.map UInt8.toNat < c.toList.map UInt8.toNat)) s) : wpAny (model prog w) A (oneLt' true (.bytes b t) (.bytes c u)) Q E s := by
  rw [oneLt'_eq]
  simp only [if_true]
  refine wpAny_bind (wpAny_cRoomFor_byValue rfl ?_)
  refine wpAny_bind (wpAny_callSpecialIfBound?_slot (PySem.W.typeIs_bytes s b t) slot_bytes_lt ?_)
  refine call_gives slot_bytes_lt (PySem.W.typeIs_bytes s b t) entry_bytes_lt (args_bytes_lt _ _) (gives_bytes_lt b c t u) ?_
  exact wpAny_truthy_bool h
end
theorem bytesO_oneLt : bytesO.OneLt := by
  intro prog w A E s x y a b Q ha hb h
  cases x <;> simp only [bytesO, reduceCtorEq, Option.some.injEq] at ha
  cases y <;> simp only [bytesO, reduceCtorEq, Option.some.injEq] at hb
  cases ha; cases hb
  exact oneLt_bytes h
theorem intO_oneLt : intO.OneLt := by
  intro prog w A E s x y a b Q ha hb h
  cases x <;> simp only [intO, reduceCtorEq, Option.some.injEq] at ha
  cases y <;> simp only [intO, reduceCtorEq, Option.some.injEq] at hb
  cases ha; cases hb
  exact PyProof.Rows.oneLt_int h
def SortedV (κ : PyProof.Rows.KeyKind) (vs : List Value) : Prop := vs.Pairwise fun u v => ∀ a b, κ.keyOf u = some a → κ.keyOf v = some b → κ.kle a b
structure Sortable (κ : PyProof.Rows.KeyKind) (vs : List Value) : Prop where
  keys : ∀ v ∈ vs, ∃ a, κ.keyOf v = some a
  one : ∃ T : String, ∀ v ∈ vs, firstOfTuple' v = pure none ∧ typeOf v = pure (.type T)
theorem mapM_first_none : ∀ {vs : List Value}, (∀ v ∈ vs, firstOfTuple' v = pure none) → vs.mapM firstOfTuple' = pure (vs.map fun _ => none)
  | [], _ => by simp
  | v :: vs, h => by rw [List.mapM_cons, h v (.head _), mapM_first_none fun u hu => h u (.tail _ hu)]; simp
theorem mapM_type_one {T : String} : ∀ {vs : List Value}, (∀ v ∈ vs, typeOf v = pure (.type T)) → vs.mapM typeOf = pure (vs.map fun _ => Value.type T)
  | [], _ => by simp
  | v :: vs, h => by
    rw [List.mapM_cons, h v (.head _), mapM_type_one fun u hu => h u (.tail _ hu)]
    simp
theorem Sortable.kind {κ : PyProof.Rows.KeyKind} {v₁ v₂ : Value} {vs : List Value} (H : Sortable κ (v₁ :: v₂ :: vs)) : keyKind' (v₁ :: v₂ :: vs).toArray = pure oneType' := by
  obtain ⟨T, hT⟩ := H.one
  rw [keyKind'_eq, List.mapM_toArray, mapM_first_none fun v hv => (hT v hv).1]
  simp only [map_pure, pure_bind]
  rw [if_neg (by simp), if_neg (by simp)]
  rw [oneTypeOnly'_eq, List.mapM_toArray, mapM_type_one fun v hv => (hT v hv).2]
  simp only [map_pure, pure_bind]
  have hall : ((List.map (fun _ => Value.type T) (v₁ :: v₂ :: vs)).toArray.all fun x => x == Value.type T) = true := by
    simp only [List.all_toArray, List.all_map, List.all_eq_true]
    intro _ _
    simp
  have h0 : (List.map (fun _ => Value.type T) (v₁ :: v₂ :: vs)).toArray[0]? = some (Value.type T) := by simp
  rw [h0]
  simp only [hall, if_true, pure_bind, Option.isSome_some]
theorem Sortable.keysOf {κ : PyProof.Rows.KeyKind} {vs : List Value} (H : Sortable κ vs) : PyProof.Rows.KeysOf κ (pairsOf vs) := by
  intro p hp
  rw [pairsOf_toList] at hp
  exact H.keys _ (mem_zip_self hp).2
theorem sorted_out_any {κ : PyProof.Rows.KeyKind} {vs : List Value} (H : Sortable κ vs) {xs : Array Keyed} (hp : xs.Perm (pairsOf vs)) (hs : SortedToK κ xs (pairsOf vs).size) :
    (xs.map (·.2)).toList.Perm vs ∧ SortedV κ (xs.map (·.2)).toList := by
  have hl : xs.toList.Perm (vs.zip vs) := by rw [← pairsOf_toList]; exact Array.perm_iff_toList_perm.mp hp
  have hmem : ∀ p, p ∈ xs.toList → p.1 = p.2 ∧ p.1 ∈ vs := fun p hp' => mem_zip_self (hl.mem_iff.mp hp')
  refine ⟨?_, ?_⟩
  · rw [Array.toList_map]
    have h1 := hl.map (·.2)
    rwa [List.map_snd_zip (Nat.le_refl _)] at h1
  · unfold SortedV
    rw [List.pairwise_iff_getElem]
    intro i j hi hj hij a b ha hb
    have hi' : i < xs.size := by simpa using hi
    have hj' : j < xs.size := by simpa using hj
    have h1 := hs i j (Nat.le_of_lt hij) (by rw [← hp.size_eq]; exact hj')
    have e1 := (hmem xs[i] (by simp)).1
    have e2 := (hmem xs[j] (by simp)).1
    simp only [Array.toList_map, List.getElem_map, Array.getElem_toList] at ha hb
    rw [← e1] at ha
    rw [← e2] at hb
    have k1 : KK κ xs i = a := by unfold KK; rw [getElem?_pos xs i hi']; dsimp only; rw [ha]; rfl
    have k2 : KK κ xs j = b := by unfold KK; rw [getElem?_pos xs j hj']; dsimp only; rw [hb]; rfl
    rwa [k1, k2] at h1
section
variable {w : World} {A : Around} {h g : Heap} {env : Env} {L : Addr} {l : Loc} {led : Led} {c d a : Addr} {oc o : Obj} {vs : List Value} {κ : PyProof.Rows.KeyKind}
theorem q_sorted (S : St g L h l led) (m : (c, oc) ∈ led) (H : IsL vs oc) (hO : κ.OneLt) (hs : Sortable κ vs) (hz : vs.length < 64) {P : Value → Heap → Prop}
    (k : ∀ a h' o vs', IsL vs' o → vs'.Perm vs → SortedV κ vs' → St g L h' l ((a, o) :: led) → P (.ref a) h') : W w A (call (.builtin "sorted") [.ref c]) P h :=
  W.of fun s Q hs' q => by
    subst hs'
    refine sortedK hO (H.ints (S.get m)) hs.keysOf (fun v₁ v₂ rest e => by subst e; exact hs.kind) hz fun st' hp hss => ?_
    obtain ⟨e, he⟩ := sortedAll_at s.heap vs ((arrOf st').map (·.2))
    obtain ⟨p1, p2⟩ := sorted_out_any hs hp hss
    refine q _ _ s.toks (k _ _ (seqObj "list" ((arrOf st').map (·.2)) e) _ ⟨e, ?_⟩ p1 p2 (S.add (fun _ _ => sortedAll_old) (Heap.get?_none_of_le (Nat.le_succ _)) he))
    rw [Array.toArray_toList]
def KeysAre {K : Type} [DecidableEq K] (knd : PySem.KeyKind PG w K) (kvs : List (K × Value)) (us : List Value) : Prop := us.length = kvs.length ∧ ∀ (j : Nat) (v : Value), us[j]? = some v → ∃ k x, kvs[j]? = some (k, x) ∧ knd.is k v = true
theorem q_sortedD {K : Type} [DecidableEq K] {knd : PySem.KeyKind PG w K} {kvs : List (K × Value)} (S : St g L h l led) (hA : A.handled = none) (m : (d, o) ∈ led) (H : IsD knd kvs d o) (hO : κ.OneLt) (hs : ∀ us, KeysAre knd kvs us → Sortable κ us) (hz : kvs.length < 64) {P : Value → Heap → Prop}
    (k : ∀ a h' o us vs', KeysAre knd kvs us → IsL vs' o → vs'.Perm us → SortedV κ vs' → St g L h' l ((a, o) :: led) → P (.ref a) h') : W w A (call (.builtin "sorted") [.ref d]) P h :=
  W.of fun s Q hs' q => by
    subst hs'
    obtain ⟨m', F, N, one, two⟩ := S.kit
    obtain ⟨ep, hat⟩ := (H.dict S m).dictAt
    refine kdu_sorted (kdl_dict (knd := knd) (kvs := kvs) (ep := ep) H.lo) hA F N hat (kdl_size (by omega)) fun D h' tk us F' N' l1 hl hv => ?_
    have S' := two _ _ _ F' N' l1
    have hD := S'.get (List.mem_cons_self)
    have hs := hs us ⟨hl, hv⟩
    refine wpAny_call_entry PyProof.Rows.slot_list_sort ⟨_, hD, rfl⟩ PyProof.Rows.entry_list_sort (list_sort_treeK (n := 0) (vs := us) hO (by exact hD) hs.keysOf (fun v₁ v₂ rest e => by subst e; exact hs.kind) (by rw [hl]; exact hz) fun st' hp hss => ⟨.none, rfl, ?_⟩) (PyProof.Rows.args_list_sort _)
    obtain ⟨e, he⟩ := sortedHeap_at (h := h') (a := D) (vs := us) (n := 0) (out := (arrOf st').map (·.2)) hD
    obtain ⟨p1, p2⟩ := sorted_out_any hs hp hss
    refine q _ _ tk (k _ _ (seqObj "list" ((arrOf st').map (·.2)) e) us _ ⟨hl, hv⟩ ⟨e, ?_⟩ p1 p2 ?_)
    · rw [Array.toArray_toList]
    · exact S'.put' (.head) (fun b ob hb _ eb => (sortedHeap_old hb (Heap.lt_size eb)).trans eb) (fun m hn => hn.at' fun o eo => (sortedHeap_old (Ne.symm (S'.ne List.mem_cons_self)) (Heap.lt_size eo)).trans eo) he
end
end Mine
end

section
open PySem PySem.W PySem.Calls PyProof.Rows
set_option Elab.async false
set_option linter.all false
set_option maxRecDepth 100000
namespace Mine
def IsRg (a b c : Int) (o : Obj) : Prop := ∃ t u v, o = { cls := .type "range", data := .fields #[.int a t, .int b u, .int c v] }
section
variable {w : World} {A : Around} {h g : Heap} {env : Env} {L : Addr} {l : Loc} {led rest : Led} {c : Addr} {oc : Obj} {vs : List Value} {ks : List (List Nat × NameKind)} {cs : List (List Nat × Addr)} {G : Obj → Led}
theorem r_range1 (S : St g L h l led) {n : Int} {t : Tok} {P : Value → Heap → Prop} (k : ∀ a h' o, IsRg 0 n 1 o → St g L h' l ((a, o) :: led) → P (.ref a) h') : W w A (call (.type "range") [.int n t]) P h :=
  W.of fun s Q hs q => by subst hs; exact call_range_1 (q _ _ _ (k _ _ _ ⟨_, _, _, rfl⟩ (S.push _)))
theorem r_range2 (S : St g L h l led) {n m : Int} {t u : Tok} {P : Value → Heap → Prop} (k : ∀ a h' o, IsRg n m 1 o → St g L h' l ((a, o) :: led) → P (.ref a) h') : W w A (call (.type "range") [.int n t, .int m u]) P h :=
  W.of fun s Q hs q => by subst hs; exact call_range_2 (q _ _ _ (k _ _ _ ⟨_, _, _, rfl⟩ (S.push _)))
theorem r_range3 (S : St g L h l led) {n m c : Int} {t u v : Tok} {P : Value → Heap → Prop} (hc : c ≠ 0) (hp : Builtin.divisionGoesByPylong (m - n) c = false) (k : ∀ a h' o, IsRg n m c o → St g L h' l ((a, o) :: led) → P (.ref a) h') : W w A (call (.type "range") [.int n t, .int m u, .int c v]) P h :=
  W.of fun s Q hs q => by subst hs; exact call_range_3 hc (q _ _ s.toks (k _ _ _ ⟨_, _, _, rfl⟩ (S.push _))) (.inl hp)
inductive IterAt (w : World) (A : Around) (g : Heap) (L : Addr) (l : Loc) (led : Led) (n : Nat) (Pt : Nat → Value → Prop) (rest : Led) (it : Value) (h2 : Heap) : Prop
  | mk (I : Addr) (StI : Nat → Heap → Prop) (oI : Obj) (e : it = .ref I) (live : ∀ i h, StI i h → ∃ o, h.get? I = some o) (Wk : Walks PG w A I (I :: rest.map (·.1)) [I] n Pt StI) (st0 : StI 0 h2) (S : St g L h2 l ((I, oI) :: rest ++ led))
theorem it_list (S : St g L h l led) (hA : A.handled = none) (H : Pk [(c, oc)] led rest) (hL : IsL vs oc) : W w A (pyIter (.ref c)) (IterAt w A g L l rest vs.length (fun i v => vs[i]? = some v) [(c, oc)]) h :=
  W.of fun s Q hs q => by
    subst hs
    have S := S.pk H
    have hl := hL.ints (S.get List.mem_cons_self)
    have hne : c ≠ s.heap.objs.size := Nat.ne_of_lt (Heap.lt_size (S.get List.mem_cons_self))
    refine wpAny_pyIter_list hl (q _ _ s.toks ⟨s.heap.objs.size, fun i h => h.IsListIter s.heap.objs.size c i ∧ h.IsList c vs.toArray, { cls := .type "list_iterator", data := .fields #[.ref c, .int 0 0] }, rfl, fun i h st => ?_, ?_, ?_, S.push _⟩)
    · obtain ⟨o, e, _⟩ := st.1; exact ⟨o, e⟩
    · have := Walks.list (prog := PG) (w := w) hA s.heap.objs.size c hne vs.toArray
      simpa using this
    · exact ⟨⟨_, Heap.get?_push_size _ rfl, rfl, rfl⟩, hl.push _⟩
theorem it_range (S : St g L h l led) (hA : A.handled = none) {a b c : Int} {r : Addr} {o : Obj} (m : (r, o) ∈ led) (hr : IsRg a b c o) (hs : Builtin.Range.small a b c = true) {n : Nat} (hn : Builtin.Range.rangeSize a b c = n) :
    W w A (pyIter (.ref r)) (IterAt w A g L l led n (fun i v => i < n ∧ ∃ t, v = .int (a + i * c) t) []) h :=
  W.of fun s Q hs' q => by
    subst hs'
    obtain ⟨t, u, v, rfl⟩ := hr
    have hr : IsRange s.heap r a b c t u v := S.get m
    refine wpAny_pyIter_range hr hs (q _ _ s.toks ⟨s.heap.objs.size, fun i h => IsRangeIter h s.heap.objs.size (a + (i : Nat) * c) ((n : Int) - (i : Nat)) c, { cls := .type "range_iterator", data := .fields #[rawInt a, rawInt (Builtin.Range.rangeSize a b c), rawInt c] }, rfl, fun i h st => ?_, (Walks.range hA s.heap.objs.size a c n).bound, ?_, S.push _⟩)
    · exact ⟨_, st⟩
    · show Heap.get? _ _ = some _
      rw [Heap.get?_push_size _ rfl, hn]
      simp
theorem range_one (a b : Int) : Builtin.Range.rangeSize a b 1 = ((b - a).toNat : Nat) := by
  rw [rangeSize_one]; split <;> omega
theorem for_of {n : Nat} {Pt : Nat → Value → Prop} {it : Value} {h2 : Heap} {kx : List Nat} {body : Heap → (Flow → Heap → Prop) → Prop} {P : Flow → Heap → Prop} (hi : IterAt w A g L l led n Pt rest it h2) (J : Nat → Loc → Led → Prop) (j0 : J 0 l led)
    (step : ∀ i v l led I oI h, i < n → Pt i v → J i l led → St g L h ((kx, v) :: l) ((I, oI) :: rest ++ led) → body h (TurnEnd g L ((I, oI) :: rest) (J (i + 1)) P))
    (done : ∀ l led h, J n l led → St g L h l (rest ++ led) → P .next h) : ForAt w A g L kx body P it h2 := by
  obtain ⟨I, StI, oI, rfl, live, Wk, st0, S⟩ := hi
  exact ⟨I, n, Pt, StI, rest, l, led, oI, J, rfl, live, Wk, st0, S, j0, fun i v l led oI h => step i v l led I oI h, done⟩
inductive CompNames (ks : List (List Nat × NameKind)) (cs : List (List Nat × Addr)) : List (Str × NameKind) → List (List Nat × NameKind) → List (Str × Addr) → List (List Nat × Addr) → Prop
  | nil : CompNames ks cs [] [] [] []
  | loc {n k r ks' cl cs'} : key n = k → CompNames ks cs r ks' cl cs' → CompNames ks cs ((n, .local) :: r) ((k, .local) :: ks') cl cs'
  | glob {n k r ks' cl cs'} : key n = k → CompNames ks cs r ks' cl cs' → CompNames ks cs ((n, .globalImplicit) :: r) ((k, .globalImplicit) :: ks') cl cs'
  | free {n k a r ks' cl cs'} : key n = k → ks.lookup k = some .cell → cs.lookup k = some a → CompNames ks cs r ks' cl cs' → CompNames ks cs ((n, .free) :: r) ((k, .cell) :: ks') ((n, a) :: cl) ((k, a) :: cs')
theorem CompNames.relabel (e : EnvF env L ks cs) {names : List (Str × NameKind)} {ks' : List (List Nat × NameKind)} {cl : List (Str × Addr)} {cs' : List (List Nat × Addr)} (H : CompNames ks cs names ks' cl cs') :
    (names.map fun (n, k) => if (k == NameKind.free && env.scope.kind == ScopeKind.function && env.kindOf n == some NameKind.cell) then (n, NameKind.cell) else (n, k)).map (fun p => (key p.1, p.2)) = ks' := by
  induction H with
  | nil => rfl
  | loc hn _ ih => rw [List.map_cons, List.map_cons, ih]; simp [hn]
  | glob hn _ ih => rw [List.map_cons, List.map_cons, ih]; simp [hn]
  | free hn hk hc _ ih => rw [List.map_cons, List.map_cons, ih]; simp [hn, e.kind, e.kindOf hn hk]
theorem CompNames.cells {names : List (Str × NameKind)} {ks' : List (List Nat × NameKind)} {cl : List (Str × Addr)} {cs' : List (List Nat × Addr)} (H : CompNames ks cs names ks' cl cs') : cl.map (fun p => (key p.1, p.2)) = cs' := by
  induction H with
  | nil => rfl
  | loc _ _ ih => exact ih
  | glob _ _ ih => exact ih
  | free hn _ _ _ ih => rw [List.map_cons, ih, hn]
theorem CompNames.noCell {names : List (Str × NameKind)} {ks' : List (List Nat × NameKind)} {cl : List (Str × Addr)} {cs' : List (List Nat × Addr)} (H : CompNames ks cs names ks' cl cs') : ∀ y ∈ names, y.2 ≠ .cell := by
  induction H with
  | nil => intro y hy; cases hy
  | loc _ _ ih => exact fun y hy => (List.mem_cons.mp hy).elim (fun e => by rw [e]; simp) fun hy => ih y hy
  | glob _ _ ih => exact fun y hy => (List.mem_cons.mp hy).elim (fun e => by rw [e]; simp) fun hy => ih y hy
  | free _ _ _ _ ih => exact fun y hy => (List.mem_cons.mp hy).elim (fun e => by rw [e]; simp) fun hy => ih y hy
theorem closure_loop (e : EnvF env L ks cs) (f : Str × NameKind → List (Str × Addr) → Sem (ForInStep (List (Str × Addr))))
    (hf : ∀ n k r, f (n, k) r = if (k == NameKind.free) = true then (cellOf env n >>= fun a => pure (ForInStep.yield ((n, a) :: r))) else pure (ForInStep.yield r))
    {names : List (Str × NameKind)} {ks' : List (List Nat × NameKind)} {cl : List (Str × Addr)} {cs' : List (List Nat × Addr)} (H : CompNames ks cs names ks' cl cs') :
    ∀ acc, (forIn names acc f : Sem (List (Str × Addr))) = pure (cl.reverse ++ acc) := by
  induction H with
  | nil => intro acc; simp
  | loc _ _ ih =>
    intro acc
    rw [List.forIn_cons, hf, if_neg (by decide), pure_bind]
    exact ih acc
  | glob _ _ ih =>
    intro acc
    rw [List.forIn_cons, hf, if_neg (by decide), pure_bind]
    exact ih acc
  | @free n k a r ks' cl cs' hn hk hc _ ih =>
    intro acc
    have hcell : cellOf env n = pure a := by unfold cellOf; rw [e.cellOf hn hc]
    rw [List.forIn_cons, hf, if_pos (by decide), hcell, pure_bind, pure_bind]
    rw [List.reverse_cons, List.append_assoc]
    exact ih ((n, a) :: acc)
theorem CompNames.closure (e : EnvF env L ks cs) {scope : Scope} {ks' : List (List Nat × NameKind)} {cl : List (Str × Addr)} {cs' : List (List Nat × Addr)} (H : CompNames ks cs scope.names ks' cl cs') : closureFor scope env = pure cl.reverse := by
  have := closure_loop e (fun x r => match x with | (n, k) => if (k == NameKind.free) = true then (cellOf env n >>= fun a => pure (ForInStep.yield ((n, a) :: r))) else pure (ForInStep.yield r)) (fun n k r => rfl) H []
  rw [List.append_nil] at this
  rw [← this]
  unfold closureFor
  first
    | rfl
    | (rw [bind_pure]; done)
    | (rw [bind_pure]; rfl)
    | (simp only [bind_pure]; rfl)
end
end Mine
end

section
open PySem PySem.W PySem.Calls PyProof.Rows
set_option Elab.async false
set_option linter.all false
set_option maxRecDepth 100000
namespace Mine
def Tests (w : World) (A : Around) (ifs : List Expr) (cenv : Env) (h : Heap) (yes no : Heap → Prop) : Prop := match ifs with
  | [] => yes h
  | [c] => W w A (isTrue c cenv (eval c cenv)) (KC yes no) h
  | _ => False
inductive EltEnd (g : Heap) (C : Addr) (prot : Led) (J : Led → Prop) (h' : Heap) : Prop
  | mk (l' : Loc) (led' : Led) (S : St g C h' l' (prot ++ led')) (j : J led')
inductive CompAt (w : World) (A : Around) (g : Heap) (L : Addr) (kx : List Nat) (ks' : List (List Nat × NameKind)) (cs' : List (List Nat × Addr)) (ifs : List Expr) (elt : Expr) (up : Value → Loc → Loc) (P : Value → Heap → Prop) (it : Value) (h2 : Heap) : Prop
  | mk (n : Nat) (Pt : Nat → Value → Prop) (rest : Led) (l : Loc) (led : Led) (J : Nat → List Value → Led → Prop)
    (hi : IterAt w A g L l led n Pt rest it h2) (hz : n ≤ 16777216) (j0 : J 0 [] led)
    (turn : ∀ i v ys led I oI oL D oD C h cenv, i < n → Pt i v → ys.length ≤ i → J i ys led → EnvF cenv C ks' cs' → St g C h [(kx, v)] ((I, oI) :: (L, oL) :: (D, oD) :: rest ++ led) →
      Tests w A ifs cenv h
        (W w A (eval elt cenv) (fun y => EltEnd g C ((I, oI) :: (L, oL) :: (D, oD) :: rest) (J (i + 1) (ys ++ [y]))))
        (EltEnd g C ((I, oI) :: (L, oL) :: (D, oD) :: rest) (J (i + 1) ys)))
    (fin : ∀ ys led D oD h, ys.length ≤ n → J n ys led → IsL ys oD → St g L h (up (.ref D) l) ((D, oD) :: rest ++ led) → P (.ref D) h)
section
variable {w : World} {A : Around} {h g : Heap} {env : Env} {L : Addr} {l : Loc} {led rest : Led} {ks ks' : List (List Nat × NameKind)} {cs cs' : List (List Nat × Addr)}
theorem St.swap {C : Addr} {oL : Obj} {l' : Loc} (S : St g C h l' ((L, oL) :: led)) (HL : LocO l oL) : ∃ oC, LocO l' oC ∧ St g L h l ((C, oC) :: led) := by
  obtain ⟨oC, eC, HC⟩ := S.fr
  have hL := S.N (L, oL) (.head _)
  have D := S.D
  rw [List.map_cons, List.nodup_cons] at D
  refine ⟨oC, HC, ⟨oL, hL.1, HL⟩, S.keep, hL.2.2, fun p hp => ?_, ?_⟩
  · rcases List.mem_cons.mp hp with rfl | hp
    · exact ⟨eC, Ne.symm hL.2.1, S.hL⟩
    · have := S.N p (.tail _ hp)
      exact ⟨this.1, fun z => D.1 (List.mem_map.mpr ⟨p, hp, z⟩), this.2.2⟩
  · rw [List.map_cons, List.nodup_cons]
    refine ⟨fun z => ?_, D.2⟩
    obtain ⟨p, hp, z⟩ := List.mem_map.mp z
    exact (S.N p (.tail _ hp)).2.1 z
theorem St.without {C : Addr} {oC : Obj} {h' : Heap} (S : St g L h l ((C, oC) :: led)) (hs : Heap.SameBut C h h') : St g L h' l led := S.keepBut fun b o hb z => (hs.2 b (by simpa using hb)).trans z

inductive CbInv (g : Heap) (C I L D : Addr) (oL : Obj) (rest : Led) (n : Nat) (StI : Nat → Heap → Prop) (J : Nat → List Value → Led → Prop) (s : Shared) (m : Nat) (s' : Shared) : Prop
  | mk (i : Nat) (h' : Heap) (tk : Nat) (ys : List Value) (l' : Loc) (led : Led) (oI oD : Obj) (e : s' = { s with heap := h', toks := tk }) (hi : i ≤ n) (hm : m = n + 1 - i) (hy : ys.length ≤ i) (st : StI i h') (hl : IsL ys oD)
    (S : St g C h' l' ((I, oI) :: (L, oL) :: (D, oD) :: rest ++ led)) (hj : J i ys led)
theorem comp_block (e : EnvF env L ks cs) {elt iter : Expr} {x : Str} {px pos : Pos} {ifs : List Expr} {scope : Scope} {cl : List (Str × Addr)} {kx : List Nat} (hx : key x = kx)
    (H : CompNames ks cs scope.names ks' cl cs') (hk : scope.kind = .function) (hxl : scope.names.lookup x = some .local)
    {n : Nat} {Pt : Nat → Value → Prop} {J : Nat → List Value → Led → Prop} {I : Addr} {StI : Nat → Heap → Prop} {oI oL : Obj} {s : Shared} {h2 : Heap} {tk2 : Nat} {E : Value → Shared → Prop} {RR : Value → Addr → Result → Shared → Prop}
    (live : ∀ i h, StI i h → ∃ o, h.get? I = some o) (Wk : Walks PG w A I (I :: rest.map (·.1)) [I] n Pt StI) (st0 : StI 0 h2) (S : St g L h2 l ((I, oI) :: rest ++ led)) (hz : n ≤ 16777216) (j0 : J 0 [] led) (eL : h2.get? L = some oL)
    (turn : ∀ i v ys led I oI oL D oD C h cenv, i < n → Pt i v → ys.length ≤ i → J i ys led → EnvF cenv C ks' cs'.reverse → St g C h [(kx, v)] ((I, oI) :: (L, oL) :: (D, oD) :: rest ++ led) →
      Tests w A ifs cenv h
        (fun h1 => W w A (eval elt cenv) (fun y h2 => EltEnd g C ((I, oI) :: (L, oL) :: (D, oD) :: rest) (J (i + 1) (ys ++ [y])) h2) h1)
        (fun h1 => EltEnd g C ((I, oI) :: (L, oL) :: (D, oD) :: rest) (J (i + 1) ys) h1))
    (fin : ∀ ys led D oD C l' h3 tk3, ys.length ≤ n → J n ys led → IsL ys oD → St g C h3 l' ((L, oL) :: (D, oD) :: rest ++ led) → RR (.ref D) C (.ok .next) { s with heap := h3, toks := tk3 }) :
    wpAny (model PG w) A (newList []) (fun acc s₃ => wpAny (model PG w) A (newFunctionEnv scope env.globals cl.reverse [] env.qual none .none (some env)) (fun cenv s₄ =>
      codeAny (model PG w) A (.compStart (.ListComp elt [⟨.Name x px, iter, ifs, 0⟩] scope pos) 0 (.ref I) acc { cenv with scope := relabel scope env }) (RR acc cenv.locals) s₄) E s₃) E { s with heap := h2, toks := tk2 } := by
  refine wpAny_newObj_type (wpAny_newFunctionEnv H.noCell (by intro y hy; simp at hy) (fun h₁ hns₁ hsb₁ => ?_) hk) (Nat.zero_le _)
  dsimp only at hns₁ hsb₁ ⊢
  generalize hH2 : h2.push { cls := .type "list", dict := none, data := .seq ([] : List Value).toArray } = H2 at hns₁ hsb₁ ⊢
  have hC : H2.objs.size = h2.objs.size + 1 := by rw [← hH2, Heap.size_push]
  have fresh : ∀ a, h2.objs.size ≤ a → h2.get? a = none := fun a ha => Heap.get?_none_of_le ha
  have below : ∀ b, b < h2.objs.size → b ≠ H2.objs.size ∧ b ≠ h2.objs.size := fun b hb => ⟨by rw [hC]; exact Nat.ne_of_lt (Nat.lt_succ_of_lt hb), Nat.ne_of_lt hb⟩
  have hDC : h2.objs.size ≠ H2.objs.size := by rw [hC]; exact Nat.ne_of_lt (Nat.lt_succ_self _)
  have old : ∀ b o, h2.get? b = some o → h₁.get? b = some o := fun b o e => hsb₁.extBut b o (below b (Heap.lt_size e)).1 (Heap.get?_push_of_some _ (hH2 ▸ Heap.get?_push_of_some _ e))
  have hD₁ : h₁.get? h2.objs.size = some (listOf #[] 0) := hsb₁.extBut _ _ hDC (Heap.get?_push_of_some _ (hH2 ▸ Heap.get?_push_size _ rfl))
  obtain ⟨oC, eC, hnC⟩ := nsO_of hns₁
  have gf : ∀ a, h2.objs.size ≤ a → g.get? a = none := fun a ha => by
    cases q : g.get? a with
    | none => rfl
    | some o => have := S.keep _ _ q; rw [fresh a ha] at this; cases this
  have hCle : h2.objs.size ≤ H2.objs.size := by rw [hC]; exact Nat.le_succ _
  have S₁ : St g H2.objs.size h₁ [] ((I, oI) :: (L, oL) :: (h2.objs.size, listOf #[] 0) :: rest ++ led) := by
    refine ⟨⟨oC, eC, _, hnC, fun y v z => by cases z⟩, fun b o z => old b o (S.keep b o z), gf _ hCle, fun p hp => ?_, ?_⟩
    · have one : ∀ p : Addr × Obj, h2.get? p.1 = some p.2 → h₁.get? p.1 = some p.2 ∧ p.1 ≠ H2.objs.size := fun p z => ⟨old _ _ z, (below _ (Heap.lt_size z)).1⟩
      rcases List.mem_cons.mp hp with rfl | hp
      · have := S.N (I, oI) (.head _); exact ⟨(one _ this.1).1, (one _ this.1).2, this.2.2⟩
      · rcases List.mem_cons.mp hp with rfl | hp
        · exact ⟨(one (L, oL) eL).1, (one (L, oL) eL).2, S.hL⟩
        · rcases List.mem_cons.mp hp with rfl | hp
          · exact ⟨hD₁, hDC, gf _ (Nat.le_refl _)⟩
          · have := S.N p (.tail _ hp); exact ⟨(one _ this.1).1, (one _ this.1).2, this.2.2⟩
    · have D := S.D
      have nin : ∀ p ∈ (I, oI) :: rest ++ led, p.1 ≠ L ∧ p.1 ≠ h2.objs.size := fun p hp => ⟨(S.N p hp).2.1, (below _ (Heap.lt_size (S.N p hp).1)).2⟩
      rw [List.cons_append, List.map_cons, List.nodup_cons] at D
      show ((I :: L :: h2.objs.size :: (rest ++ led).map (·.1)) : List Addr).Nodup
      refine List.nodup_cons.mpr ⟨fun z => ?_, List.nodup_cons.mpr ⟨fun z => ?_, List.nodup_cons.mpr ⟨fun z => ?_, D.2⟩⟩⟩
      · rcases List.mem_cons.mp z with z | z
        · exact (nin (I, oI) (.head _)).1 z
        · rcases List.mem_cons.mp z with z | z
          · exact (nin (I, oI) (.head _)).2 z
          · exact D.1 z
      · rcases List.mem_cons.mp z with z | z
        · exact (below L (Heap.lt_size eL)).2 z
        · obtain ⟨p, hp, z⟩ := List.mem_map.mp z
          exact (nin p (.tail _ hp)).1 z
      · obtain ⟨p, hp, z⟩ := List.mem_map.mp z
        exact (nin p (.tail _ hp)).2 z
  have ec : EnvF (compEnvC scope cl.reverse H2.objs.size env) H2.objs.size ks' cs'.reverse := by
    refine ⟨hk, rfl, e.globals, e.builtins, ?_, ?_⟩
    · exact H.relabel e
    · show cl.reverse.map _ = _
      rw [List.map_reverse, H.cells]
  have hkx : ks'.lookup kx = some .local := by
    have := lookup_relabel_local (env := env) hxl
    rw [← lookup_names, H.relabel e, hx] at this
    exact this
  have loop : ∀ tk₀ : Nat, codeAny (model PG w) A (.compLoop (.ListComp elt [⟨.Name x px, iter, ifs, 0⟩] scope pos) 0 (.ref I) (.ref h2.objs.size) (compEnvC scope cl.reverse H2.objs.size env))
      (RR (.ref h2.objs.size) H2.objs.size) { s with heap := h₁, toks := tk₀ } := by
    intro tk₀
    refine codeAny_compLoop_tests
      (CbInv g H2.objs.size I L h2.objs.size oL rest n StI J s) ?_ (n + 1)
      ⟨0, h₁, tk₀, [], [], led, oI, _, rfl, Nat.zero_le _, rfl, Nat.le_refl _, Wk.frame _ _ _ st0 fun b _ o z => old b o z, ⟨0, rfl⟩, S₁, j0⟩
    rintro m s' ⟨i, h', tk', ys, l', led, oI, oD, rfl, hi, rfl, hyl, hst', hys, S', hj⟩
    by_cases hlt : i < n
    · refine Wk.item i _ _ _ hlt hst' fun v h3 tk3 hP hst3 hk3 => ?_
      obtain ⟨oI', hI⟩ := live _ _ hst3
      have S3 := S'.again (S'.keepBut hk3) hI
      refine wpAny_assign_Name (W.use (w_store ec S3 hx hkx (P := fun _ h4 => St g H2.objs.size h4 ((kx, v) :: l') ((I, oI') :: (L, oL) :: (h2.objs.size, oD) :: rest ++ led)) fun h' S4 => S4) rfl fun _ h4 tk4 S4 => ?_)
      have keepSt : ∀ {ha hb : Heap} {la lb : Loc} {leda ledb : Led} {oDa oDb : Obj} {j : Nat}, StI j ha → St g H2.objs.size ha la ((I, oI') :: (L, oL) :: (h2.objs.size, oDa) :: rest ++ leda) → St g H2.objs.size hb lb ((I, oI') :: (L, oL) :: (h2.objs.size, oDb) :: rest ++ ledb) → StI j hb := by
        intro ha hb la lb leda ledb oDa oDb j hst Sa Sb
        refine Wk.frame _ _ _ hst fun b hb o eo => ?_
        rcases List.mem_cons.mp hb with rfl | hb
        · have e1 := Sa.get (List.Mem.head _); rw [eo] at e1; cases e1; exact Sb.get (List.Mem.head _)
        · obtain ⟨p, hp, rfl⟩ := List.mem_map.mp hb
          have e1 := Sa.get (List.mem_append_left leda (List.Mem.tail _ (List.Mem.tail _ (List.Mem.tail _ hp)))); rw [eo] at e1; cases e1
          exact Sb.get (List.mem_append_left ledb (List.Mem.tail _ (List.Mem.tail _ (List.Mem.tail _ hp))))
      have hst4 := keepSt hst3 S3 S4
      have T := turn i v ys led I oI' oL h2.objs.size oD H2.objs.size h4 _ hlt hP hyl hj ec (S4.locs (fun p hp => by
        rcases List.mem_cons.mp hp with rfl | hp
        · simp
        · cases hp))
      have noEnd : ∀ h5 tk5, EltEnd g H2.objs.size ((I, oI') :: (L, oL) :: (h2.objs.size, oD) :: rest) (J (i + 1) ys) h5 → ∃ m, m < n + 1 - i ∧ CbInv g H2.objs.size I L h2.objs.size oL rest n StI J s m ({ s with heap := h5, toks := tk5 } : Shared) := by
        rintro h5 tk5 ⟨l5, led5, S5, j5⟩
        exact ⟨n + 1 - (i + 1), by omega, i + 1, h5, tk5, ys, l5, led5, oI', oD, rfl, hlt, rfl, by omega, keepSt hst4 S4 S5, hys, S5, j5⟩
      have yesEnd : ∀ h5 tk5, W w A (eval elt (compEnvC scope cl.reverse H2.objs.size env)) (fun y h2' => EltEnd g H2.objs.size ((I, oI') :: (L, oL) :: (h2.objs.size, oD) :: rest) (J (i + 1) (ys ++ [y])) h2') h5 → ∀ E : Value → Shared → Prop,
          wpAny (model PG w) A (eval elt (compEnvC scope cl.reverse H2.objs.size env)) (fun y s4 => wpAny (model PG w) A (call (.builtin "list.append") [.ref h2.objs.size, y]) (fun _ s5 => ∃ m, m < n + 1 - i ∧ CbInv g H2.objs.size I L h2.objs.size oL rest n StI J s m s5) E s4) E { s with heap := h5, toks := tk5 } := by
        intro h5 tk5 hw E
        refine hw.use rfl fun y h6 tk6 hy => ?_
        obtain ⟨l6, led6, S6, j6⟩ := hy
        refine W.use (d_append S6 (.tail (.tail .head)) hys (by omega) (P := fun _ h7 => ∃ o', IsL (ys ++ [y]) o' ∧ St g H2.objs.size h7 l6 ((I, oI') :: (L, oL) :: (h2.objs.size, o') :: rest ++ led6)) fun h7 o' h1 h2 => ⟨o', h1, h2⟩) rfl fun _ h7 tk7 hz7 => ?_
        obtain ⟨o', hl', S7⟩ := hz7
        exact ⟨n + 1 - (i + 1), by omega, i + 1, h7, tk7, ys ++ [y], l6, led6, oI', o', rfl, hlt, rfl, by simp; omega, keepSt hst4 S4 S7, hl', S7, j6⟩
      match ifs, T with
      | [], T =>
        refine wpAny_tests_nil ?_
        rw [if_pos rfl]
        exact yesEnd h4 tk4 T _
      | [c], T =>
        have T' : W w A (isTrue c (compEnvC scope cl.reverse H2.objs.size env) (eval c (compEnvC scope cl.reverse H2.objs.size env))) (fun b h1 => (b = true → W w A (eval elt (compEnvC scope cl.reverse H2.objs.size env)) (fun y h2' => EltEnd g H2.objs.size ((I, oI') :: (L, oL) :: (h2.objs.size, oD) :: rest) (J (i + 1) (ys ++ [y])) h2') h1) ∧ (b = false → EltEnd g H2.objs.size ((I, oI') :: (L, oL) :: (h2.objs.size, oD) :: rest) (J (i + 1) ys) h1)) h4 := T
        refine wpAny_tests_one (W.use T' rfl fun b h5 tk5 hb => ?_)
        cases b with
        | true => rw [if_pos rfl]; exact yesEnd h5 tk5 (hb.1 rfl) _
        | false => rw [if_neg (by simp)]; exact noEnd h5 tk5 (hb.2 rfl)
      | _ :: _ :: _, T => exact T.elim
    · have : i = n := by omega
      subst this
      refine Wk.done _ _ _ hst' fun h3 tk3 hk3 => ?_
      exact fin ys led h2.objs.size oD H2.objs.size l' h3 tk3 hyl hj hys (S'.keepBut hk3)
  exact codeAny_compStart_list (loop _) (Wk.self 0 _ _ _ (Wk.frame _ _ _ st0 fun b _ o z => old b o z) (loop _))

theorem w_comp (e : EnvF env L ks cs) {elt iter : Expr} {x : Str} {px pos : Pos} {ifs : List Expr} {scope : Scope} {cl : List (Str × Addr)} {kx : List Nat} {P : Value → Heap → Prop} (hx : key x = kx)
    (H : CompNames ks cs scope.names ks' cl cs') (hk : scope.kind = .function) (hxl : scope.names.lookup x = some .local) (hnames : ∀ x ∈ scope.names, x.2 = .local → scope.names.lookup x.1 = some .local)
    (k : W w A (eval iter env) (K1 w A pyIter (CompAt w A g L kx ks' cs'.reverse ifs elt (fun _ l => l) P)) h)
    (hs : ∀ x, foldedSetIterable iter env x = pure x) :
    W w A (eval (.ListComp elt [⟨.Name x px, iter, ifs, 0⟩] scope pos) env) P h :=
  W.of fun s Q hs' q => by
    subst hs'
    rw [eval_ListComp]
    refine wpAny_comprehension_free (use := none) rfl hs (H.closure e) hk hnames (k.use rfl fun xv h1 tk1 x1 => x1.use rfl fun it h2 tk2 ca => ?_)
    obtain ⟨n, Pt, rest, l, led, J, ⟨I, StI, oI, rfl, live, Wk, st0, S⟩, hz, j0, turn, fin⟩ := ca
    obtain ⟨oL, eL, HL⟩ := S.fr
    refine comp_block e hx H hk hxl live Wk st0 S hz j0 eL turn (RR := fun acc C => compPost (model PG w) A (fun _ _ => False) none Q acc C) fun ys led D oD C l' h3 tk3 hyl hj hys S3 => ?_
    obtain ⟨oC, HC, S4⟩ := S3.swap HL
    obtain ⟨mC, hnC, _⟩ := S3.ns
    exact ⟨mC, hnC, fun h4 hs4 => q _ _ _ (fin ys led D oD h4 hyl hj hys (S4.without hs4))⟩
theorem swaps_true (e : EnvF env L ks cs) {elt : Expr} {gens : List Comprehension} {scope : Scope} {pos py : Pos} {y : Str} {line : Nat} {ky : List Nat} (hy : key y = ky) (hky : ks.lookup ky = some .local) (hl : (py.line == pos.line) = true)
    (hn : (scope.names.any fun (n, k) => n == y && (k == .local || k == .cell)) = false) : swapsWith (.ListComp elt gens scope pos) (some (.Name y py)) line env = pure true := by
  have h1 : (env.blockKind == .function && env.kindOf y == some .local && py.line == pos.line && !(scope.names.any fun (n, k) => n == y && (k == .local || k == .cell))) = true := by
    rw [hn, hl, e.kindOf hy hky]
    have : env.blockKind = .function := by unfold Env.blockKind; rw [e.kind]; rfl
    rw [this]; rfl
  show (pure _ : Sem Bool) = _
  rw [show (Expr.ListComp elt gens scope pos).pos = pos from rfl, h1]
theorem w_assignComp (e : EnvF env L ks cs) {elt iter : Expr} {x y : Str} {px py pos spos : Pos} {ifs : List Expr} {scope : Scope} {cl : List (Str × Addr)} {kx ky : List Nat} {P : Flow → Heap → Prop} (hx : key x = kx)
    (H : CompNames ks cs scope.names ks' cl cs') (hk : scope.kind = .function) (hxl : scope.names.lookup x = some .local) (hnames : ∀ x ∈ scope.names, x.2 = .local → scope.names.lookup x.1 = some .local)
    (hy : key y = ky) (hky : ks.lookup ky = some .local) (hl : (py.line == pos.line) = true) (hn : (scope.names.any fun (n, k) => n == y && (k == .local || k == .cell)) = false)
    (k : W w A (eval iter env) (K1 w A pyIter (CompAt w A g L kx ks' cs'.reverse ifs elt (fun v l => (ky, v) :: l) (fun _ => P .next))) h)
    (hs : ∀ x, foldedSetIterable iter env x = pure x) :
    W w A (exec (.Assign [.Name y py] (.ListComp elt [⟨.Name x px, iter, ifs, 0⟩] scope pos) spos) env) P h :=
  W.of fun s Q hs' q => by
    subst hs'
    rw [exec_Assign_Name_used _ _ _ _ (swaps_true e hy hky hl hn)]
    refine wpAny_bind (wpAny_standAt (wpAny_bind ?_))
    show wpAny _ A (do let _ ← comprehension (.ListComp elt [⟨.Name x px, iter, ifs, 0⟩] scope pos) scope env _ (newList []) false (eval iter env) (some (assign (.Name y py) env))) _ _ s
    refine wpAny_bind (wpAny_mono (wpAny_comprehension_free (use := some (assign (.Name y py) env)) (Q := fun _ s' => Q .next s') rfl hs (H.closure e) hk hnames (k.use rfl fun xv h1 tk1 x1 => x1.use rfl fun it h2 tk2 ca => ?_)) (fun _ s' hq => wpAny_pure (wpAny_pure hq)) fun _ _ z => z)
    obtain ⟨n, Pt, rest, l, led, J, ⟨I, StI, oI, rfl, live, Wk, st0, S⟩, hz, j0, turn, fin⟩ := ca
    obtain ⟨oL, eL, HL⟩ := S.fr
    refine comp_block e hx H hk hxl live Wk st0 S hz j0 eL turn (RR := fun acc C => compPost (model PG w) A (fun _ _ => False) (some (assign (.Name y py) env)) (fun _ s' => Q .next s') acc C) fun ys led D oD C l' h3 tk3 hyl hj hys S3 => ?_
    obtain ⟨oC, HC, S4⟩ := S3.swap HL
    show wpAny _ A (assign (.Name y py) env (.ref D)) _ _ _
    refine wpAny_assign_Name (W.use (w_store e S4 hy hky (P := fun _ h5 => St g L h5 ((ky, .ref D) :: l) ((C, oC) :: (D, oD) :: rest ++ led)) fun h' S5 => S5) rfl fun _ h5 tk5 S5 => ?_)
    obtain ⟨mC, hnC, _⟩ := HC
    refine ⟨mC, hnC.ns (S5.get (List.Mem.head _)), fun h6 hs6 => ?_⟩
    exact q _ _ _ (fin ys led D oD h6 hyl hj hys (S5.without hs6))
theorem t_unpack2 (S : St g L h l led) (hA : A.handled = none) {a : Addr} {u v : Value} (m : (a, tupO [u, v]) ∈ led) {x y : Str} {px py pos : Pos} {n : Nat} {P : Unit → Heap → Prop}
    (k : ∀ h', St g L h' l led → W w A (storeName env x u) (K1 w A (fun _ => storeName env y v) P) h') : W w A (assign (.Tuple [.Name x px, .Name y py] n pos) env (.ref a)) P h :=
  t_unpack S hA m rfl rfl fun h' S' => w_order_cons (w_assignName ((k h' S').mono fun _ h1 hk => w_order_cons (w_assignName (hk.mono fun _ h2 hp => w_order_nil hp))))
theorem t_unpack3 (S : St g L h l led) (hA : A.handled = none) {a : Addr} {u v z : Value} (m : (a, tupO [u, v, z]) ∈ led) {x y y2 : Str} {px py p3 pos : Pos} {n : Nat} {P : Unit → Heap → Prop}
    (k : ∀ h', St g L h' l led → W w A (storeName env x u) (K1 w A (fun _ => storeName env y v) (K1 w A (fun _ => storeName env y2 z) P)) h') : W w A (assign (.Tuple [.Name x px, .Name y py, .Name y2 p3] n pos) env (.ref a)) P h :=
  t_unpack S hA m rfl rfl fun h' S' => w_order_cons (w_assignName ((k h' S').mono fun _ h1 hk => w_order_cons (w_assignName (hk.mono fun _ h2 hk2 => w_order_cons (w_assignName (hk2.mono fun _ h3 hp => w_order_nil hp))))))
theorem w_swap2 {x y : Str} {px py ps pos : Pos} {n : Nat} {value : Expr} {P : Flow → Heap → Prop} (hw : swappedStores [.Tuple [.Name x px, .Name y py] n ps] value env = pure (some [x, y]))
    (k : W w A (eval value env) (fun v h1 => W w A (unpackItems v 2 none) (fun items h2 => ∃ u z, items = [u, z] ∧ W w A (storeName env y z) (K1 w A (fun _ => storeName env x u) (KN P)) h2) h1) h)
    (hs : swapsWithSole [.Tuple [.Name x px, .Name y py] n ps] value pos.line env = pure false) : W w A (exec (.Assign [.Tuple [.Name x px, .Name y py] n ps] value pos) env) P h :=
  w_swaptuple hw (k.mono fun v h1 hk => hk.mono fun items h2 hi => by
    obtain ⟨u, z, rfl, hk⟩ := hi
    exact w_order_cons (w_bindName (hk.mono fun _ h3 hk3 => w_order_cons (w_bindName (hk3.mono fun _ h4 hp => w_order_nil hp))))) hs
theorem w_swap3 {x y y2 : Str} {px py p3 ps pos : Pos} {n : Nat} {value : Expr} {P : Flow → Heap → Prop} (hw : swappedStores [.Tuple [.Name x px, .Name y py, .Name y2 p3] n ps] value env = pure (some [x, y, y2]))
    (k : W w A (eval value env) (fun v h1 => W w A (unpackItems v 3 none) (fun items h2 => ∃ u z z2, items = [u, z, z2] ∧ W w A (storeName env y2 z2) (K1 w A (fun _ => storeName env y z) (K1 w A (fun _ => storeName env x u) (KN P))) h2) h1) h)
    (hs : swapsWithSole [.Tuple [.Name x px, .Name y py, .Name y2 p3] n ps] value pos.line env = pure false) : W w A (exec (.Assign [.Tuple [.Name x px, .Name y py, .Name y2 p3] n ps] value pos) env) P h :=
  w_swaptuple hw (k.mono fun v h1 hk => hk.mono fun items h2 hi => by
    obtain ⟨u, z, z2, rfl, hk⟩ := hi
    exact w_order_cons (w_bindName (hk.mono fun _ h3 hk3 => w_order_cons (w_bindName (hk3.mono fun _ h4 hk4 => w_order_cons (w_bindName (hk4.mono fun _ h5 hp => w_order_nil hp))))))) hs
theorem t_items2 (S : St g L h l led) (hA : A.handled = none) {a : Addr} {u z : Value} (m : (a, tupO [u, z]) ∈ led) {K : Value → Value → Heap → Prop} (k : ∀ h', St g L h' l led → K u z h') : W w A (unpackItems (.ref a) 2 none) (fun items h2 => ∃ u z, items = [u, z] ∧ K u z h2) h :=
  t_items S hA m rfl fun h' S' => ⟨u, z, rfl, k h' S'⟩
theorem t_items3 (S : St g L h l led) (hA : A.handled = none) {a : Addr} {u z z2 : Value} (m : (a, tupO [u, z, z2]) ∈ led) {K : Value → Value → Value → Heap → Prop} (k : ∀ h', St g L h' l led → K u z z2 h') : W w A (unpackItems (.ref a) 3 none) (fun items h2 => ∃ u z z2, items = [u, z, z2] ∧ K u z z2 h2) h :=
  t_items S hA m rfl fun h' S' => ⟨u, z, z2, rfl, k h' S'⟩
end
end Mine
end

section
open PySem PySem.W PySem.Calls PyProof.Rows
set_option Elab.async false
set_option linter.all false
set_option maxRecDepth 100000
namespace Mine
theorem meets_range_in (r : Addr) (a b c i : Int) (t u v ti : Tok) :
    Meets (Builtin.«range.__contains__» ⟨[.ref r, .int i ti], []⟩) (fun _ R s => s.heap.get? r = some { cls := .type "range", dict := none, data := .fields #[.int a t, .int b u, .int c v], slots := #[] } ∧ R (.ok (.ret (.bool (Builtin.Range.rangePlace? a b c i).isSome))) s) :=
  .of_wp fun prog w A R s h => by obtain ⟨hp, g, d, tk, os⟩ := s; obtain ⟨hl, h⟩ := h; wp_walk; exact ⟨_, rfl, h⟩
section
variable {w : World} {A : Around} {h g : Heap} {env : Env} {L : Addr} {l l' : Loc} {led rest : Led} {ks : List (List Nat × NameKind)} {cs : List (List Nat × Addr)}
theorem locs_nil : ∀ p ∈ ([] : Loc), l.lookup p.1 = some p.2 := fun p hp => by cases hp
theorem locs_cons {k : List Nat} {v : Value} {r : Loc} (hv : l.lookup k = some v) (hr : ∀ p ∈ r, l.lookup p.1 = some p.2) : ∀ p ∈ (k, v) :: r, l.lookup p.1 = some p.2 := fun p hp => by
  rcases List.mem_cons.mp hp with rfl | hp
  · exact hv
  · exact hr p hp
theorem for_fix {n : Nat} {Pt : Nat → Value → Prop} {it : Value} {h2 : Heap} {kx : List Nat} {body : Heap → (Flow → Heap → Prop) → Prop} {P : Flow → Heap → Prop} (hi : IterAt w A g L l led n Pt rest it h2) (Q : Nat → Prop) (q0 : Q 0)
    (step : ∀ i v I oI h, i < n → Pt i v → Q i → St g L h ((kx, v) :: l) ((I, oI) :: rest ++ led) → body h (TurnEnd g L ((I, oI) :: rest) (fun l' led' => l' = l ∧ led' = led ∧ Q (i + 1)) P))
    (done : ∀ h, Q n → St g L h l (rest ++ led) → P .next h) : ForAt w A g L kx body P it h2 :=
  for_of hi (fun i l' led' => l' = l ∧ led' = led ∧ Q i) ⟨rfl, rfl, q0⟩ (fun i v l1 led1 I oI h hin hp hj S => by
    obtain ⟨rfl, rfl, hq⟩ := hj
    exact step i v I oI h hin hp hq S) (fun l1 led1 h hj S => by
    obtain ⟨rfl, rfl, hq⟩ := hj
    exact done h hq S)
theorem small_le {a b : Int} (h0 : -100000 ≤ a) (h1 : a ≤ 100000) (h2 : -100000 ≤ b) (h3 : b ≤ 100000) : Builtin.Range.small a b 1 = true := by
  have fit : ∀ x : Int, -300000 ≤ x → x ≤ 300000 → Builtin.Range.rangeFitsLong x = true := fun x h0 h1 => by
    unfold Builtin.Range.rangeFitsLong
    simp only [Bool.and_eq_true, decide_eq_true_eq]
    omega
  unfold Builtin.Range.small
  rw [range_one, fit a (by omega) (by omega), fit b (by omega) (by omega), fit 1 (by omega) (by omega), fit _ (by omega) (by omega), if_pos (by decide), fit _ (by omega) (by omega)]
  simp
theorem it_range1 (S : St g L h l led) (hA : A.handled = none) {n : Nat} {r : Addr} {o : Obj} (m : (r, o) ∈ led) (hr : IsRg 0 n 1 o) (hn : n ≤ 100000) :
    W w A (pyIter (.ref r)) (IterAt w A g L l led n (fun i v => ∃ t, v = .int (i : Int) t) []) h := by
  have hs := small_le (a := 0) (b := (n : Int)) (by omega) (by omega) (by omega) (by omega)
  refine (it_range S hA m hr hs (n := n) (by rw [range_one]; omega)).mono fun it h2 hi => ?_
  obtain ⟨I, StI, oI, e, live, Wk, st, S'⟩ := hi
  refine ⟨I, StI, oI, e, live, ⟨Wk.sub, Wk.frame, fun i s Q E hi st k => Wk.item i s Q E hi st fun v h' tk hp => k v h' tk ?_, Wk.done, Wk.self⟩, st, S'⟩
  obtain ⟨_, t, e⟩ := hp
  exact ⟨t, by rw [e]; simp⟩
theorem it_range0 (S : St g L h l led) (hA : A.handled = none) {a b : Int} {r : Addr} {o : Obj} (m : (r, o) ∈ led) (hr : IsRg a b 1 o) (hab : b ≤ a) (h0 : -100000 ≤ b) (h1 : a ≤ 100000) (h2 : -100000 ≤ a) :
    W w A (pyIter (.ref r)) (IterAt w A g L l led 0 (fun _ _ => False) []) h := by
  have hs := small_le (a := a) (b := b) h2 h1 h0 (by omega)
  refine (it_range S hA m hr hs (n := 0) (by rw [range_one]; omega)).mono fun it h2 hi => ?_
  obtain ⟨I, StI, oI, e, live, Wk, st, S'⟩ := hi
  exact ⟨I, StI, oI, e, live, ⟨Wk.sub, Wk.frame, fun i s Q E hi st k => absurd hi (Nat.not_lt_zero _), Wk.done, Wk.self⟩, st, S'⟩
theorem tests_nil {cenv : Env} {yes no : Heap → Prop} (k : yes h) : Tests w A [] cenv h yes no := k
theorem tests_one {c : Expr} {cenv : Env} {yes no : Heap → Prop} (k : W w A (isTrue c cenv (eval c cenv)) (fun b h1 => (b = true → yes h1) ∧ (b = false → no h1)) h) : Tests w A [c] cenv h yes no := k
def TkF (fam led rest : Led) : Prop := led.Perm (fam ++ rest)
theorem TkF.head {fam r : Led} : TkF fam (fam ++ r) r := .refl _
theorem TkF.all {fam : Led} : TkF fam fam [] := by unfold TkF; rw [List.append_nil]
theorem TkF.tail {fam r r' : Led} {p : Addr × Obj} (H : TkF fam r r') : TkF fam (p :: r) (p :: r') := (List.Perm.cons p H).trans List.perm_middle.symm
theorem TkF.over {fam f2 r r' : Led} (H : TkF fam r r') : TkF fam (f2 ++ r) (f2 ++ r') := by
  refine (List.Perm.append_left f2 H).trans ?_
  rw [← List.append_assoc, ← List.append_assoc]
  exact List.perm_append_comm.append_right _
theorem Pk.consF {fam fp r r1 rest : Led} (t : TkF fam r r1) (H : Pk fp r1 rest) : Pk (fam ++ fp) r rest := by
  unfold Pk
  rw [List.append_assoc]
  exact t.trans (List.Perm.append_left fam H)
theorem Pk.last {fam r rest : Led} (t : TkF fam r rest) : Pk fam r rest := t
theorem w_exprA {x : Expr} {pos : Pos} {P : Flow → Heap → Prop} (k : W w A (eval x env) (fun _ => P .next) h) (hi : interactive env = false) (hs : swapsWith x none pos.line env = pure false) : W w A (exec (.Expr x pos) env) P h :=
  W.of fun s Q hs' q => wpAny_Expr_any (k.use hs' fun v h' tk hp => q _ _ _ hp) hi hs
theorem in_range (S : St g L h l led) {a b c i : Int} {r : Addr} {o : Obj} {ti : Tok} (m : (r, o) ∈ led) (hr : IsRg a b c o) {P : Value → Heap → Prop} (k : P (.bool (Builtin.Range.rangePlace? a b c i).isSome) h) : W w A (compareOp .In (.int i ti) (.ref r)) P h :=
  W.of fun s Q hs q => by
    subst hs
    obtain ⟨t, u, v, rfl⟩ := hr
    exact PySem.SeqRoads2.in_meets ⟨_, S.get m, rfl⟩ F.slot_range_contains F.entry_range_contains (F.args_range_contains_2 _ _) (meets_range_in r a b c i t u v ti) ⟨S.get m, _, rfl, q _ _ s.toks k⟩
theorem w_lattr (e : EnvF env L ks cs) (S : St g L h l led) (G : Gd w g) {x attr : Str} {px pos : Pos} {kx ka : List Nat} {C xa dx : Addr} {fs : Loc} {o : Obj} {v : Value} {P : Value → Heap → Prop}
    (hx : key x = kx) (hk : ks.lookup kx = some .local) (hv : l.lookup kx = some (.ref xa)) (mx : (xa, instObj C dx) ∈ led) (md : (dx, o) ∈ led) (hf : IsF fs o)
    (hn : key attr = ka) (hv2 : fs.lookup ka = some v) (a : AttrOK (Mine.hd.heap_39 w.params) C attr) (k : P v h) (hh : handedIn v = true) (hd : (kx == [95, 95, 100, 101, 98, 117, 103, 95, 95]) = false) : W w A (eval (.Attribute (.Name x px) attr pos) env) P h :=
  w_attr (w_local e S hx hk hv (s_getattr S G mx md hf hn hv2 a k hh) hd)
end
end Mine
end

section
open PySem PySem.W PySem.Calls PyProof.Rows
set_option Elab.async false
set_option linter.all false
namespace Mine
set_option maxRecDepth 100000
@[simp] theorem nm_dot0 : key (Str.ofString ".0") = [46, 48] := by kernel_rfl!
@[simp] theorem ls_empty : key (Str.ofString "") = [] := by kernel_rfl!
@[simp] theorem ls_blank : key (Str.ofString " ") = [32] := by kernel_rfl!
@[simp] theorem ls_00 : key (Str.ofString "00") = [48, 48] := by kernel_rfl!
@[simp] theorem ls_02 : key (Str.ofString "02") = [48, 50] := by kernel_rfl!
@[simp] theorem ls_10 : key (Str.ofString "10") = [49, 48] := by kernel_rfl!
@[simp] theorem ls_14 : key (Str.ofString "14") = [49, 52] := by kernel_rfl!
@[simp] theorem ls_21 : key (Str.ofString "21") = [50, 49] := by kernel_rfl!
@[simp] theorem ls_22 : key (Str.ofString "22") = [50, 50] := by kernel_rfl!
@[simp] theorem ls_23 : key (Str.ofString "23") = [50, 51] := by kernel_rfl!
@[simp] theorem ls_24 : key (Str.ofString "24") = [50, 52] := by kernel_rfl!
@[simp] theorem ls_35 : key (Str.ofString "35") = [51, 53] := by kernel_rfl!
@[simp] theorem ls_39 : key (Str.ofString "39") = [51, 57] := by kernel_rfl!
@[simp] theorem ls_43 : key (Str.ofString "43") = [52, 51] := by kernel_rfl!
@[simp] theorem ls_44 : key (Str.ofString "44") = [52, 52] := by kernel_rfl!
@[simp] theorem ls_46 : key (Str.ofString "46") = [52, 54] := by kernel_rfl!
@[simp] theorem ls_47 : key (Str.ofString "47") = [52, 55] := by kernel_rfl!
@[simp] theorem ls_48 : key (Str.ofString "48") = [52, 56] := by kernel_rfl!
@[simp] theorem ls_49 : key (Str.ofString "49") = [52, 57] := by kernel_rfl!
@[simp] theorem ls_EXTEND : key (Str.ofString "EXTEND") = [69, 88, 84, 69, 78, 68] := by kernel_rfl!
@[simp] theorem ls_READ_NEXT : key (Str.ofString "READ NEXT") = [82, 69, 65, 68, 32, 78, 69, 88, 84] := by kernel_rfl!
@[simp] theorem ls_ascii : key (Str.ofString "ascii") = [97, 115, 99, 105, 105] := by kernel_rfl!
@[simp] theorem ls_dynamic : key (Str.ofString "dynamic") = [100, 121, 110, 97, 109, 105, 99] := by kernel_rfl!
@[simp] theorem ls_extend : key (Str.ofString "extend") = [101, 120, 116, 101, 110, 100] := by kernel_rfl!
@[simp] theorem ls_i_o : key (Str.ofString "i-o") = [105, 45, 111] := by kernel_rfl!
@[simp] theorem ls_indexed : key (Str.ofString "indexed") = [105, 110, 100, 101, 120, 101, 100] := by kernel_rfl!
@[simp] theorem ls_input : key (Str.ofString "input") = [105, 110, 112, 117, 116] := by kernel_rfl!
@[simp] theorem ls_output : key (Str.ofString "output") = [111, 117, 116, 112, 117, 116] := by kernel_rfl!
@[simp] theorem ls_random : key (Str.ofString "random") = [114, 97, 110, 100, 111, 109] := by kernel_rfl!
@[simp] theorem ls_relative : key (Str.ofString "relative") = [114, 101, 108, 97, 116, 105, 118, 101] := by kernel_rfl!
@[simp] theorem ls_sequential : key (Str.ofString "sequential") = [115, 101, 113, 117, 101, 110, 116, 105, 97, 108] := by kernel_rfl!
@[simp] theorem ls_tilde : key (Str.ofString "~") = [126] := by kernel_rfl!
theorem gl_KINDS (P : Params) : nsIn (Mine.hd.heap_39 P) mainGlobals (Str.ofString "KINDS") = some (some (.ref 63)) := by kernel_rfl!
theorem kt_63 (P : Params) : ∃ t0 t1 t2, (Mine.hd.heap_39 P).lookup 63 = some (tupO [.str (Str.ofString "sequential") t0, .str (Str.ofString "relative") t1, .str (Str.ofString "indexed") t2]) := ⟨_, _, _, rfl⟩
theorem kv_63 (P : Params) : ∃ vs, (Mine.hd.heap_39 P).lookup 63 = some (tupO vs) ∧ SV vs [[115, 101, 113, 117, 101, 110, 116, 105, 97, 108], [114, 101, 108, 97, 116, 105, 118, 101], [105, 110, 100, 101, 120, 101, 100]] := by obtain ⟨t0, t1, t2, e⟩ := kt_63 P; exact ⟨_, e, .cons ls_sequential (.cons ls_relative (.cons ls_indexed (.nil)))⟩
theorem gl__law_KINDS (P : Params) : nsIn (Mine.hd.heap_39 P) mainGlobals (Str.ofString "_law_KINDS") = some (some (.ref 545)) := by kernel_rfl!
theorem kt_545 (P : Params) : ∃ t0 t1 t2, (Mine.hd.heap_39 P).lookup 545 = some (tupO [.str (Str.ofString "sequential") t0, .str (Str.ofString "relative") t1, .str (Str.ofString "indexed") t2]) := ⟨_, _, _, rfl⟩
theorem kv_545 (P : Params) : ∃ vs, (Mine.hd.heap_39 P).lookup 545 = some (tupO vs) ∧ SV vs [[115, 101, 113, 117, 101, 110, 116, 105, 97, 108], [114, 101, 108, 97, 116, 105, 118, 101], [105, 110, 100, 101, 120, 101, 100]] := by obtain ⟨t0, t1, t2, e⟩ := kt_545 P; exact ⟨_, e, .cons ls_sequential (.cons ls_relative (.cons ls_indexed (.nil)))⟩
theorem gl_READING_keyfile (P : Params) : nsIn (Mine.hd.heap_39 P) mainGlobals (Str.ofString "READING_keyfile") = some (some (.ref 238)) := by kernel_rfl!
theorem kt_238 (P : Params) : ∃ t0 t1, (Mine.hd.heap_39 P).lookup 238 = some (tupO [.str (Str.ofString "input") t0, .str (Str.ofString "i-o") t1]) := ⟨_, _, rfl⟩
theorem kv_238 (P : Params) : ∃ vs, (Mine.hd.heap_39 P).lookup 238 = some (tupO vs) ∧ SV vs [[105, 110, 112, 117, 116], [105, 45, 111]] := by obtain ⟨t0, t1, e⟩ := kt_238 P; exact ⟨_, e, .cons ls_input (.cons ls_i_o (.nil))⟩
theorem gl_READING_rowfile (P : Params) : nsIn (Mine.hd.heap_39 P) mainGlobals (Str.ofString "READING_rowfile") = some (some (.ref 494)) := by kernel_rfl!
theorem kt_494 (P : Params) : ∃ t0 t1, (Mine.hd.heap_39 P).lookup 494 = some (tupO [.str (Str.ofString "input") t0, .str (Str.ofString "i-o") t1]) := ⟨_, _, rfl⟩
theorem kv_494 (P : Params) : ∃ vs, (Mine.hd.heap_39 P).lookup 494 = some (tupO vs) ∧ SV vs [[105, 110, 112, 117, 116], [105, 45, 111]] := by obtain ⟨t0, t1, e⟩ := kt_494 P; exact ⟨_, e, .cons ls_input (.cons ls_i_o (.nil))⟩
theorem gl_ADDING (P : Params) : nsIn (Mine.hd.heap_39 P) mainGlobals (Str.ofString "ADDING") = some (some (.ref 495)) := by kernel_rfl!
theorem kt_495 (P : Params) : ∃ t0 t1, (Mine.hd.heap_39 P).lookup 495 = some (tupO [.str (Str.ofString "output") t0, .str (Str.ofString "extend") t1]) := ⟨_, _, rfl⟩
theorem kv_495 (P : Params) : ∃ vs, (Mine.hd.heap_39 P).lookup 495 = some (tupO vs) ∧ SV vs [[111, 117, 116, 112, 117, 116], [101, 120, 116, 101, 110, 100]] := by obtain ⟨t0, t1, e⟩ := kt_495 P; exact ⟨_, e, .cons ls_output (.cons ls_extend (.nil))⟩
theorem gl_BY_ORDER (P : Params) : nsIn (Mine.hd.heap_39 P) mainGlobals (Str.ofString "BY_ORDER") = some (some (.ref 386)) := by kernel_rfl!
theorem kt_386 (P : Params) : ∃ t0 t1, (Mine.hd.heap_39 P).lookup 386 = some (tupO [.str (Str.ofString "sequential") t0, .str (Str.ofString "dynamic") t1]) := ⟨_, _, rfl⟩
theorem kv_386 (P : Params) : ∃ vs, (Mine.hd.heap_39 P).lookup 386 = some (tupO vs) ∧ SV vs [[115, 101, 113, 117, 101, 110, 116, 105, 97, 108], [100, 121, 110, 97, 109, 105, 99]] := by obtain ⟨t0, t1, e⟩ := kt_386 P; exact ⟨_, e, .cons ls_sequential (.cons ls_dynamic (.nil))⟩
theorem gl_KIND_LETTERS (P : Params) : ∃ t, nsIn (Mine.hd.heap_39 P) mainGlobals (Str.ofString "KIND_LETTERS") = some (some (.bytes #[83, 82, 73] t)) := ⟨_, rfl⟩
section
variable {w : World} {A : Around} {h g : Heap} {L : Addr} {l : Loc} {led : Led} {a : Addr}
theorem t_inK (S : St g L h l led) (G : Gd w g) {qs : List (List Nat)} (H : ∃ vs, (Mine.hd.heap_39 w.params).lookup a = some (tupO vs) ∧ SV vs qs) {x : Str} {t : Tok} {k : List Nat} {P : Value → Heap → Prop} (hx : key x = k) (kk : P (.bool (qs.any fun q => decide (q = k))) h) : W w A (compareOp .In (.str x t) (.ref a)) P h :=
  let ⟨_, e, H⟩ := H
  t_in S (tupO_at (S.keep _ _ (G.X _ _ e))) H hx kk
theorem t_notinK (S : St g L h l led) (G : Gd w g) {qs : List (List Nat)} (H : ∃ vs, (Mine.hd.heap_39 w.params).lookup a = some (tupO vs) ∧ SV vs qs) {x : Str} {t : Tok} {k : List Nat} {P : Value → Heap → Prop} (hx : key x = k) (kk : P (.bool (!qs.any fun q => decide (q = k))) h) : W w A (compareOp .NotIn (.str x t) (.ref a)) P h :=
  let ⟨_, e, H⟩ := H
  t_notin S (tupO_at (S.keep _ _ (G.X _ _ e))) H hx kk
theorem t_inL (S : St g L h l led) {vs : List Value} (m : (a, tupO vs) ∈ led) {qs : List (List Nat)} (H : SV vs qs) {x : Str} {t : Tok} {k : List Nat} {P : Value → Heap → Prop} (hx : key x = k) (kk : P (.bool (qs.any fun q => decide (q = k))) h) : W w A (compareOp .In (.str x t) (.ref a)) P h :=
  t_in S (tupO_at (S.get m)) H hx kk
theorem t_notinL (S : St g L h l led) {vs : List Value} (m : (a, tupO vs) ∈ led) {qs : List (List Nat)} (H : SV vs qs) {x : Str} {t : Tok} {k : List Nat} {P : Value → Heap → Prop} (hx : key x = k) (kk : P (.bool (!qs.any fun q => decide (q = k))) h) : W w A (compareOp .NotIn (.str x t) (.ref a)) P h :=
  t_notin S (tupO_at (S.get m)) H hx kk
end
end Mine
end

section
open PySem PySem.W PySem.Calls PyProof.Rows
set_option Elab.async false
set_option linter.all false
set_option maxRecDepth 100000
namespace Mine
def tOk {α : Type} (lt : Nat → Nat → Bool) (n : Nat) : KasT α → (α → Bool) → Bool
  | .ret a, f => f a
  | .ask i j k, f => decide (i < n) && (decide (j < n) && tOk lt n (k (lt i j)) f)
theorem tOk_wp {α : Type} {lt : Nat → Nat → Bool} {n : Nat} {cmp : Nat → Nat → (Bool → Shared → Prop) → Shared → Prop} {s : Shared} {Q : α → Shared → Prop}
    (hc : ∀ i j C, i < n → j < n → C (lt i j) s → cmp i j C s) : ∀ (t : KasT α) (f : α → Bool), tOk lt n t f = true → (∀ a, f a = true → Q a s) → t.kasWp cmp Q s
  | .ret a, f, h, q => q a h
  | .ask i j k, f, h, q => by
    simp only [tOk, Bool.and_eq_true, decide_eq_true_eq] at h
    exact hc i j _ h.1 h.2.1 (tOk_wp hc _ f h.2.2 q)
theorem tOk_congr {α : Type} {lt lt' : Nat → Nat → Bool} {n : Nat} (hc : ∀ i j, i < n → j < n → lt i j = lt' i j) : ∀ (t : KasT α) (f : α → Bool), tOk lt n t f = tOk lt' n t f
  | .ret a, f => rfl
  | .ask i j k, f => by
    unfold tOk
    by_cases hi : i < n
    · by_cases hj : j < n
      · rw [hc i j hi hj, tOk_congr hc]
      · simp [hj]
    · simp [hi]
def words (n : Nat) : Nat → List (List Nat)
  | 0 => [[]]
  | k + 1 => (words n k).flatMap fun w => (List.range n).map fun x => x :: w
theorem mem_words {n : Nat} : ∀ {k : Nat} {w : List Nat}, w.length = k → (∀ x ∈ w, x < n) → w ∈ words n k
  | 0, w, hl, _ => by cases w with | nil => exact .head _ | cons => cases hl
  | k + 1, [], hl, _ => by cases hl
  | k + 1, x :: w, hl, h => by
    refine List.mem_flatMap.mpr ⟨w, mem_words (by simpa using hl) fun y hy => h y (.tail _ hy), ?_⟩
    exact List.mem_map.mpr ⟨x, List.mem_range.mpr (h x (.head _)), rfl⟩
def goodW (n : Nat) (w : List Nat) : Bool := !decide w.Nodup || tOk (fun i j => decide (w.getD i 0 < w.getD j 0)) n (kas_sort n) fun p => p.size == n && p.toList.map (fun i => w.getD i 0) == List.range n && p.toList.isPerm (List.range n)
theorem good2 : ((words 2 2).all (goodW 2)) = true := by decide +kernel
theorem good3 : ((words 3 3).all (goodW 3)) = true := by decide +kernel
theorem good4 : ((words 4 4).all (goodW 4)) = true := by decide +kernel
theorem good5 : ((words 5 5).all (goodW 5)) = true := by decide +kernel
theorem good_all {n : Nat} (h2 : 2 ≤ n) (h5 : n ≤ 5) : ((words n n).all (goodW n)) = true := by
  obtain rfl | rfl | rfl | rfl : n = 2 ∨ n = 3 ∨ n = 4 ∨ n = 5 := by omega
  · exact good2
  · exact good3
  · exact good4
  · exact good5
def ranks (ks : List (List Nat)) : List Nat := ks.map fun k => ks.countP fun k' => decide (k' < k)
theorem countP_lt_of {α : Type} {p q : α → Bool} : ∀ {l : List α}, (∀ x ∈ l, p x = true → q x = true) → (∃ x ∈ l, p x = false ∧ q x = true) → l.countP p < l.countP q
  | [], _, ⟨x, hx, _⟩ => by cases hx
  | y :: l, h, ⟨x, hx, h1, h2⟩ => by
    rw [List.countP_cons, List.countP_cons]
    have hle : l.countP p ≤ l.countP q := List.countP_mono_left fun z hz => h z (.tail _ hz)
    rcases List.mem_cons.mp hx with rfl | hx
    · rw [h1, h2]; simp; omega
    · have ih := countP_lt_of (fun z hz => h z (.tail _ hz)) ⟨x, hx, h1, h2⟩
      have := h y (.head _)
      cases hp : p y with
      | true => rw [this hp]; simp; omega
      | false => simp; omega
theorem rank_lt {ks : List (List Nat)} {a b : List Nat} (ha : a ∈ ks) (h : a < b) : ks.countP (fun k => decide (k < a)) < ks.countP (fun k => decide (k < b)) :=
  countP_lt_of (fun x _ hx => by simp only [decide_eq_true_eq] at *; exact List.lt_trans hx h) ⟨a, ha, by simpa using List.lt_irrefl a, by simpa using h⟩
theorem rank_iff {ks : List (List Nat)} {a b : List Nat} (ha : a ∈ ks) (hb : b ∈ ks) : a < b ↔ ks.countP (fun k => decide (k < a)) < ks.countP (fun k => decide (k < b)) := by
  refine ⟨rank_lt ha, fun h => ?_⟩
  by_cases h1 : a < b
  · exact h1
  · have h2 : b ≤ a := List.not_lt.mp h1
    by_cases h3 : b < a
    · have := rank_lt hb h3; omega
    · have : a = b := List.le_antisymm (List.not_lt.mp h3) h2
      subst this; omega
theorem ranks_get {ks : List (List Nat)} {i : Nat} (hi : i < ks.length) : (ranks ks).getD i 0 = ks.countP fun k' => decide (k' < ks.getD i []) := by
  unfold ranks
  simp [List.getD_eq_getElem?_getD, hi]
theorem getD_mem {ks : List (List Nat)} {i : Nat} (hi : i < ks.length) : ks.getD i [] ∈ ks := by
  simp [List.getD_eq_getElem?_getD, hi]
theorem kas_good (ks : List (List Nat)) (hn : ks.Nodup) (h2 : 2 ≤ ks.length) (h5 : ks.length ≤ 5) {cmp : Nat → Nat → (Bool → Shared → Prop) → Shared → Prop} {s : Shared} {Q : Array Nat → Shared → Prop}
    (hc : ∀ i j C, i < ks.length → j < ks.length → C (decide (ks.getD i [] < ks.getD j [])) s → cmp i j C s)
    (q : ∀ p : Array Nat, p.toList.Perm (List.range ks.length) → (p.toList.map fun i => ks.getD i []).Pairwise (· < ·) → Q p s) : (kas_sort ks.length).kasWp cmp Q s := by
  have hl : (ranks ks).length = ks.length := by unfold ranks; simp
  have hr : ∀ i, i < ks.length → (ranks ks).getD i 0 < ks.length := fun i hi => by
    rw [ranks_get hi]
    have h1 : ks.countP (fun k => decide (k < ks.getD i [])) < ks.countP (fun _ => true) := countP_lt_of (fun _ _ _ => rfl) ⟨ks.getD i [], getD_mem hi, by simpa using List.lt_irrefl _, rfl⟩
    simpa using h1
  have hiff : ∀ i j, i < ks.length → j < ks.length → decide (ks.getD i [] < ks.getD j []) = decide ((ranks ks).getD i 0 < (ranks ks).getD j 0) := fun i j hi hj => by
    rw [ranks_get hi, ranks_get hj]
    exact decide_eq_decide.mpr (rank_iff (getD_mem hi) (getD_mem hj))
  have hw : ranks ks ∈ words ks.length ks.length := mem_words hl fun x hx => by
    obtain ⟨i, hi, e⟩ := List.getElem_of_mem hx
    have := hr i (by omega)
    rw [List.getD_eq_getElem?_getD, List.getElem?_eq_getElem hi] at this
    simpa [e] using this
  have hnd : (ranks ks).Nodup := by
    rw [List.nodup_iff_pairwise_ne, List.pairwise_iff_getElem]
    intro i j hi hj hij e
    have hi' : i < ks.length := by omega
    have hj' : j < ks.length := by omega
    have e' : (ranks ks).getD i 0 = (ranks ks).getD j 0 := by simp [List.getD_eq_getElem?_getD, hi, hj, e]
    rw [ranks_get hi', ranks_get hj'] at e'
    have h1 : ¬ ks.getD i [] < ks.getD j [] := fun z => by have := rank_lt (getD_mem hi') z; omega
    have h3 : ¬ ks.getD j [] < ks.getD i [] := fun z => by have := rank_lt (getD_mem hj') z; omega
    have e3 : ks.getD i [] = ks.getD j [] := List.le_antisymm (List.not_lt.mp h3) (List.not_lt.mp h1)
    simp only [List.getD_eq_getElem?_getD, List.getElem?_eq_getElem hi', List.getElem?_eq_getElem hj', Option.getD_some] at e3
    have := (List.pairwise_iff_getElem.mp (List.nodup_iff_pairwise_ne.mp hn)) i j hi' hj' hij
    exact this e3
  have G := List.all_eq_true.mp (good_all h2 h5) _ hw
  unfold goodW at G
  rw [decide_eq_true hnd] at G
  simp only [Bool.not_true, Bool.false_or] at G
  rw [← tOk_congr hiff] at G
  refine tOk_wp hc _ _ G fun p hp => ?_
  simp only [Bool.and_eq_true, beq_iff_eq, List.isPerm_iff] at hp
  obtain ⟨⟨hs, hm⟩, hpm⟩ := hp
  have ha : ∀ x ∈ p.toList, x < ks.length := fun x hx => List.mem_range.mp (hpm.mem_iff.mp hx)
  refine q p hpm ?_
  · rw [List.pairwise_map]
    have pw : (p.toList.map fun i => (ranks ks).getD i 0).Pairwise (· < ·) := by rw [hm]; exact List.pairwise_lt_range
    rw [List.pairwise_map] at pw
    refine List.Pairwise.imp_of_mem (fun {a b} ha' hb' h => ?_) pw
    have := hiff a b (ha a ha') (ha b hb')
    rw [decide_eq_true h] at this
    exact of_decide_eq_true this
theorem meets_tup_gt (l b : Addr) (a c : Array UInt8) (i j : Int) (ta tc ti tj : Tok) (hne : a ≠ c) : Meets (Builtin.«tuple.__gt__» ⟨[.ref l, .ref b], []⟩)
    (fun _ R s => s.heap.get? l = some (tupO [.bytes a ta, .int i ti]) ∧ s.heap.get? b = some (tupO [.bytes c tc, .int j tj]) ∧ R (.ok (.ret (.bool (decide (c.toList.map UInt8.toNat < a.toList.map UInt8.toNat))))) s) :=
  .of_wp fun prog w A R s h => by
    obtain ⟨hp, g, d, tk, os⟩ := s; obtain ⟨hl, hb, h⟩ := h
    have f2 := AutoSeq1.sub_tuple_tuple
    wp_walk using AutoSeq1.wpAny_loadPart' hl, AutoSeq1.wpAny_loadPart' hb, wpAny_forIn_list _ (fun rest b s' => b.1 = none ∧ s' = ⟨hp, g, d, tk, os⟩ ∧ ∃ r, rest = (Value.bytes a ta, Value.bytes c tc) :: r) _
    case turn =>
      rintro ⟨y, x⟩ rest b s' ⟨hb', rfl, r, hz⟩
      cases hz
      refine wpAny_bind (eqAt_bytes prog w _ _ ?_)
      rw [decide_eq_false hne]
      simp only [Bool.not_false, if_true]
      refine wpAny_bind (wpAny_rule ?_)
      refine wpAny_bind (show wpAny _ _ (compareOp .Gt _ _) _ _ _ from gt_bytes ?_)
      wp_walk
      exact ⟨_, rfl, h⟩
    case fin =>
      rintro ⟨b1, b2⟩ s' ⟨hb', rfl, r, hz⟩
      cases hz
    case h =>
      exact ⟨rfl, rfl, _, rfl⟩
section
variable {w : World} {A : Around} {h g : Heap} {env : Env} {L : Addr} {l : Loc} {led : Led} {c d a : Addr} {oc o : Obj} {vs : List Value}
theorem t_gt (S : St g L h l led) {a b : Addr} {x y : Array UInt8} {i j : Int} {tx ty ti tj : Tok} (ma : (a, tupO [.bytes x tx, .int i ti]) ∈ led) (mb : (b, tupO [.bytes y ty, .int j tj]) ∈ led) (hne : x ≠ y) (hu : A.units < cLine) {P : Value → Heap → Prop}
    (k : P (.bool (decide (y.toList.map UInt8.toNat < x.toList.map UInt8.toNat))) h) : W w A (compareOp .Gt (.ref a) (.ref b)) P h :=
  W.of fun s Q hs q => by
    subst hs
    exact richCompare_meets_room (op := .Gt) ⟨_, S.get ma, rfl⟩ ⟨_, S.get mb, rfl⟩ F.slot_tuple_gt F.entry_tuple_gt (F.args_tuple_gt_2 _ _) (meets_tup_gt a b x y i j tx ty ti tj hne)
      ⟨S.get ma, S.get mb, show Value.bool (decide (y.toList.map UInt8.toNat < x.toList.map UInt8.toNat)) ≠ Value.notImplemented ∧ Q _ s from ⟨(fun x => nomatch x), q _ _ s.toks k⟩⟩ hu
theorem short_sort {prog : Program} {w : World} {A : Around} {E : Value → Shared → Prop} {s : Shared} {a : Addr} {vs : List Value} {n : Nat} {P : PySem.Fin → Shared → Prop} (ho : s.heap.get? a = some (seqObj "list" vs.toArray n)) (h2 : vs.length < 2)
    (h : P (.done (.ret .none)) { s with heap := sortedHeap s.heap a vs vs.toArray }) : wpAny (model prog w) A (Builtin.«list.sort» ⟨[.ref a], []⟩) P E s := by
  rw [list_sort_plain]
  have ha : a < s.heap.objs.size := Heap.lt_size ho
  refine wpAny_bind (listItems_at ho rfl ?_)
  refine wpAny_bind (listUpdate_at ho rfl ?_ (by rw [List.size_toArray, sizeLine_eq]; omega) (Nat.zero_le _))
  obtain ⟨e1, ho1⟩ : ∃ e1, (s.heap.update a (Obj.mapSeq fun _ => (#[] : Array Value))).get? a = some (seqObj "list" #[] e1) := ⟨_, get?_update_seq ho (fun _ => #[])⟩
  refine wpAny_bind (seqEpoch_at ho1 rfl ?_)
  refine wpAny_bind (wpAny_newTuple ?_ (by show vs.length ≤ _; rw [sizeLine_eq]; omega))
  refine wpAny_bind (wpAny_newList ?_ (Nat.zero_le _))
  refine wpAny_holding ?_
  have ho6 : (((s.heap.update a (Obj.mapSeq fun _ => (#[] : Array Value))).push (seqObj "tuple" vs.toArray 0)).push (seqObj "list" #[] 0)).get? a = some (seqObj "list" #[] e1) := by
    rw [Heap.get?_push_ne _ _ _ (by rw [size_push', Heap.size_update]; exact Nat.ne_of_lt (Nat.lt_succ_of_lt ha)), Heap.get?_push_ne _ _ _ (by rw [Heap.size_update]; exact Nat.ne_of_lt ha)]
    exact ho1
  show wpAny (model prog w) A _ P E { s with heap := ((s.heap.update a (Obj.mapSeq fun _ => (#[] : Array Value))).push (seqObj "tuple" vs.toArray 0)).push (seqObj "list" #[] 0) }
  dsimp only
  have h2' : vs.toArray.size < 2 := by simpa using h2
  rw [if_pos h2', if_pos h2']
  refine wpAny_bind (wpAny_pure ?_)
  rw [StateT.run_pure]
  refine wpAny_bind (wpAny_pure ?_)
  dsimp only
  have hm : (arrOf (SortSt.mk' general' (vs.toArray.zip vs.toArray) #[] 7 none)).map (·.2) = vs.toArray := by
    show (vs.toArray.zip vs.toArray).map (·.2) = _
    apply Array.toList_inj.mp
    simp [List.map_snd_zip]
  refine wpAny_bind (seqEpoch_at ho6 rfl ?_)
  rw [hm]
  refine wpAny_bind (listUpdate_at ho6 rfl ?_ (Nat.zero_le _) (by rw [List.size_toArray, sizeLine_eq]; omega))
  simp only [bne_self_eq_false, Bool.false_eq_true, if_false]
  exact wpAny_pure h
theorem short_sorted {prog : Program} {w : World} {A : Around} {E : Value → Shared → Prop} {s : Shared} {l : Addr} {vs : List Value} {Q : Value → Shared → Prop} (hl : s.heap.IsList l vs.toArray) (h2 : vs.length < 2)
    (h : Q (.ref (s.heap.objs.size + 1)) { s with heap := sortedAll s.heap vs vs.toArray }) : wpAny (model prog w) A (call (.builtin "sorted") [.ref l]) Q E s := by
  refine Calls.call_function_entry kind_sorted plain_sorted entry_sorted (args_sorted1 _) ?_
  unfold Builtin.«sorted»
  refine wpAny_bind (m := checkCount "sorted" 1 1 _) (wpAny_pure ?_)
  refine wpAny_bind (collect_list hl ?_ (by rw [sizeLine_eq]; omega))
  refine wpAny_bind (wpAny_newList ?_ (by rw [sizeLine_eq]; omega))
  have hsz : ((s.heap.push (seqObj "list" #[] 0)).update s.heap.objs.size (Obj.mapSeq (· ++ vs.toArray))).objs.size = s.heap.objs.size + 1 := by
    rw [Heap.size_update, size_push']
  have hoL : (((s.heap.push (seqObj "list" #[] 0)).update s.heap.objs.size (Obj.mapSeq (· ++ vs.toArray))).push (seqObj "list" vs.toArray 0)).get? (s.heap.objs.size + 1) = some (seqObj "list" vs.toArray 0) := by
    rw [← hsz]; exact Heap.get?_push_size _ rfl
  show wpAny _ _ _ _ _ { s with heap := ((s.heap.push (seqObj "list" #[] 0)).update s.heap.objs.size (Obj.mapSeq (· ++ vs.toArray))).push (seqObj "list" vs.toArray 0) }
  rw [hsz]
  refine wpAny_bind (wpAny_holding (wpAny_call_entry slot_list_sort ⟨_, hoL, rfl⟩ entry_list_sort (short_sort hoL h2 ⟨_, rfl, ?_⟩) (args_list_sort _)))
  exact wpAny_pure ⟨_, rfl, h⟩
def TV (led : Led) (v : Value) (p : Array UInt8 × Nat) : Prop := ∃ a t n u x, v = .ref a ∧ (a, tupO [.bytes p.1 t, .int n u, .int p.2 x]) ∈ led
abbrev nat8 (b : Array UInt8) : List Nat := b.toList.map UInt8.toNat
inductive TVs (led : Led) : List Value → List (Array UInt8 × Nat) → Prop
  | nil : TVs led [] []
  | cons {v p vs ps} : TV led v p → TVs led vs ps → TVs led (v :: vs) (p :: ps)
theorem TVs.length {led : Led} {vs ps} (H : TVs led vs ps) : vs.length = ps.length := by
  induction H with
  | nil => rfl
  | cons _ _ ih => simp [ih]
theorem katTups_of {h : Heap} {led : Led} (hk : ∀ p ∈ led, h.get? p.1 = some p.2) {vs : List Value} {ps : List (Array UInt8 × Nat)} (H : TVs led vs ps) : ∃ fs : List Value, KatTups h vs fs ∧ fs.length = vs.length ∧ ∀ v ∈ fs, ∃ b t, v = .bytes b t := by
  induction H with
  | nil => exact ⟨[], .nil, rfl, fun v hv => by cases hv⟩
  | cons e _ ih =>
    obtain ⟨a, t, n, u, x, rfl, m⟩ := e
    obtain ⟨fs, K, hl, hb⟩ := ih
    refine ⟨_ :: fs, .cons (hk _ m) rfl rfl rfl K, congrArg Nat.succ hl, fun v hv => ?_⟩
    rcases List.mem_cons.mp hv with rfl | hv
    · exact ⟨_, _, rfl⟩
    · exact hb v hv
theorem tv_get {led : Led} {vs : List Value} {ps : List (Array UInt8 × Nat)} (H : TVs led vs ps) {i : Nat} (hi : i < vs.length) : ∃ p, ps[i]? = some p ∧ TV led (vs.getD i .none) p := by
  induction H generalizing i with
  | nil => simp at hi
  | @cons v p vs ps h _ ih =>
    cases i with
    | zero => exact ⟨p, rfl, h⟩
    | succ i =>
      obtain ⟨q, e, t⟩ := ih (i := i) (by simpa using hi)
      exact ⟨q, by simpa using e, by simpa using t⟩
theorem tvs_map {led : Led} {vs : List Value} {ps : List (Array UInt8 × Nat)} (H : TVs led vs ps) : ∀ {p : List Nat}, (∀ i ∈ p, i < vs.length) → TVs led (p.map fun i => vs.getD i .none) (p.map fun i => ps.getD i (#[], 0))
  | [], _ => .nil
  | i :: p, h => by
    obtain ⟨q, e, t⟩ := tv_get H (h i (.head _))
    refine .cons ?_ (tvs_map H fun j hj => h j (.tail _ hj))
    show TV led (vs.getD i .none) (ps.getD i (#[], 0))
    have : ps.getD i (#[], 0) = q := by simp [List.getD_eq_getElem?_getD, e]
    rw [this]; exact t
theorem KasFin_good {s : Shared} {ps : List (Array UInt8 × Nat)} {h' : Heap} {Q : Array Nat → Shared → Prop} (ht : TVs led vs ps) (hn : (ps.map fun p => nat8 p.1).Nodup) (h2 : 2 ≤ vs.length) (hz : ps.length ≤ 5) (hu : A.units + 2 < cLine)
    (hk : ∀ p ∈ led, h'.get? p.1 = some p.2) (q : ∀ p : Array Nat, p.toList.Perm (List.range ps.length) → (p.toList.map fun i => (ps.map fun p => nat8 p.1).getD i []).Pairwise (· < ·) → Q p { s with heap := h' }) :
    (kas_sort vs.length).kasWp (kas_ask PG w A.in1.in1 (tuples' (Value.type "bytes" != Value.type "tuple")) vs) Q { s with heap := h' } := by
  have hlen : vs.length = ps.length := ht.length
  have hl' : (ps.map fun p => nat8 p.1).length = vs.length := by simp [hlen]
  have := kas_good (ps.map fun p => nat8 p.1) hn (by omega) (by omega) (cmp := kas_ask PG w A.in1.in1 (tuples' (Value.type "bytes" != Value.type "tuple")) vs) (s := { s with heap := h' }) (Q := Q) ?_ (by rw [hl', hlen]; exact q)
  · rw [hl'] at this; exact this
  · intro i j C hi hj hC
    rw [hl'] at hi hj
    obtain ⟨⟨b, p⟩, e, a, t, n, u, x, ea, m⟩ := tv_get ht hi
    obtain ⟨⟨b', p'⟩, e', a', t', n', u', x', ea', m'⟩ := tv_get ht hj
    unfold kas_ask
    rw [ea, ea']
    have hb : (ps.map fun p => nat8 p.1).getD i [] = nat8 b := by simp [List.getD_eq_getElem?_getD, e]
    have hb' : (ps.map fun p => nat8 p.1).getD j [] = nat8 b' := by simp [List.getD_eq_getElem?_getD, e']
    rw [hb, hb'] at hC
    refine kat_lt (b := (Value.type "bytes" != Value.type "tuple")) (hk _ m) rfl (hk _ m') rfl ?_
    refine kat_cons (eqAt_bytes _ _ _ _ ?_)
    by_cases hbb : b = b'
    · rw [decide_eq_true hbb]
      subst hbb
      have hij : i = j := by
        have e1 := List.nodup_iff_pairwise_ne.mp hn
        rw [List.pairwise_iff_getElem] at e1
        rcases Nat.lt_trichotomy i j with z | z | z
        · have := e1 i j (by omega) (by omega) z
          simp only [List.getElem_map] at this
          obtain ⟨_, h1⟩ := List.getElem?_eq_some_iff.mp e
          obtain ⟨_, h3⟩ := List.getElem?_eq_some_iff.mp e'
          rw [h1, h3] at this; exact absurd rfl this
        · exact z
        · have := e1 j i (by omega) (by omega) z
          simp only [List.getElem_map] at this
          obtain ⟨_, h1⟩ := List.getElem?_eq_some_iff.mp e
          obtain ⟨_, h3⟩ := List.getElem?_eq_some_iff.mp e'
          rw [h1, h3] at this; exact absurd rfl this
      subst hij
      rw [ea] at ea'; cases ea'
      have eo := hk _ m
      rw [hk _ m'] at eo
      cases eo
      refine kat_yes (kat_cons (SeqAt.EqAt.same _ _ _ _ _ (kat_yes (kat_cons (SeqAt.EqAt.same _ _ _ _ _ (kat_yes (kat_nil ?_)))))))
      have z : decide (nat8 b < nat8 b) = false := by simpa using List.lt_irrefl _
      rw [z] at hC
      exact hC
    · rw [decide_eq_false hbb]
      exact kat_no (oneLt_bytes hC)
theorem q_sortedT (S : St g L h l led) (m : (c, oc) ∈ led) (H : IsL vs oc) {tf : Led} (hsub : ∀ p ∈ tf, p ∈ led) {ps : List (Array UInt8 × Nat)} (ht : TVs tf vs ps) (hn : (ps.map fun p => nat8 p.1).Nodup) (hz : ps.length ≤ 5) (hu : A.units + 2 < cLine) {P : Value → Heap → Prop}
    (k : ∀ a h' o vs' ps', IsL vs' o → TVs tf vs' ps' → ps'.Perm ps → (ps'.map fun p => nat8 p.1).Pairwise (· < ·) → St g L h' l ((a, o) :: led) → P (.ref a) h') : W w A (call (.builtin "sorted") [.ref c]) P h := by
  have hlen : vs.length = ps.length := ht.length
  refine W.of fun s Q hs q => ?_
  subst hs
  rcases Nat.lt_or_ge vs.length 2 with h2 | h2
  · refine short_sorted (H.ints (S.get m)) h2 ?_
    obtain ⟨e, he⟩ := sortedAll_at s.heap vs vs.toArray
    refine q _ _ s.toks (k _ _ (seqObj "list" vs.toArray e) vs ps ⟨e, rfl⟩ ht (.refl _) ?_ (S.add (fun _ _ => sortedAll_old) (Heap.get?_none_of_le (Nat.le_succ _)) he))
    match ps, hlen with
    | [], _ => exact .nil
    | [p], _ => exact List.pairwise_singleton _ _
    | _ :: _ :: _, e => simp at e; omega
  · obtain ⟨m', F, N, -, two⟩ := S.kit
    refine kat_sorted F N (H.ints (S.get m)) h2 (by omega) fun D e1 h' F' N' hlt => ?_
    have hk : ∀ p ∈ tf, h'.get? p.1 = some p.2 := fun p hp => (N' p (.tail _ (mem_others.mpr ⟨S.get (hsub p hp), S.ne (hsub p hp)⟩))).1
    obtain ⟨fs, K, hl, hb⟩ := katTups_of hk ht
    refine kat_kind (s := { s with heap := h' }) (T := .type "bytes") K (by omega) (fun v hv => ?_) (by decide) ?_
    · obtain ⟨b, t, rfl⟩ := hb v hv
      exact .now
    · refine KasFin_good ht hn h2 hz (by omega) hk fun p hp hs => ?_
      refine KasFin.intro F' N' (.head fun p hp => Nat.ne_of_lt (hlt p hp)) fun h'' c F'' N'' => ?_
      have S' := two _ _ _ F'' N'' hlt
      refine q _ _ s.toks (k _ _ _ _ (p.toList.map fun i => ps.getD i (#[], 0)) ⟨c, rfl⟩ ?_ ?_ ?_ S')
      · exact tvs_map ht fun i hi => by rw [hlen]; exact List.mem_range.mp (hp.mem_iff.mp hi)
      · have := hp.map fun i => ps.getD i (#[], 0)
        have e : (List.range ps.length).map (fun i => ps.getD i (#[], 0)) = ps := by
          apply List.ext_getElem?
          intro i
          by_cases hi : i < ps.length
          · simp [hi]
          · simp [hi]
        rwa [e] at this
      · rw [List.map_map]
        have : ∀ i ∈ p.toList, ((fun p : Array UInt8 × Nat => nat8 p.1) ∘ fun i => ps.getD i (#[], 0)) i = (ps.map fun p => nat8 p.1).getD i [] := fun i hi => by
          have hi' : i < ps.length := List.mem_range.mp (hp.mem_iff.mp hi)
          simp [List.getD_eq_getElem?_getD, hi']
        rw [List.map_congr_left this]
        exact hs
end
section
variable {w : World} {A : Around} {h g : Heap} {env : Env} {L : Addr} {l : Loc} {led rest : Led}
theorem comp_fam {n : Nat} {Pt : Nat → Value → Prop} {it : Value} {h2 : Heap} {kx : List Nat} {ks' : List (List Nat × NameKind)} {cs' : List (List Nat × Addr)} {ifs : List Expr} {elt : Expr} {up : Value → Loc → Loc} {P : Value → Heap → Prop}
    (hi : IterAt w A g L l led n Pt rest it h2) (hz : n ≤ 16777216) (Q : Nat → List Value → Led → Prop) (q0 : Q 0 [] [])
    (turn : ∀ i v ys fam I oI oL D oD C h cenv, i < n → Pt i v → ys.length ≤ i → Q i ys fam → EnvF cenv C ks' cs' → St g C h [(kx, v)] ((I, oI) :: (L, oL) :: (D, oD) :: rest ++ (fam ++ led)) →
      Tests w A ifs cenv h
        (fun h1 => W w A (eval elt cenv) (fun y h2 => EltEnd g C ((I, oI) :: (L, oL) :: (D, oD) :: rest) (fun led' => ∃ fam', led' = fam' ++ led ∧ Q (i + 1) (ys ++ [y]) fam') h2) h1)
        (fun h1 => EltEnd g C ((I, oI) :: (L, oL) :: (D, oD) :: rest) (fun led' => ∃ fam', led' = fam' ++ led ∧ Q (i + 1) ys fam') h1))
    (fin : ∀ ys fam D oD h, ys.length ≤ n → Q n ys fam → IsL ys oD → St g L h (up (.ref D) l) ((D, oD) :: rest ++ (fam ++ led)) → P (.ref D) h) :
    CompAt w A g L kx ks' cs' ifs elt up P it h2 :=
  ⟨n, Pt, rest, l, led, fun i ys led' => ∃ fam', led' = fam' ++ led ∧ Q i ys fam', hi, hz, ⟨[], rfl, q0⟩,
    fun i v ys led1 I oI oL D oD C h cenv h1 h2 h3 h4 h5 h6 => by
      obtain ⟨fam, rfl, hq⟩ := h4
      exact turn i v ys fam I oI oL D oD C h cenv h1 h2 h3 hq h5 h6,
    fun ys led1 D oD h h1 h2 h3 h4 => by
      obtain ⟨fam, rfl, hq⟩ := h2
      exact fin ys fam D oD h h1 hq h3 h4⟩
end
end Mine
end

section
open PySem PySem.W PySem.Calls PyProof.Rows
set_option Elab.async false
set_option linter.all false
set_option maxRecDepth 100000
namespace Mine
abbrev kSeq : List Nat := [115, 101, 113, 117, 101, 110, 116, 105, 97, 108]
abbrev kRel : List Nat := [114, 101, 108, 97, 116, 105, 118, 101]
abbrev kIdx : List Nat := [105, 110, 100, 101, 120, 101, 100]
abbrev kinds3 : List (List Nat) := [kIdx, kRel, kSeq]
def stO (k : List Nat) : Str := ⟨⟨k⟩⟩
theorem key_stO (k : List Nat) : key (stO k) = k := rfl
theorem stO_of {x : Str} {k : List Nat} (h : key x = k) : x = stO k := key_inj (h.trans (key_stO k).symm)
theorem stO_inj {k k' : List Nat} (h : stO k = stO k') : k = k' := by have := congrArg key h; exact this
abbrev RowsT := List (Array UInt8)
abbrev Ent := List Nat → RowsT → Value → Led → Prop
abbrev FF := List Nat → Option RowsT
def upd (f : FF) (k : List Nat) (d : RowsT) : FF := fun k' => if k' = k then some d else f k'
inductive GE (E : Ent) : List (Str × Value) → List (List Nat × RowsT) → Led → Prop
  | nil : GE E [] [] []
  | cons {k d v fe kvs m fam} : E k d v fe → GE E kvs m fam → GE E ((stO k, v) :: kvs) ((k, d) :: m) (fe ++ fam)
theorem GE.keys {E : Ent} {kvs m fam} (H : GE E kvs m fam) : kvs.map (·.1) = m.map fun p => stO p.1 := by
  induction H with
  | nil => rfl
  | cons _ _ ih => simp [ih]
theorem GE.nodup {E : Ent} {kvs m fam} (H : GE E kvs m fam) (hn : (kvs.map (·.1)).Nodup) : (m.map (·.1)).Nodup := by
  rw [H.keys] at hn
  have : (m.map fun p => stO p.1) = (m.map (·.1)).map stO := by rw [List.map_map]; rfl
  rw [this] at hn
  generalize m.map (·.1) = ks at hn
  induction ks with
  | nil => exact List.nodup_nil
  | cons k ks ih =>
    rw [List.map_cons, List.nodup_cons] at hn
    exact List.nodup_cons.mpr ⟨fun h => hn.1 (List.mem_map_of_mem h), ih hn.2⟩
theorem GE.none {E : Ent} {kvs m fam} (H : GE E kvs m fam) {k : List Nat} (h : m.lookup k = none) : valueAt kvs (stO k) = none := by
  induction H with
  | nil => rfl
  | @cons k' d v fe kvs m fam _ _ ih =>
    rw [List.lookup_cons] at h
    cases hb : k == k' with
    | true => rw [hb] at h; cases h
    | false =>
      rw [hb] at h
      have : ¬ stO k' = stO k := fun z => by rw [stO_inj z] at hb; simp at hb
      unfold valueAt at ih ⊢
      rw [List.find?_cons]
      simp only [this, decide_false]
      exact ih h
theorem lookup_none_of {m : List (List Nat × RowsT)} {k : List Nat} (h : k ∉ m.map (·.1)) : m.lookup k = none := by
  induction m with
  | nil => rfl
  | cons p m ih =>
    obtain ⟨k', d⟩ := p
    rw [List.map_cons, List.mem_cons, not_or] at h
    rw [List.lookup_cons]
    have : (k == k') = false := beq_eq_false_iff_ne.mpr h.1
    rw [this]; exact ih h.2
def setM (m : List (List Nat × RowsT)) (k : List Nat) (d : RowsT) : List (List Nat × RowsT) := m.map fun p => if p.1 = k then (p.1, d) else p
theorem setM_none {m : List (List Nat × RowsT)} {k : List Nat} (d : RowsT) (h : k ∉ m.map (·.1)) : setM m k d = m := by
  unfold setM
  induction m with
  | nil => rfl
  | cons p m ih =>
    rw [List.map_cons, List.mem_cons, not_or] at h
    rw [List.map_cons, ih h.2, if_neg (Ne.symm h.1)]
theorem setM_lookup {m : List (List Nat × RowsT)} {k k' : List Nat} {d : RowsT} (h : k ∈ m.map (·.1)) : (setM m k d).lookup k' = if k' = k then some d else m.lookup k' := by
  unfold setM
  induction m with
  | nil => cases h
  | cons p m ih =>
    obtain ⟨k₁, d₁⟩ := p
    rw [List.map_cons]
    dsimp only
    by_cases e : k₁ = k
    · subst e
      rw [if_pos rfl, List.lookup_cons, List.lookup_cons]
      by_cases e' : k' = k₁
      · subst e'; simp
      · have hb : (k' == k₁) = false := beq_eq_false_iff_ne.mpr e'
        rw [hb, if_neg e']
        by_cases hm : k₁ ∈ m.map (·.1)
        · rw [ih hm, if_neg e']
        · have := setM_none d hm
          unfold setM at this
          rw [this]
    · rw [if_neg e, List.lookup_cons, List.lookup_cons]
      have hm : k ∈ m.map (·.1) := by
        rw [List.map_cons] at h
        rcases List.mem_cons.mp h with z | z
        · exact absurd z.symm e
        · exact z
      by_cases e' : k' = k₁
      · subst e'; simp [e]
      · have hb : (k' == k₁) = false := beq_eq_false_iff_ne.mpr e'
        rw [hb]; exact ih hm
theorem GE.at {E : Ent} {kvs m fam} (H : GE E kvs m fam) (hn : (m.map (·.1)).Nodup) {k : List Nat} {d : RowsT} (h : m.lookup k = some d) :
    ∃ v fe fam', E k d v fe ∧ valueAt kvs (stO k) = some v ∧ fam.Perm (fe ++ fam') ∧ (∀ d' fe', E k d' v fe' → ∃ fam2, GE E kvs (setM m k d') fam2 ∧ (fe' ++ fam').Perm fam2) ∧
      (∀ v' d' fe', E k d' v' fe' → ∃ fam2, GE E (kvs.map fun kv => if kv.1 = stO k then (kv.1, v') else kv) (setM m k d') fam2 ∧ (fe' ++ fam').Perm fam2) := by
  induction H with
  | nil => cases h
  | @cons k' d₁ v fe kvs m fam he hE ih =>
    rw [List.map_cons, List.nodup_cons] at hn
    rw [List.lookup_cons] at h
    cases hb : k == k' with
    | true =>
      rw [hb] at h
      cases h
      have hk : k = k' := beq_iff_eq.mp hb
      subst hk
      refine ⟨v, fe, fam, he, ?_, .refl _, fun d' fe' he' => ⟨fe' ++ fam, ?_, .refl _⟩, fun v' d' fe' he' => ⟨fe' ++ fam, ?_, .refl _⟩⟩
      · unfold valueAt; rw [List.find?_cons]; simp
      · show GE E _ (List.map _ _) _
        rw [List.map_cons, if_pos rfl]
        have := setM_none d' hn.1
        unfold setM at this
        rw [this]
        exact .cons he' hE
      · show GE E _ (List.map _ _) _
        rw [List.map_cons, if_pos rfl, List.map_cons, if_pos rfl]
        have := setM_none d' hn.1
        unfold setM at this
        rw [this]
        have h2 : (kvs.map fun kv => if kv.1 = stO k then (kv.1, v') else kv) = kvs := by
          have hk := hE.keys
          have hnm : stO k ∉ kvs.map (·.1) := by
            rw [hk]
            intro z
            obtain ⟨p, hp, z⟩ := List.mem_map.mp z
            exact hn.1 (List.mem_map.mpr ⟨p, hp, stO_inj z⟩)
          clear this hE ih hk
          induction kvs with
          | nil => rfl
          | cons p kvs ih =>
            rw [List.map_cons, List.mem_cons, not_or] at hnm
            rw [List.map_cons, ih hnm.2, if_neg (Ne.symm hnm.1)]
        rw [h2]
        exact .cons he' hE
    | false =>
      rw [hb] at h
      obtain ⟨v₁, fe₁, fam', hE1, hv, hp, hs1, hs2⟩ := ih hn.2 h
      have hne : ¬ k' = k := fun z => by rw [z] at hb; simp at hb
      have hst : ¬ stO k' = stO k := fun z => hne (stO_inj z)
      have swap : ∀ (fe' fam2 : Led), (fe' ++ fam').Perm fam2 → (fe' ++ (fe ++ fam')).Perm (fe ++ fam2) := fun fe' fam2 p => by
        rw [← List.append_assoc]
        refine (List.Perm.append_right fam' List.perm_append_comm).trans ?_
        rw [List.append_assoc]
        exact List.Perm.append_left fe p
      refine ⟨v₁, fe₁, fe ++ fam', hE1, ?_, ?_, fun d' fe' he' => ?_, fun v' d' fe' he' => ?_⟩
      · unfold valueAt at hv ⊢; rw [List.find?_cons]; simp only [hst, decide_false]; exact hv
      · refine (List.Perm.append_left fe hp).trans ?_
        rw [← List.append_assoc, ← List.append_assoc]
        exact List.Perm.append_right fam' List.perm_append_comm
      · obtain ⟨fam2, h1, h2⟩ := hs1 d' fe' he'
        refine ⟨fe ++ fam2, ?_, swap _ _ h2⟩
        show GE E _ (List.map _ _) _
        rw [List.map_cons, if_neg hne]
        exact .cons he h1
      · obtain ⟨fam2, h1, h2⟩ := hs2 v' d' fe' he'
        refine ⟨fe ++ fam2, ?_, swap _ _ h2⟩
        show GE E _ (List.map _ _) _
        rw [List.map_cons, if_neg hst, List.map_cons, if_neg hne]
        exact .cons he h1
theorem GE.append {E : Ent} {kvs m fam} (H : GE E kvs m fam) {k d v fe} (he : E k d v fe) : ∃ fam2, GE E (kvs ++ [(stO k, v)]) (m ++ [(k, d)]) fam2 ∧ (fe ++ fam).Perm fam2 := by
  induction H with
  | nil => exact ⟨fe ++ [], .cons he .nil, .refl _⟩
  | @cons k' d₁ v₁ fe₁ kvs m fam he₁ _ ih =>
    obtain ⟨fam2, h1, h2⟩ := ih
    refine ⟨fe₁ ++ fam2, .cons he₁ h1, ?_⟩
    rw [← List.append_assoc]
    refine (List.Perm.append_right fam List.perm_append_comm).trans ?_
    rw [List.append_assoc]
    exact List.Perm.append_left fe₁ h2
structure GX (E : Ent) (kvs : List (Str × Value)) (f : FF) (fam : Led) : Prop where
  ex : ∃ m fam0, GE E kvs m fam0 ∧ fam.Perm fam0 ∧ ∀ k, m.lookup k = f k
  nd : (kvs.map (·.1)).Nodup
  three : ∀ k, f k ≠ none → k ∈ kinds3
theorem GX.nil {E : Ent} : GX E [] (fun _ => Option.none) [] := ⟨⟨[], [], .nil, .refl _, fun _ => rfl⟩, List.nodup_nil, fun _ h => absurd rfl h⟩
theorem GX.none {E : Ent} {kvs f fam} (H : GX E kvs f fam) {k : List Nat} (h : f k = Option.none) : valueAt kvs (stO k) = Option.none := by
  obtain ⟨m, fam0, hE, hp, hf⟩ := H.ex
  exact hE.none ((hf k).trans h)
theorem GX.at {E : Ent} {kvs f fam} (H : GX E kvs f fam) {k : List Nat} {d : RowsT} (h : f k = some d) :
    ∃ v fe fam', E k d v fe ∧ valueAt kvs (stO k) = some v ∧ fam.Perm (fe ++ fam') ∧ (∀ d' fe', E k d' v fe' → GX E kvs (upd f k d') (fe' ++ fam')) := by
  obtain ⟨m, fam0, hE, hp, hf⟩ := H.ex
  obtain ⟨v, fe, fam', he, hv, hp', hs, -⟩ := hE.at (hE.nodup H.nd) ((hf k).trans h)
  refine ⟨v, fe, fam', he, hv, hp.trans hp', fun d' fe' he' => ?_⟩
  obtain ⟨fam2, h1, h2⟩ := hs d' fe' he'
  have hkm : k ∈ m.map (·.1) := by
    refine Classical.byContradiction fun z => ?_
    have := lookup_none_of z
    rw [hf k, h] at this; cases this
  refine ⟨⟨_, _, h1, h2, fun k' => ?_⟩, H.nd, fun k' hk' => ?_⟩
  · rw [setM_lookup hkm]; unfold upd; rw [hf]
  · unfold upd at hk'
    split at hk'
    · next e => subst e; exact H.three _ (by rw [h]; simp)
    · exact H.three _ hk'
theorem GX.has {E : Ent} {kvs f fam} (H : GX E kvs f fam) (k : List Nat) : (valueAt kvs (stO k)).isSome = (f k).isSome := by
  cases e : f k with
  | none => rw [H.none e]; rfl
  | some d => obtain ⟨v, _, _, _, hv, _⟩ := H.at e; rw [hv]; rfl
theorem valueAt_any {kvs : List (Str × Value)} {x : Str} : kvs.any (fun kv => decide (kv.1 = x)) = (valueAt kvs x).isSome := by
  unfold valueAt
  induction kvs with
  | nil => rfl
  | cons p kvs ih =>
    rw [List.any_cons, List.find?_cons]
    by_cases e : p.1 = x
    · simp [e]
    · simp only [e, decide_false, Bool.false_or]; exact ih
theorem GX.set {E : Ent} {kvs f fam} (H : GX E kvs f fam) {k : List Nat} {v : Value} (hk : k ∈ kinds3) (hnd : ((stored kvs (stO k) v).map (·.1)).Nodup) :
    ∃ old fam', fam.Perm (old ++ fam') ∧ ∀ d fe, E k d v fe → GX E (stored kvs (stO k) v) (upd f k d) (fe ++ fam') := by
  obtain ⟨m, fam0, hE, hp, hf⟩ := H.ex
  have th : ∀ d k', upd f k d k' ≠ Option.none → k' ∈ kinds3 := fun d k' hk' => by
    unfold upd at hk'
    split at hk'
    · next e => subst e; exact hk
    · exact H.three _ hk'
  cases e : f k with
  | none =>
    have hs : stored kvs (stO k) v = kvs ++ [(stO k, v)] := by unfold stored; rw [valueAt_any, H.none e]; rfl
    refine ⟨[], fam, .refl _, fun d fe he => ?_⟩
    obtain ⟨fam2, h1, h2⟩ := hE.append he
    refine ⟨⟨m ++ [(k, d)], fam2, by rw [hs]; exact h1, (List.Perm.append_left fe hp).trans h2, fun k' => ?_⟩, hnd, th d⟩
    unfold upd
    rw [← hf k']
    by_cases e' : k' = k
    · subst e'
      rw [if_pos rfl]
      have := (hf k').trans e
      clear hE h1 hf hp
      induction m with
      | nil => simp
      | cons p m ih =>
        obtain ⟨k₁, d₁⟩ := p
        rw [List.lookup_cons] at this
        rw [List.cons_append, List.lookup_cons]
        cases hb : k' == k₁ with
        | true => rw [hb] at this; cases this
        | false => rw [hb] at this; exact ih this
    · rw [if_neg e']
      clear hE h1 hf hp
      induction m with
      | nil => have hb : (k' == k) = false := beq_eq_false_iff_ne.mpr e'; simp [List.lookup_cons, hb]
      | cons p m ih =>
        obtain ⟨k₁, d₁⟩ := p
        rw [List.cons_append, List.lookup_cons, List.lookup_cons, ih]
  | some d₀ =>
    obtain ⟨v₀, fe₀, fam', he₀, hv, hp', -, hs⟩ := hE.at (hE.nodup H.nd) ((hf k).trans e)
    refine ⟨fe₀, fam', hp.trans hp', fun d fe he => ?_⟩
    obtain ⟨fam2, h1, h2⟩ := hs v d fe he
    have hs : stored kvs (stO k) v = kvs.map fun kv => if kv.1 = stO k then (kv.1, v) else kv := by unfold stored; rw [valueAt_any, hv]; rfl
    have hkm : k ∈ m.map (·.1) := by
      refine Classical.byContradiction fun z => ?_
      have := lookup_none_of z
      rw [hf k, e] at this; cases this
    refine ⟨⟨_, fam2, by rw [hs]; exact h1, h2, fun k' => ?_⟩, hnd, th d⟩
    rw [setM_lookup hkm]; unfold upd; rw [hf]
def pl (f : FF) : List (List Nat) := kinds3.filter fun k => (f k).isSome

theorem pl_sorted (f : FF) : (pl f).Pairwise (· < ·) := by
  have : kinds3.Pairwise (· < ·) := by decide
  exact this.filter _
theorem mem_pl {f : FF} {k : List Nat} (h3 : ∀ k, f k ≠ Option.none → k ∈ kinds3) : k ∈ pl f ↔ (f k).isSome = true := by
  unfold pl
  rw [List.mem_filter]
  refine ⟨fun h => h.2, fun h => ⟨h3 k (fun z => by (rw [z] at h; cases h)), h⟩⟩
theorem SV.perm {vs vs' : List Value} (p : vs'.Perm vs) : ∀ {ks : List (List Nat)}, SV vs ks → ∃ ks', SV vs' ks' ∧ ks'.Perm ks := by
  induction p with
  | nil => intro ks h; exact ⟨ks, h, .refl _⟩
  | cons x _ ih =>
    intro ks h
    cases h with
    | cons e h => obtain ⟨ks', h1, h2⟩ := ih h; exact ⟨_, .cons e h1, h2.cons _⟩
  | swap x y l =>
    intro ks h
    cases h with
    | cons e h => cases h with
      | cons e' h => exact ⟨_, .cons e' (.cons e h), .swap _ _ _⟩
  | trans _ _ ih1 ih2 =>
    intro ks h
    obtain ⟨k2, h1, h2⟩ := ih2 h
    obtain ⟨k3, h3, h4⟩ := ih1 h1
    exact ⟨k3, h3, h4.trans h2⟩
theorem SV.length {vs ks} (H : SV vs ks) : vs.length = ks.length := by
  induction H with
  | nil => rfl
  | cons _ _ ih => simp [ih]
theorem SV.get {vs ks} (H : SV vs ks) : ∀ {i : Nat} {v : Value}, vs[i]? = some v → ∃ x t k, v = .str x t ∧ key x = k ∧ ks[i]? = some k := by
  induction H with
  | nil => intro i v e; simp at e
  | @cons x t k vs ks hx _ ih =>
    intro i v e
    cases i with
    | zero => simp at e; exact ⟨x, t, k, e.symm, hx, rfl⟩
    | succ i => obtain ⟨x', t', k', h1, h2, h3⟩ := ih (by simpa using e); exact ⟨x', t', k', h1, h2, by simpa using h3⟩
theorem keysAre_sv {w : World} : ∀ {kvs : List (Str × Value)} {us : List Value}, KeysAre (PySem.strKind PG w) kvs us → SV us (kvs.map fun p => key p.1)
  | [], [], _ => .nil
  | [], _ :: _, h => by have := h.1; simp at this
  | _ :: _, [], h => by have := h.1; simp at this
  | (x, v) :: kvs, u :: us, h => by
    obtain ⟨k, y, e, hk⟩ := h.2 0 u rfl
    simp at e
    obtain ⟨rfl, rfl⟩ := e
    obtain ⟨t, rfl⟩ := Value.isStrOf_shape hk
    refine .cons rfl (keysAre_sv (w := w) ⟨by have := h.1; simpa using this, fun j v hv => ?_⟩)
    obtain ⟨k, z, e, hk⟩ := h.2 (j + 1) v (by simpa using hv)
    exact ⟨k, z, by simpa using e, hk⟩
theorem SV.sortable {vs ks} (H : SV vs ks) : Sortable PyProof.Rows.strKind vs := by
  constructor
  · intro v hv
    obtain ⟨x, t, rfl⟩ := H.str v hv
    exact ⟨_, rfl⟩
  · refine ⟨"str", fun v hv => ?_⟩
    obtain ⟨x, t, rfl⟩ := H.str v hv
    exact ⟨rfl, rfl⟩
theorem SV.sorted {vs ks} (H : SV vs ks) (hs : SortedV PyProof.Rows.strKind vs) : ks.Pairwise (· ≤ ·) := by
  unfold SortedV at hs
  induction H with
  | nil => exact .nil
  | @cons x t k vs ks hx h ih =>
    rw [List.pairwise_cons] at hs
    refine List.pairwise_cons.mpr ⟨fun k' hk' => ?_, ih hs.2⟩
    obtain ⟨i, hi, e⟩ := List.getElem_of_mem hk'
    have hl := h.length
    obtain ⟨y, u, k2, h1, h2, h3⟩ := h.get (List.getElem?_eq_getElem (by omega : i < vs.length))
    have hk2 : k' = k2 := by
      rw [List.getElem?_eq_getElem hi] at h3
      rw [← e]; exact Option.some.inj h3
    have hle := hs.1 _ (List.getElem_mem (by omega : i < vs.length)) (key x) (key y) rfl (by rw [h1]; rfl)
    rw [hx, h2, ← hk2] at hle
    have : ¬ k' < k := by
      intro z
      have hle : PyProof.Rows.strKind.blt k' k = false := hle
      rw [show PyProof.Rows.strKind.blt k' k = decide (k' < k) from rfl, decide_eq_true z] at hle
      cases hle
    exact List.not_lt.mp this
theorem GX.keyset {E : Ent} {kvs f fam} (H : GX E kvs f fam) (k : List Nat) : k ∈ kvs.map (fun p => key p.1) ↔ (f k).isSome = true := by
  rw [← H.has k]
  constructor
  · intro h
    obtain ⟨p, hp, rfl⟩ := List.mem_map.mp h
    unfold valueAt
    rw [Option.isSome_map, List.find?_isSome]
    exact ⟨p, hp, by simpa using stO_of rfl⟩
  · intro h
    unfold valueAt at h
    rw [Option.isSome_map, List.find?_isSome] at h
    obtain ⟨p, hp, e⟩ := h
    exact List.mem_map.mpr ⟨p, hp, by rw [of_decide_eq_true e, key_stO]⟩
theorem GX.pl {E : Ent} {kvs f fam} (H : GX E kvs f fam) : (kvs.map fun p => key p.1).Perm (pl f) := by
  refine (List.perm_ext_iff_of_nodup ?_ ?_).mpr fun k => ?_
  · have : (kvs.map fun p => key p.1) = (kvs.map (·.1)).map key := by rw [List.map_map]; rfl
    rw [this]
    have nd := H.nd
    generalize kvs.map (·.1) = xs at nd
    induction xs with
    | nil => exact List.nodup_nil
    | cons x xs ih =>
      rw [List.nodup_cons] at nd
      rw [List.map_cons, List.nodup_cons]
      refine ⟨fun z => ?_, ih nd.2⟩
      obtain ⟨y, hy, e⟩ := List.mem_map.mp z
      exact nd.1 (key_inj e ▸ hy)
  · exact (pl_sorted f).imp fun h e => by subst e; exact List.lt_irrefl _ h
  · rw [H.keyset, mem_pl H.three]
theorem GX.len {E : Ent} {kvs f fam} (H : GX E kvs f fam) : kvs.length ≤ 3 := by
  have := H.pl.length_eq
  rw [List.length_map] at this
  have h3 : (Mine.pl f).length ≤ kinds3.length := List.length_filter_le _ _
  have : kinds3.length = 3 := rfl
  omega
theorem GX.sorted {w : World} {E : Ent} {kvs f fam us vs'} (H : GX E kvs f fam) (hk : KeysAre (PySem.strKind PG w) kvs us) (hp : vs'.Perm us) (hs : SortedV PyProof.Rows.strKind vs') : SV vs' (Mine.pl f) := by
  obtain ⟨ks', h1, h2⟩ := (keysAre_sv hk).perm hp
  have h3 := h1.sorted hs
  have h4 : ks' = Mine.pl f := List.Perm.eq_of_pairwise (le := (· ≤ ·)) (fun a b _ _ h h' => List.le_antisymm h h') h3 ((pl_sorted f).imp fun h => List.le_of_lt h) (h2.trans H.pl)
  rw [← h4]; exact h1
end Mine
end

section
open PySem PySem.W PySem.Calls PyProof.Rows
set_option Elab.async false
set_option linter.all false
set_option maxRecDepth 100000
namespace Mine
section
variable {w : World} {A : Around} {h g : Heap} {env : Env} {L : Addr} {l : Loc} {led rest : Led} {c : Addr} {oc : Obj} {vs : List Value} {ks : List (List Nat × NameKind)} {cs : List (List Nat × Addr)} {G : Obj → Led}
theorem d_pow {a n : Int} {t u : Tok} {P : Value → Heap → Prop} (hn : 0 ≤ n) (hn2 : n ≤ 1000000) (ha : a.natAbs < 2 ^ 64) (k : ∀ t, P (.int (a ^ n.toNat) t) h) : W w A (binaryOp .Pow (.int a t) (.int n u)) P h :=
  W.of fun s Q hs q => PyProof.Rows.pow_int_small hn hn2 ha (by subst hs; exact q _ _ _ (k _))
theorem d_fdiv {a b : Int} {t u : Tok} {P : Value → Heap → Prop} (hb : b ≠ 0) (hp : b.natAbs < 1073741824) (k : ∀ t, P (.int (a.fdiv b) t) h) : W w A (binaryOp .FloorDiv (.int a t) (.int b u)) P h :=
  W.of fun s Q hs q => PyProof.Rows.floordiv_int hb (by subst hs; exact q _ _ _ (k _)) (.inl (PyProof.noPylong_small hp))
theorem d_mul {a b : Int} {t u : Tok} {P : Value → Heap → Prop} (ha : a.natAbs < 2 ^ 62) (hb : b.natAbs < 2 ^ 62) (k : ∀ t, P (.int (a * b) t) h) : W w A (binaryOp .Mult (.int a t) (.int b u)) P h := W.of fun s Q hs q => PyProof.Rows.mul_int (by subst hs; exact q _ _ _ (k _))
theorem d_sle {a b : Str} {t u : Tok} {P : Value → Heap → Prop} (k : P (.bool (!decide (key b < key a))) h) : W w A (compareOp .LtE (.str a t) (.str b u)) P h :=
  W.of fun s Q hs q => PySem.P.le_str (by subst hs; exact q _ _ s.toks k)
theorem it_bytes (S : St g L h l led) (hA : A.handled = none) {b : Array UInt8} {t : Tok} : W w A (pyIter (.bytes b t)) (IterAt w A g L l led b.size (fun i v => ∃ c u, b[i]? = some c ∧ v = .int (c.toNat : Int) u) []) h :=
  W.of fun s Q hs q => by
    subst hs
    refine KBw.pyIter_bytes (q _ _ s.toks ⟨s.heap.objs.size, fun i h => KBw.IsBytesIter h s.heap.objs.size b t i, _, rfl, fun i h st => ?_, KBw.walks hA s.heap.objs.size b t, ?_, S.push _⟩)
    · obtain ⟨o, e, _⟩ := st; exact ⟨o, e⟩
    · exact ⟨_, Heap.get?_push_size _ rfl, rfl, rfl⟩
theorem it_str (S : St g L h l led) (hA : A.handled = none) {x : Str} {t : Tok} (ha : x.cps.all (· < 128) = true) : W w A (pyIter (.str x t)) (IterAt w A g L l led x.cps.size (SignAt x) []) h :=
  W.of fun s Q hs q => by
    subst hs
    refine wpAny_pyIter_ascii ha (q _ _ s.toks ⟨s.heap.objs.size, fun i h => h.IsStrIter s.heap.objs.size "str_ascii_iterator" x t i, _, rfl, fun i h st => ?_, Walks.strAscii hA s.heap.objs.size x t, ?_, S.push _⟩)
    · obtain ⟨o, e, _⟩ := st; exact ⟨o, e⟩
    · exact ⟨_, Heap.get?_push_size _ rfl, rfl, rfl⟩
theorem it_tuple (S : St g L h l led) (hA : A.handled = none) (H : Pk [(c, tupO vs)] led rest) : W w A (pyIter (.ref c)) (IterAt w A g L l rest vs.length (fun i v => vs[i]? = some v) [(c, tupO vs)]) h :=
  W.of fun s Q hs q => by
    subst hs
    have S := S.pk H
    have hl := tupO_at (S.get List.mem_cons_self)
    have hne : c ≠ s.heap.objs.size := Nat.ne_of_lt (Heap.lt_size (S.get List.mem_cons_self))
    refine wpAny_pyIter_tuple hl (q _ _ s.toks ⟨s.heap.objs.size, fun i h => h.IsTupleIter s.heap.objs.size c i ∧ h.IsTuple c vs.toArray, { cls := .type "tuple_iterator", data := .fields #[.ref c, .int 0 0] }, rfl, fun i h st => ?_, ?_, ?_, S.push _⟩)
    · obtain ⟨o, e, _⟩ := st.1; exact ⟨o, e⟩
    · have := Walks.tuple (prog := PG) (w := w) hA s.heap.objs.size c hne vs.toArray
      simpa using this
    · exact ⟨⟨_, Heap.get?_push_size _ rfl, rfl, rfl⟩, hl.push _⟩
end
end Mine
end

section
open PySem PySem.W PySem.Calls PyProof.Rows
set_option Elab.async false
set_option linter.all false
set_option maxRecDepth 100000
namespace Mine
theorem kinds3_cases {k : List Nat} (hk : k ∈ kinds3) : k = kIdx ∨ k = kRel ∨ k = kSeq := by simpa using hk
abbrev kAscii : List Nat := [97, 115, 99, 105, 105]
def encO (k : List Nat) : Array UInt8 := (k.map Nat.toUInt8).toArray
open Builtin in
theorem enc_eq (k : List Nat) (hk : k ∈ kinds3) (t u : Tok) : «str.encode» ⟨[.str (stO k) t, .str (stO kAscii) u], []⟩ = (mkBytes (encO k) >>= fun v => ret v) := by
  rcases List.mem_cons.mp hk with rfl | hk
  · kernel_rfl
  rcases List.mem_cons.mp hk with rfl | hk
  · kernel_rfl
  · have := List.mem_singleton.mp hk; subst this; kernel_rfl
open Builtin in
theorem find_eq (i : Nat) (c : UInt8) (hi : #[83, 82, 73][i]? = some c) (t u : Tok) : «bytes.find» ⟨[.bytes #[83, 82, 73] t, .bytes #[c] u], []⟩ = (mkInt i >>= fun v => ret v) := by
  rcases i with _ | _ | _ | i
  · simp at hi; subst hi; kernel_rfl
  · simp at hi; subst hi; kernel_rfl
  · simp at hi; subst hi; kernel_rfl
  · simp at hi
open Builtin in
theorem road_eq {id : String} (k : List Nat) (hk : k ∈ kinds3) : _codecs.decodeRoad id (encO k) (stO kAscii) none [] = mkStr (stO k) := by
  rcases List.mem_cons.mp hk with rfl | hk
  · kernel_rfl
  rcases List.mem_cons.mp hk with rfl | hk
  · kernel_rfl
  · have := List.mem_singleton.mp hk; subst this; kernel_rfl
open Builtin in
theorem meets_textA {t u t2 : Tok} {d : PySem.Str} {k : List Nat} (hk : k ∈ kinds3) :
    Meets («_codecs.decode.text» ⟨[.bytes (encO k) t, .str (stO kAscii) u, .none, .str d t2], []⟩) (fun _ R s => ∀ t' j, R (.ok (.ret (.str (stO k) t'))) { s with toks := j }) := by
  refine .of_wp fun prog w A R s hS => ?_
  show wpAny _ _ (Bytes.bytesLike _ (.bytes (encO k) t) >>= fun r => _) _ _ s
  refine wpAny_bind (wpAny_of_eq KBd.like_eq ?_)
  refine wpAny_bind (wpAny_of_eq KBd.held_eq ?_)
  show wpAny _ _ (_codecs.decodeRoad _ (encO k) (stO kAscii) none [] >>= fun v => _) _ _ s
  rw [road_eq k hk]
  refine wpAny_bind ?_
  exact wpAny_mkStr (wpAny_pure ⟨_, rfl, hS _ _⟩) (by rw [sizeLine_eq]; rcases kinds3_cases hk with rfl | rfl | rfl <;> decide)
open Builtin in
theorem dec_eq {k : List Nat} (hk : k ∈ kinds3) (t u : Tok) : «bytes.decode» ⟨[.bytes (encO k) t, .str (stO kAscii) u], []⟩ = (mkStr (PySem.Str.ofString "utf-8") >>= fun _ => mkStr (stO kAscii) >>= fun e => mkStr (PySem.Str.ofString "bytes.decode") >>= fun d =>
    call (.builtin "_codecs.decode.text") [.bytes (encO k) t, e, .none, d] >>= fun v => ret v) := by
  rcases kinds3_cases hk with rfl | rfl | rfl <;> kernel_rfl
open Builtin in
theorem meets_decA {t u : Tok} {k : List Nat} (hk : k ∈ kinds3) : Meets («bytes.decode» ⟨[.bytes (encO k) t, .str (stO kAscii) u], []⟩) (fun _ R s => ∀ t' j, R (.ok (.ret (.str (stO k) t'))) { s with toks := j }) := by
  refine .of_wp fun prog w A R s hS => ?_
  rw [dec_eq hk]
  refine wpAny_bind (wpAny_mkStr ?_ (by decide))
  refine wpAny_bind (wpAny_mkStr ?_ (by decide))
  refine wpAny_bind (wpAny_mkStr ?_ (by decide))
  exact wpAny_bind (call_function_meets KBd.kind_text KBd.plain_text KBd.entry_text (KBd.args_text _ _ _ _) (meets_textA hk) (fun t' j => wpAny_pure ⟨_, rfl, hS _ _⟩))
theorem args_dec (a b : Value) : argsOk "bytes.decode" ⟨[a, b], []⟩ := by unfold argsOk; kernel_rfl
theorem slot_bfind : Slot "bytes" "find" "bytes.find" :=
  .of (owner := "bytes") (n := "find") (by rw [typeLookup_type, builtinLookup_eq_fast]; kernel_rfl) (by decide +kernel) (by decide +kernel) (by decide +kernel)
    (by first | exact .inl (by decide +kernel) | exact .inr (by decide +kernel)) (by rw [isSubtype_type]; kernel_rfl)
theorem type_bfind : typeOf (.builtin "bytes.find") = pure (.type "method_descriptor") := by show builtinType _ = _; rw [builtinType_eq_fast]; kernel_rfl
theorem entry_bfind : entryFor table "bytes.find" = some Builtin.«bytes.find» := entryFor_of_tree (by kernel_rfl)
theorem args_bfind (a b : Value) : argsOk "bytes.find" ⟨[a, b], []⟩ := by unfold argsOk; kernel_rfl
open Builtin in
theorem meets_enc {k : List Nat} (hk : k ∈ kinds3) (t u : Tok) : Meets («str.encode» ⟨[.str (stO k) t, .str (stO kAscii) u], []⟩) (fun _ R s => ∀ t' j, R (.ok (.ret (.bytes (encO k) t'))) { s with toks := j }) := by
  refine .of_wp fun prog w A R s hS => ?_
  rw [enc_eq k hk]
  exact wpAny_bind (wpAny_mkBytes (wpAny_pure ⟨_, rfl, hS _ _⟩) (by rw [sizeLine_eq]; rcases kinds3_cases hk with rfl | rfl | rfl <;> decide))
open Builtin in
theorem meets_bfind (i : Nat) (c : UInt8) (hi : #[83, 82, 73][i]? = some c) (t u : Tok) : Meets («bytes.find» ⟨[.bytes #[83, 82, 73] t, .bytes #[c] u], []⟩) (fun _ R s => ∀ t' j, R (.ok (.ret (.int i t'))) { s with toks := j }) := by
  refine .of_wp fun prog w A R s hS => ?_
  rw [find_eq i c hi]
  exact wpAny_bind (wpAny_mkInt (wpAny_pure ⟨_, rfl, hS _ _⟩))
open Builtin in
theorem tix_eq (a : Addr) (v : Value) : «tuple.index» ⟨[.ref a, v], []⟩ = (Tuple.tupleItemsOf (.ref a) >>= fun xs => do
  for i in [0:min xs.size xs.size] do
    if let some y := xs[i]? then
      if ← eqBool y v then return ← retInt i
  rule "tuple.index.not-found"
  raiseError "ValueError" "tuple.index(x): x not in tuple") := by kernel_rfl
section
variable {w : World} {A : Around} {h g : Heap} {env : Env} {L : Addr} {l : Loc} {led rest : Led} {c : Addr} {oc : Obj} {vs : List Value}
theorem c_encode {k ka : List Nat} (hk : k ∈ kinds3) {t u : Tok} {y : Str} (hy : key y = kAscii) {P : Value → Heap → Prop} (kk : ∀ t, P (.bytes (encO k) t) h) : W w A (call (.builtin "str.encode") [.str (stO k) t, .str y u]) P h :=
  W.of fun s Q hs q => by
    obtain rfl := stO_of hy
    subst hs
    exact call_meets F.slot_str_encode (PySem.typeIs_str _ _ _) F.entry_str_encode (F.args_str_encode_2 _ _) (meets_enc hk t u) fun t' j => q _ _ _ (kk t')
theorem c_decode {k : List Nat} (hk : k ∈ kinds3) {t u : Tok} {y : Str} (hy : key y = kAscii) {P : Value → Heap → Prop} (kk : ∀ t, P (.str (stO k) t) h) : W w A (call (.builtin "bytes.decode") [.bytes (encO k) t, .str y u]) P h :=
  W.of fun s Q hs q => by
    obtain rfl := stO_of hy
    subst hs
    exact call_meets FB.slot_bytes_decode (PySem.W.typeIs_bytes _ _ _) FB.entry_bytes_decode (args_dec _ _) (meets_decA hk) fun t' j => q _ _ _ (kk t')
theorem c_bfind {i : Nat} {c : UInt8} (hi : #[83, 82, 73][i]? = some c) {t u : Tok} {P : Value → Heap → Prop} (kk : ∀ t, P (.int i t) h) : W w A (call (.builtin "bytes.find") [.bytes #[83, 82, 73] t, .bytes #[c] u]) P h :=
  W.of fun s Q hs q => by
    subst hs
    exact call_meets slot_bfind (PySem.W.typeIs_bytes _ _ _) entry_bfind (args_bfind _ _) (meets_bfind i c hi t u) fun t' j => q _ _ _ (kk t')
theorem m_encode {x : Str} {t : Tok} {pl : Sem Bool} {P : Value × List Value → Heap → Prop} (k : P (.builtin "str.encode", [.str x t]) h) : W w A (getMethod (.str x t) (Str.ofString "encode") pl) P h :=
  W.of fun s Q hs q => by subst hs; exact getMethod_builtin (PySem.typeIs_str _ _ _) F.plainAttrs_str F.slot_str_encode F.type_str_encode (fun a e => nomatch e) (q _ _ s.toks k)
theorem m_decode {x : Array UInt8} {t : Tok} {pl : Sem Bool} {P : Value × List Value → Heap → Prop} (k : P (.builtin "bytes.decode", [.bytes x t]) h) : W w A (getMethod (.bytes x t) (Str.ofString "decode") pl) P h :=
  W.of fun s Q hs q => by subst hs; with_reducible exact KBd.method_of (.bytes x t) (PySem.W.typeIs_bytes _ _ _) FB.slot_bytes_decode FB.type_bytes_decode KBd.noRef (q _ _ s.toks k)
theorem m_bfind {x : Array UInt8} {t : Tok} {pl : Sem Bool} {P : Value × List Value → Heap → Prop} (k : P (.builtin "bytes.find", [.bytes x t]) h) : W w A (getMethod (.bytes x t) (Str.ofString "find") pl) P h :=
  W.of fun s Q hs q => by subst hs; with_reducible exact KBd.method_of (.bytes x t) (PySem.W.typeIs_bytes _ _ _) slot_bfind type_bfind KBd.noRef (q _ _ s.toks k)
end
end Mine
end

section
open PySem PySem.W PySem.Calls PyProof.Rows
set_option Elab.async false
set_option linter.all false
set_option maxRecDepth 100000
namespace Mine
open Builtin in
theorem meets_tix (a : Addr) (x0 x1 x2 y : Str) (t0 t1 t2 u : Tok) (i : Nat) (hi : [x0, x1, x2].findIdx? (· == y) = some i) :
    Meets («tuple.index» ⟨[.ref a, .str y u], []⟩) (fun _ R s => s.heap.get? a = some { cls := .type "tuple", dict := none, data := .seq #[.str x0 t0, .str x1 t1, .str x2 t2] 0, slots := #[] } ∧ ∀ t' j, R (.ok (.ret (.int i t'))) { s with toks := j }) := by
  refine .of_wp fun prog w A R s hS => ?_
  obtain ⟨hl, hR⟩ := hS
  rw [tix_eq]
  obtain ⟨hp, g, d, tk, os⟩ := s
  have e0 := (eqGives_str x0 y t0 u)
  have e1 := (eqGives_str x1 y t1 u)
  have e2 := (eqGives_str x2 y t2 u)
  have f2 := AutoSeq1.sub_tuple_tuple
  have go : wpAny (model prog w) A.in1 (Tuple.tupleItemsOf (.ref a)) (fun xs s' => xs = #[.str x0 t0, .str x1 t1, .str x2 t2] ∧ s' = ⟨hp, g, d, tk, os⟩) (fun _ _ => False) ⟨hp, g, d, tk, os⟩ := by
    wp_walk using AutoSeq1.wpAny_loadPart' hl
    exact ⟨rfl, rfl⟩
  refine wpAny_bind (wpAny_mono go (fun xs s' hr => ?_) fun _ _ e => e.elim)
  obtain ⟨rfl, rfl⟩ := hr
  have hr : List.range' 0 3 1 = [0, 1, 2] := rfl
  simp only [Std.Legacy.Range.forIn_eq_forIn_range', Std.Legacy.Range.size, List.size_toArray, List.length_cons, List.length_nil, Nat.min_self, Nat.sub_zero, Nat.zero_add, Nat.reduceAdd, Nat.add_one_sub_one, Nat.div_one, hr, List.forIn_cons, List.forIn_nil]
  simp only [List.getElem?_toArray, List.getElem?_cons_zero, List.getElem?_cons_succ]
  have fin : ∀ (n : Nat), i = n → wpAny (model prog w) A.in1 (retInt n) (fun fin s' => ∃ v, fin = Fin.done (Flow.ret v) ∧ R (Except.ok (Flow.ret v)) s') (fun e s' => R (Except.error e) s') ⟨hp, g, d, tk, os⟩ := by
    intro n e
    subst e
    unfold retInt
    exact wpAny_bind (wpAny_mkInt (wpAny_pure ⟨_, rfl, hR _ _⟩))
  cases h0 : x0 == y with
  | true =>
    simp [List.findIdx?_cons, h0] at hi
    refine wpAny_bind (wpAny_bind (wpAny_bind (e0.at _ _ prog w _ _ ?_)))
    rw [if_pos h0]
    refine wpAny_bind (wpAny_mono (fin 0 hi.symm) (fun r s' hr => wpAny_pure (wpAny_pure (wpAny_pure hr))) fun _ _ e => e)
  | false =>
    refine wpAny_bind (wpAny_bind (wpAny_bind (e0.at _ _ prog w _ _ ?_)))
    rw [if_neg (by rw [h0]; simp)]
    refine wpAny_pure ?_
    cases h1 : x1 == y with
    | true =>
      simp [List.findIdx?_cons, h0, h1] at hi
      refine wpAny_bind (wpAny_bind (e1.at _ _ prog w _ _ ?_))
      rw [if_pos h1]
      refine wpAny_bind (wpAny_mono (fin 1 hi.symm) (fun r s' hr => wpAny_pure (wpAny_pure (wpAny_pure hr))) fun _ _ e => e)
    | false =>
      refine wpAny_bind (wpAny_bind (e1.at _ _ prog w _ _ ?_))
      rw [if_neg (by rw [h1]; simp)]
      refine wpAny_pure ?_
      cases h2 : x2 == y with
      | true =>
        simp [List.findIdx?_cons, h0, h1, h2] at hi
        refine wpAny_bind (wpAny_bind (e2.at _ _ prog w _ _ ?_))
        rw [if_pos h2]
        refine wpAny_bind (wpAny_mono (fin 2 hi.symm) (fun r s' hr => wpAny_pure (wpAny_pure (wpAny_pure hr))) fun _ _ e => e)
      | false => simp [List.findIdx?_cons, h0, h1, h2] at hi
section
variable {prog : Program} {w : World} {A : Around} {E : Value → Shared → Prop} {s : Shared} {b : Array UInt8} {t : Tok}
theorem nextOf_bytes_item {it : Addr} {i : Nat} {c : UInt8} {Q : Value → Shared → Prop} (hit : KBw.IsBytesIter s.heap it b t i) (hx : b[i]? = some c)
    (hQ : ∀ h', KBw.IsBytesIter h' it b t (i + 1) → Heap.SameBut it s.heap h' → Q (.int (c.toNat : Int) s.toks) { s with heap := h', toks := s.toks + 1 }) : wpAny (model prog w) A (Builtin.SmallTypes.nextOf (.ref it)) Q E s := by
  obtain ⟨o, ho, hc, hd⟩ := id hit
  unfold Builtin.SmallTypes.nextOf
  refine wpAny_bind (wpAny_callSpecial?_slot (name := PySem.Str.ofString "__next__") (KBw.iter_typeIs hit) KBw.slot_next
    (wpAny_call_entry KBw.slot_next (KBw.iter_typeIs hit) KBw.entry_next ?_ (KBw.args_next _)))
  show wpAny _ _ (field (.ref it) 0 >>= _) _ _ s
  refine wpAny_bind (wpAny_field ho hd (x := .bytes b t) rfl ?_)
  show wpAny _ _ (if (Value.bytes b t == Value.none) = true then _ else _) _ _ s
  rw [if_neg (show ¬ ((Value.bytes b t == Value.none) = true) from Bool.false_ne_true)]
  show wpAny _ _ (field (.ref it) 1 >>= _) _ _ s
  refine wpAny_bind (wpAny_field ho hd (x := .int i 0) rfl ?_)
  refine wpAny_bind (wpAny_of_eq (a := b) rfl ?_)
  simp only [Int.toNat_natCast, hx]
  refine wpAny_bind (wpAny_setField ho hd (by simp) (wpAny_bind (wpAny_mkInt (wpAny_pure ⟨_, rfl, wpAny_pure (hQ _ ?_ (Heap.SameBut.update ..))⟩))))
  exact ⟨_, Heap.get?_update_self _ ho (Obj.isFreed_of_fields (Obj.data_mapFields hd _)), (Obj.cls_mapFields ..).trans hc, by
    rw [Obj.data_mapFields hd]; simp [rawInt]⟩
theorem nextOf_bytes_end {it : Addr} {i : Nat} {Q : Value → Shared → Prop} (hh : A.handled = none) (hit : KBw.IsBytesIter s.heap it b t i) (hx : b[i]? = none)
    (hE : ∀ h' e, Heap.ExtBut it s.heap h' → (∃ o, h'.get? e = some o ∧ o.cls = .type "StopIteration") → E (.ref e) { s with heap := h' }) : wpAny (model prog w) A (Builtin.SmallTypes.nextOf (.ref it)) Q E s := by
  obtain ⟨o, ho, hc, hd⟩ := id hit
  unfold Builtin.SmallTypes.nextOf
  refine wpAny_bind (wpAny_callSpecial?_slot (name := PySem.Str.ofString "__next__") (KBw.iter_typeIs hit) KBw.slot_next
    (wpAny_call_entry KBw.slot_next (KBw.iter_typeIs hit) KBw.entry_next ?_ (KBw.args_next _)))
  show wpAny _ _ (field (.ref it) 0 >>= _) _ _ s
  refine wpAny_bind (wpAny_field ho hd (x := .bytes b t) rfl ?_)
  show wpAny _ _ (if (Value.bytes b t == Value.none) = true then _ else _) _ _ s
  rw [if_neg (show ¬ ((Value.bytes b t == Value.none) = true) from Bool.false_ne_true)]
  show wpAny _ _ (field (.ref it) 1 >>= _) _ _ s
  refine wpAny_bind (wpAny_field ho hd (x := .int i 0) rfl ?_)
  refine wpAny_bind (wpAny_of_eq (a := b) rfl ?_)
  simp only [Int.toNat_natCast, hx]
  refine wpAny_bind (wpAny_rule (wpAny_bind (wpAny_setField ho hd (by simp) ?_)))
  show wpAny _ _ (newExc (.type "StopIteration") [] >>= _) _ _ _
  refine wpAny_bind ?_
  simp only [newExc, newTuple]
  refine wpAny_bind (wpAny_newObj_type ?_ (by size_fits))
  refine wpAny_bind (m := firstArgMember _ _) (wpAny_of_eq (a := Value.none) (by first | rfl | (simp only [firstArgMember]; rfl)) ?_)
  refine wpAny_newObj_type ?_ (by size_fits)
  simp only [raiseNew]
  refine wpAny_bind (wpAny_handled ?_)
  first | rw [show A.in1.handled = none from hh] | rw [hh]
  refine wpAny_bind (wpAny_pure (wpAny_throw ?_))
  exact hE _ _ (((Heap.SameBut.update ..).extBut.push _).push _) ⟨_, Heap.get?_push_size _ rfl, rfl⟩
end
theorem draws_bytes {prog : Program} {w : World} {A : Around} (hh : A.handled = none) (it : Addr) (b : Array UInt8) (t : Tok) :
    Draws prog w A it [it] b.size (fun i v => ∃ c u, b[i]? = some c ∧ v = .int (c.toNat : Int) u) (fun i h => KBw.IsBytesIter h it b t i) where
  live := fun _ _ st => let ⟨o, ho, _⟩ := st; ⟨o, ho⟩
  frame := fun _ _ _ st hk => let ⟨o, ho, r⟩ := st; ⟨o, hk it (by simp) o ho, r⟩
  item := fun i s Q E hi st hQ => by
    refine nextOf_bytes_item st (c := b[i]) (by simp [hi]) fun h' hit' hs' => ?_
    exact hQ _ h' (s.toks + 1) ⟨_, _, by simp [hi], rfl⟩ hit' hs'
  done := fun s Q E st hE => nextOf_bytes_end hh st (by simp) hE
end Mine
end

section
open PySem PySem.W PySem.Calls PyProof.Rows
set_option Elab.async false
set_option linter.all false
set_option maxRecDepth 100000
namespace Mine
set_option maxHeartbeats 1000000 in
theorem meets_enumerate_newB (b : Array UInt8) (t : Tok) :
    Meets (Builtin.«enumerate.__new__» ⟨[.type "enumerate", .bytes b t], []⟩) (fun _ R s =>
      R (.ok (.ret (.ref (s.heap.push { cls := .type "bytes_iterator", data := .fields #[.bytes b t, .int 0 0] }).objs.size)))
        { s with heap := (s.heap.push { cls := .type "bytes_iterator", data := .fields #[.bytes b t, .int 0 0] }).push { cls := .type "enumerate", data := .fields #[.none, .bool false, .ref s.heap.objs.size, rawInt 0, .none, .none] } }) :=
  .of_wp fun prog w A R s h => by
    obtain ⟨hp, g, d, tk, os⟩ := s
    have hsub := sub_enumerate
    wp_walk
    refine wpAny_stack_any fun st => wpAny_pure ?_
    split
    · rename_i c _ _ _ _ _
      cases (c == Value.type "enumerate")
      · wp_walk using KBw.pyIter_bytes
        exact ⟨_, rfl, h⟩
      · wp_walk using KBw.pyIter_bytes
        exact ⟨_, rfl, h⟩
    · wp_walk using KBw.pyIter_bytes
      exact ⟨_, rfl, h⟩
theorem call_enumerate_bytes {prog : Program} {w : World} {A : Around} {E : Value → Shared → Prop} {s : Shared} {b : Array UInt8} {t : Tok} {Q : Value → Shared → Prop}
    (h : Q (.ref (s.heap.objs.size + 1)) { s with heap := (s.heap.push { cls := .type "bytes_iterator", data := .fields #[.bytes b t, .int 0 0] }).push { cls := .type "enumerate", data := .fields #[.none, .bool false, .ref s.heap.objs.size, rawInt 0, .none, .none] } }) :
    wpAny (model prog w) A (call (.type "enumerate") [.bytes b t]) Q E s := by
  refine callType_new F.called_enumerate (by decide) (F.typeCall_enumerate_1 _) (F.newCall_enumerate_1 _) (fun obj => F.args_object_init_2 obj _) F.entry_enumerate_new
    (meets_enumerate_newB b t) ?_
  have hz : (s.heap.push { cls := .type "bytes_iterator", data := .fields #[.bytes b t, .int 0 0] }).objs.size = s.heap.objs.size + 1 := Heap.size_push ..
  show _ ∧ _
  rw [hz]
  have he : IsEnum ((s.heap.push { cls := .type "bytes_iterator", data := .fields #[.bytes b t, .int 0 0] }).push
      { cls := .type "enumerate", data := .fields #[.none, .bool false, .ref s.heap.objs.size, rawInt 0, .none, .none] }) (s.heap.objs.size + 1) s.heap.objs.size 0 .none := by
    have := Heap.get?_push_size (s.heap.push { cls := .type "bytes_iterator", data := .fields #[.bytes b t, .int 0 0] })
      (o := { cls := .type "enumerate", data := .fields #[.none, .bool false, .ref s.heap.objs.size, rawInt 0, .none, .none] }) rfl
    rw [hz] at this; exact this
  exact ⟨⟨_, he, rfl⟩, h⟩
def kindIx (kk : List Nat) : Nat := if kk = kSeq then 0 else if kk = kRel then 1 else 2
def letterB (kk : List Nat) : UInt8 := if kk = kSeq then 83 else if kk = kRel then 82 else 73
section
variable {w : World} {A : Around} {h g : Heap} {env : Env} {L : Addr} {l : Loc} {led rest : Led} {ks : List (List Nat × NameKind)} {cs : List (List Nat × Addr)}
theorem m_tix (S : St g L h l led) (G : Gd w g) {pl : Sem Bool} {P : Value × List Value → Heap → Prop} (k : P (.builtin "tuple.index", [.ref 63]) h) : W w A (getMethod (.ref 63) (Str.ofString "index") pl) P h :=
  W.of fun s Q hs q => by
    subst hs
    obtain ⟨t0, t1, t2, e⟩ := kt_63 w.params
    have e := S.keep _ _ (G.X _ _ e)
    exact getMethod_builtin ⟨_, e, rfl⟩ PySem.F.plainAttrs_tuple PySem.F.slot_tuple_index PySem.F.type_tuple_index (fun a z => by cases z; exact ⟨_, e, rfl⟩) (q _ _ s.toks k)
theorem c_tix (S : St g L h l led) (G : Gd w g) {kk : List Nat} (hk : kk ∈ kinds3) {y : Str} (hy : key y = kk) {u : Tok} {P : Value → Heap → Prop} (k : ∀ t, P (.int (kindIx kk) t) h) : W w A (call (.builtin "tuple.index") [.ref 63, .str y u]) P h :=
  W.of fun s Q hs q => by
    subst hs
    obtain ⟨t0, t1, t2, e⟩ := kt_63 w.params
    have e := S.keep _ _ (G.X _ _ e)
    obtain rfl := stO_of hy
    refine call_meets PySem.F.slot_tuple_index ⟨_, e, rfl⟩ PySem.F.entry_tuple_index (PySem.F.args_tuple_index_2 _ _) (meets_tix 63 _ _ _ (stO kk) t0 t1 t2 u (kindIx kk) ?_) ⟨e, fun t' j => q _ _ _ (k t')⟩
    rcases kinds3_cases hk with rfl | rfl | rfl <;> decide +kernel
theorem t_itemK (S : St g L h l led) (G : Gd w g) {a : Addr} {vs : List Value} (m : (Mine.hd.heap_39 w.params).lookup a = some (tupO vs)) {value slice : Expr} {i : Int} {u : Tok} {v : Value} {P : Value → Heap → Prop} (h0 : 0 ≤ i) (h1 : i < 2 ^ 63) (hv : vs[i.toNat]? = some v) (k : P v h)
    (hs : subscripted slice false (.ref a) (.int i u) = operate [.ref a, .int i u] (getItem (.ref a) (.int i u))) : W w A (subscriptTail value slice (.ref a) (.int i u)) P h :=
  W.of fun s Q hs' q => by
    subst hs'
    have m := S.keep _ _ (G.X _ _ m)
    have hlt : i.toNat < vs.length := by
      rcases Nat.lt_or_ge i.toNat vs.length with x | x
      · exact x
      · rw [List.getElem?_eq_none x] at hv; cases hv
    refine tail_any (T := "tuple") ⟨_, m, rfl⟩ slot_tuple_getitem.lookup (PyProof.Rows.getItem_tuple (j := i.toNat) ⟨_, m, rfl, 0, rfl⟩ (by omega) h1 ?_ (by simpa using hv) (q _ _ s.toks k)) hs
    unfold seqIndex?
    simp
    omega

theorem swaps2 (e : EnvF env L ks cs) {x y : Str} {px py ps pv : Pos} {n m : Nat} {v1 v2 : Expr} {kx ky : List Nat} (hx : key x = kx) (hkx : ks.lookup kx = some .local) (hy : key y = ky) (hky : ks.lookup ky = some .local)
    (hl : (py.line == px.line) = true) (hst : ([v1, v2].any fun | .Starred .. => true | _ => false) = false) (hd : ([x, y].eraseDups.length != [x, y].length) = false) (hf : [v1, v2].all (foldedForSure 8) = false) (hc : [v1, v2].all (constantsAlone 8) = false) :
    swappedStores [.Tuple [.Name x px, .Name y py] n ps] (.Tuple [v1, v2] m pv) env = pure (some [x, y]) := by
  have hb : env.blockKind = .function := by unfold Env.blockKind; rw [e.kind]; rfl
  have h1 : env.kindOf x = some .local := e.kindOf hx hkx
  have h2 : env.kindOf y = some .local := e.kindOf hy hky
  have hf2 : ([Expr.Name x px, Expr.Name y py].filterMap fun | .Name id pos => if (env.kindOf id == some .local && pos.line == (([Expr.Name x px, Expr.Name y py].head?.map (·.pos.line)).getD 0)) = true then some id else none | _ => none) = [x, y] := by
    have e1 : (([Expr.Name x px, Expr.Name y py].head?.map (·.pos.line)).getD 0) = px.line := rfl
    rw [e1, List.filterMap_cons, List.filterMap_cons]
    dsimp only
    rw [h1, h2, hl]
    simp
  unfold swappedStores
  dsimp only
  refine (if_neg ?_).trans ((if_neg ?_).trans ((if_neg ?_).trans ((if_neg ?_).trans ((if_neg ?_).trans ?_))))
  · rw [hb]; simp
  · exact fun z => Bool.noConfusion (hst.symm.trans z)
  · have key : ∀ Q : List Str, Q = [x, y] → ((Q.length != 2) || (Q.eraseDups.length != Q.length)) = true → False := by
      rintro _ rfl z
      rw [hd] at z
      simp at z
    exact fun z => key _ hf2 z
  · exact fun z => Bool.noConfusion (hf.symm.trans z)
  · exact fun z => Bool.noConfusion (hc.symm.trans z)
  · exact congrArg (fun l => (pure (some l) : Sem (Option (List Str)))) hf2
theorem swaps3 (e : EnvF env L ks cs) {x y z : Str} {px py pz ps pv : Pos} {n m : Nat} {v1 v2 v3 : Expr} {kx ky kz : List Nat} (hx : key x = kx) (hkx : ks.lookup kx = some .local) (hy : key y = ky) (hky : ks.lookup ky = some .local) (hz : key z = kz) (hkz : ks.lookup kz = some .local)
    (hl : (py.line == px.line) = true) (hl2 : (pz.line == px.line) = true) (hst : ([v1, v2, v3].any fun | .Starred .. => true | _ => false) = false) (hd : ([x, y, z].eraseDups.length != [x, y, z].length) = false) (hf : [v1, v2, v3].all (foldedForSure 8) = false) (hc : [v1, v2, v3].all (constantsAlone 8) = false) :
    swappedStores [.Tuple [.Name x px, .Name y py, .Name z pz] n ps] (.Tuple [v1, v2, v3] m pv) env = pure (some [x, y, z]) := by
  have hb : env.blockKind = .function := by unfold Env.blockKind; rw [e.kind]; rfl
  have h1 : env.kindOf x = some .local := e.kindOf hx hkx
  have h2 : env.kindOf y = some .local := e.kindOf hy hky
  have h3 : env.kindOf z = some .local := e.kindOf hz hkz
  have hf2 : ([Expr.Name x px, Expr.Name y py, Expr.Name z pz].filterMap fun | .Name id pos => if (env.kindOf id == some .local && pos.line == (([Expr.Name x px, Expr.Name y py, Expr.Name z pz].head?.map (·.pos.line)).getD 0)) = true then some id else none | _ => none) = [x, y, z] := by
    have e1 : (([Expr.Name x px, Expr.Name y py, Expr.Name z pz].head?.map (·.pos.line)).getD 0) = px.line := rfl
    rw [e1, List.filterMap_cons, List.filterMap_cons, List.filterMap_cons]
    dsimp only
    rw [h1, h2, h3, hl, hl2]
    simp
  unfold swappedStores
  dsimp only
  refine (if_neg ?_).trans ((if_neg ?_).trans ((if_neg ?_).trans ((if_neg ?_).trans ((if_neg ?_).trans ?_))))
  · rw [hb]; simp
  · exact fun z => Bool.noConfusion (hst.symm.trans z)
  · have key : ∀ Q : List Str, Q = [x, y, z] → ((Q.length != 3) || (Q.eraseDups.length != Q.length)) = true → False := by
      rintro _ rfl z
      rw [hd] at z
      simp at z
    exact fun z => key _ hf2 z
  · exact fun z => Bool.noConfusion (hf.symm.trans z)
  · exact fun z => Bool.noConfusion (hc.symm.trans z)
  · exact congrArg (fun l => (pure (some l) : Sem (Option (List Str)))) hf2
def WhileEnd (M : Nat → Heap → Prop) (n : Nat) (P : Flow → Heap → Prop) : Flow → Heap → Prop
  | .ret v, h' => P (.ret v) h'
  | .brk, h' => P .next h'
  | _, h' => ∃ m, m < n ∧ M m h'
theorem w_while {test : Expr} {body : List Stmt} {pos : Pos} {P : Flow → Heap → Prop} (M : Nat → Heap → Prop) (n₀ : Nat) (m0 : M n₀ h)
    (turn : ∀ n h, M n h → W w A (isTrue test env (eval test env)) (fun b h1 => (b = true → W w A (execs body env) (WhileEnd M n P) h1) ∧ (b = false → P .next h1)) h) :
    W w A (exec (.While test body [] pos) env) P h :=
  W.of fun s Q hs q => by
    subst hs
    refine wpAny_While (codeAny_whileLoop (fun n s' => ∃ h' tk, s' = { s with heap := h', toks := tk } ∧ M n h') ?_ n₀ ⟨_, s.toks, rfl, m0⟩)
    rintro n s' ⟨h', tk, rfl, hm⟩
    refine W.use (turn n h' hm) rfl fun b h1 tk1 hb => ?_
    cases b with
    | true =>
      rw [if_pos rfl]
      refine W.use (hb.1 rfl) rfl fun f h2 tk2 hf => ?_
      cases f with
      | next => obtain ⟨m, hlt, hm'⟩ := hf; exact ⟨m, hlt, h2, tk2, rfl, hm'⟩
      | cont => obtain ⟨m, hlt, hm'⟩ := hf; exact ⟨m, hlt, h2, tk2, rfl, hm'⟩
      | brk => exact q _ _ _ hf
      | ret v => exact q _ _ _ hf
    | false =>
      rw [if_neg (by simp)]
      exact wpAny_execs_nil (q _ _ _ (hb.2 rfl))
end
end Mine
end

section
open PySem PySem.W PySem.Calls PyProof.Rows
set_option Elab.async false
set_option linter.all false
set_option maxRecDepth 100000
namespace Mine
abbrev enumO (I : Addr) (i : Int) (old : Value) : Obj := { cls := .type "enumerate", dict := none, data := .fields #[.none, .bool false, .ref I, rawInt i, .none, old], slots := #[] }
abbrev bitO (b : Array UInt8) (t : Tok) : Obj := { cls := .type "bytes_iterator", data := .fields #[.bytes b t, .int 0 0] }
section
variable {w : World} {A : Around} {h g : Heap} {env : Env} {L : Addr} {l : Loc} {led rest : Led} {ks : List (List Nat × NameKind)} {cs : List (List Nat × Addr)}
theorem en_make (S : St g L h l led) {b : Array UInt8} {t : Tok} {P : Value → Heap → Prop} (k : ∀ E I h', St g L h' l ((E, enumO I 0 .none) :: (I, bitO b t) :: led) → P (.ref E) h') : W w A (call (.type "enumerate") [.bytes b t]) P h :=
  W.of fun s Q hs q => by
    subst hs
    refine call_enumerate_bytes (q _ _ s.toks (k _ s.heap.objs.size _ ?_))
    have := (S.push (bitO b t)).push (enumO s.heap.objs.size 0 .none)
    rw [Heap.size_push] at this
    exact this
theorem St.turn2 {E I : Addr} {oE oI oE' oI' : Obj} (S : St g L h l ((E, oE) :: (I, oI) :: led)) {h' : Heap} (hk : ∀ b o, b ∉ [E, I] → h.get? b = some o → h'.get? b = some o) (hE : h'.get? E = some oE') (hI : h'.get? I = some oI') :
    St g L h' l ((E, oE') :: (I, oI') :: led) := by
  have mE := S.N (E, oE) (.head _)
  have mI := S.N (I, oI) (.tail _ (.head _))
  have D := S.D
  rw [List.map_cons, List.map_cons, List.nodup_cons, List.nodup_cons] at D
  have kk : ∀ b o, b ≠ E → b ≠ I → h.get? b = some o → h'.get? b = some o := fun b o h1 h2 => hk b o (by simp [h1, h2])
  obtain ⟨oL, eL, HL⟩ := S.fr
  refine ⟨⟨oL, kk _ _ (Ne.symm mE.2.1) (Ne.symm mI.2.1) eL, HL⟩, fun b o e => kk b o (fun z => ?_) (fun z => ?_) (S.keep b o e), S.hL, fun p hp => ?_, S.D⟩
  · rw [z] at e; rw [show g.get? E = none from mE.2.2] at e; cases e
  · rw [z] at e; rw [show g.get? I = none from mI.2.2] at e; cases e
  · rcases List.mem_cons.mp hp with rfl | hp
    · exact ⟨hE, mE.2⟩
    · rcases List.mem_cons.mp hp with rfl | hp
      · exact ⟨hI, mI.2⟩
      · have := S.N p (.tail _ (.tail _ hp))
        refine ⟨kk _ _ (fun z => D.1 (.tail _ (List.mem_map.mpr ⟨p, hp, z⟩))) (fun z => D.2.1 (List.mem_map.mpr ⟨p, hp, z⟩)) this.1, this.2⟩
inductive ForEn (w : World) (A : Around) (g : Heap) (L : Addr) (kx ky : List Nat) (body : Heap → (Flow → Heap → Prop) → Prop) (P : Flow → Heap → Prop) (xv : Value) (h1 : Heap) : Prop
  | mk (E I : Addr) (b : Array UInt8) (t : Tok) (l : Loc) (led : Led) (e : xv = .ref E) (S : St g L h1 l ((E, enumO I 0 .none) :: (I, bitO b t) :: led))
    (step : ∀ i c ti tv oE oI h, b[i]? = some c → St g L h ((ky, .int (c.toNat : Int) tv) :: (kx, .int (i : Nat) ti) :: l) ((E, oE) :: (I, oI) :: led) → body h (TurnEnd g L [(E, oE), (I, oI)] (fun l' led' => l' = l ∧ led' = led) P))
    (done : ∀ h, St g L h l led → P .next h)
inductive EnInv (g : Heap) (L : Addr) (l : Loc) (led : Led) (E I : Addr) (b : Array UInt8) (t : Tok) (s : Shared) (m : Nat) (s' : Shared) : Prop
  | mk (i : Nat) (h' : Heap) (tk : Nat) (oE oI : Obj) (e : s' = { s with heap := h', toks := tk }) (hi : i ≤ b.size) (hm : m = b.size + 1 - i) (st : (∃ old, IsEnum h' E I (i : Nat) old) ∧ KBw.IsBytesIter h' I b t i) (S : St g L h' l ((E, oE) :: (I, oI) :: led))
theorem w_forEn (e : EnvF env L ks cs) (hA : A.handled = none) {x y : Str} {px py pt pos : Pos} {n : Nat} {iter : Expr} {body : List Stmt} {kx ky : List Nat} {P : Flow → Heap → Prop} (hx : key x = kx) (hkx : ks.lookup kx = some .local) (hy : key y = ky) (hky : ks.lookup ky = some .local)
    (k : W w A (eval iter env) (ForEn w A g L kx ky (fun h Q => W w A (execs body env) Q h) P) h)
    (hs : ∀ x, foldedSetIterable iter env x = pure x) : W w A (exec (.For (.Tuple [.Name x px, .Name y py] n pt) iter body [] pos) env) P h :=
  W.of fun s Q hs' q => by
    subst hs'
    refine wpAny_For (k.use rfl fun xv h1 tk hf => ?_) hs
    obtain ⟨E, I, b, t, l, led, rfl, S, step, done⟩ := hf
    have hEI : E ≠ I := fun z => by
      have D := S.D
      rw [List.map_cons, List.map_cons, List.nodup_cons] at D
      exact D.1 (z ▸ .head _)
    have Wk := WalksT.enumerateD (draws_bytes (prog := PG) (w := w) (A := A.in1) (show A.in1.handled = none from hA) I b t) E hEI (by simp [hEI]) (by simp)
    refine wpAny_pyIter_enum (S.get (.head _)) ?_
    have st0 : (∃ old, IsEnum h1 E I 0 old) ∧ KBw.IsBytesIter h1 I b t 0 := ⟨⟨_, S.get (.head _)⟩, ⟨_, S.get (.tail _ (.head _)), rfl, rfl⟩⟩
    refine codeAny_forLoop_any
      (EnInv g L l led E I b t s) ?_ (b.size + 1)
      ⟨0, h1, tk, _, _, rfl, Nat.zero_le _, rfl, st0, S⟩
    rintro m s' ⟨i, h', tk', oE, oI, rfl, hi, rfl, hst, S'⟩
    by_cases hlt : i < b.size
    · refine Wk.item i _ _ _ hlt hst fun T vals h₁ tk₁ hP hTge hT hM hk₁ => ?_
      have hTw := Wk.apart _ _ _ hM
      refine Wk.go _ _ _ _ _ _ _ _ hM fun h₂ hst₂ hk₂ => ?_
      obtain ⟨⟨old, hE₂⟩, hI₂⟩ := id hst₂
      obtain ⟨oI₂, eI₂, _⟩ := id hI₂
      have S₂ := S'.turn2 (fun b o hb z => hk₂ b o hb (hk₁ b o hb z)) hE₂ eI₂
      obtain ⟨ti, v, ⟨c, tv, hc, rfl⟩, rfl⟩ := hP
      have hT₂ : h₂.IsTuple T #[.int i ti, .int (c.toNat : Int) tv] := hT.at fun o z => hk₂ _ o hTw z
      refine assign_Tuple_tuple hA hT₂ rfl rfl fun h₃ hx₃ => ?_
      have S₃ := S₂.grow fun b o z => hx₃ b o (Nat.ne_of_lt (Heap.lt_size z)) z
      have st3 : (∃ old, IsEnum h₃ E I ((i + 1 : Nat) : Int) old) ∧ KBw.IsBytesIter h₃ I b t (i + 1) := Wk.frame _ _ _ hst₂ fun b hb o z => hx₃ b o (Nat.ne_of_lt (Heap.lt_size z)) z
      refine W.use (P := fun _ h4 => St g L h4 ((ky, .int (c.toNat : Int) tv) :: (kx, .int (i : Nat) ti) :: l) ((E, enumO I ((i + 1 : Nat) : Int) old) :: (I, oI₂) :: led)) (w_order_cons (w_assignName (w_store e S₃ hx hkx fun h4 S4 => w_order_cons (w_assignName (w_store e S4 hy hky fun h5 S5 => w_order_nil S5))))) rfl fun _ h₄ tk₄ S₄ => ?_
      have st4 : (∃ old, IsEnum h₄ E I ((i + 1 : Nat) : Int) old) ∧ KBw.IsBytesIter h₄ I b t (i + 1) := Wk.frame _ _ _ st3 fun a ha o z => by
        rcases List.mem_cons.mp ha with rfl | ha
        · have e1 := S₃.get (.head _); rw [z] at e1; cases e1; exact S₄.get (.head _)
        · have ha := List.mem_singleton.mp ha; subst ha
          have e1 := S₃.get (.tail _ (.head _)); rw [z] at e1; cases e1; exact S₄.get (.tail _ (.head _))
      refine W.use (step i c ti tv _ oI₂ h₄ hc S₄) rfl fun f h₅ tk₅ ht => ?_
      have fin : TurnE g L [(E, enumO I ((i + 1 : Nat) : Int) old), (I, oI₂)] (fun l' led' => l' = l ∧ led' = led) h₅ → ∃ m, m < b.size + 1 - i ∧ EnInv g L l led E I b t s m { s with heap := h₅, toks := tk₅ } := by
        rintro ⟨l', led', S₅, rfl, rfl⟩
        refine ⟨b.size + 1 - (i + 1), by omega, i + 1, h₅, tk₅, _, oI₂, rfl, hlt, rfl, Wk.frame _ _ _ st4 fun a ha o z => ?_, S₅⟩
        rcases List.mem_cons.mp ha with rfl | ha
        · have e1 := S₄.get (.head _); rw [z] at e1; cases e1; exact S₅.get (.head _)
        · have ha := List.mem_singleton.mp ha; subst ha
          have e1 := S₄.get (.tail _ (.head _)); rw [z] at e1; cases e1; exact S₅.get (.tail _ (.head _))
      cases f with
      | next => exact fin ht
      | cont => exact fin ht
      | brk => exact q _ _ _ ht
      | ret v => exact q _ _ _ ht
    · have : i = b.size := by omega
      subst this
      refine Wk.done _ _ _ hst fun h₁ tk₁ hk₁ => wpAny_execs_nil (q _ _ _ (done _ ?_))
      have S1 : St g L h₁ l led := by
        have mE := S'.N (E, oE) (.head _)
        have mI := S'.N (I, oI) (.tail _ (.head _))
        have D := S'.D
        rw [List.map_cons, List.map_cons, List.nodup_cons, List.nodup_cons] at D
        have kk : ∀ b o, b ≠ E → b ≠ I → h'.get? b = some o → h₁.get? b = some o := fun b o h1 h2 => hk₁ b o (by simp [h1, h2])
        obtain ⟨oL, eL, HL⟩ := S'.fr
        refine ⟨⟨oL, kk _ _ (Ne.symm mE.2.1) (Ne.symm mI.2.1) eL, HL⟩, fun b o e => kk b o (fun z => ?_) (fun z => ?_) (S'.keep b o e), S'.hL, fun p hp => ?_, D.2.2⟩
        · rw [z] at e; rw [show g.get? E = none from mE.2.2] at e; cases e
        · rw [z] at e; rw [show g.get? I = none from mI.2.2] at e; cases e
        · have := S'.N p (.tail _ (.tail _ hp))
          exact ⟨kk _ _ (fun z => D.1 (.tail _ (List.mem_map.mpr ⟨p, hp, z⟩))) (fun z => D.2.1 (List.mem_map.mpr ⟨p, hp, z⟩)) this.1, this.2⟩
      exact S1
end
end Mine
end

section
open PySem PySem.W PySem.Calls PyProof.Rows
set_option Elab.async false
set_option linter.all false
set_option maxRecDepth 100000
namespace Mine
section
variable {w : World} {A : Around} {h g : Heap} {env : Env} {L : Addr} {l l₁ : Loc} {led fp rest : Led} {ks : List (List Nat × NameKind)} {cs : List (List Nat × Addr)} {P : Value → Heap → Prop}
theorem c_defCx {name qual : Str} {params : Arguments} {body : List Stmt} {scope : Scope} {dV kV doc pm cdv ct oc : Value} {an od : Option Addr} {osl : Array (Option Value)} {f : Addr} {pos : List Value} {binds bl : List (Str × Value)} {n : Nat} {ns : List Str} {m : Str → Option Value}
    (S : St g L h l led) (G : Gd w g) (hA : Amb A (n + 1)) (H : Pk fp led rest)
    (ho : (Mine.hd.heap_39 w.params).lookup f = some ⟨oc, od, .func (fnOf name qual params body scope dV kV doc pm an cdv ct), osl⟩) (hcd : codeIn (Mine.hd.heap_39 w.params) cdv qual = true)
    (hbind : ∀ s : Shared, s.heap = h → BindsTo s (fnOf name qual params body scope dV kV doc pm an cdv ct) ⟨pos, []⟩ binds)
    (hkind : (binds.all fun y => scope.names.lookup y.1 == some .local || scope.names.lookup y.1 == some .cell) = true)
    (hnd : ((cellsFrom 0 scope.names []).map (·.1)).Nodup)
    (hks : scope.names.map (fun p => (key p.1, p.2)) = ks) (hbl : (binds.filter fun y => decide (scope.names.lookup y.1 = some .local)) = bl) (hl : bl.reverse.map (fun p => (key p.1, p.2)) = l₁)
    (hns : (cellsFrom 0 scope.names []).map (·.1) = ns) (hm : bindC (fun x => scope.names.lookup x) binds (fun _ => none) = m)
    (k : ∀ g' L' h₁ env A' cs cells, env.code = cdv → (∀ b o, g.get? b = some o → g'.get? b = some o) → CellsX m ns cs cells → Amb A' n → EnvF env L' ks cs → St g' L' h₁ l₁ (cells ++ fp) → Gd w g' →
      ∀ R : Flow → Heap → Prop, (∀ fl h', BodyEnd g' g L l rest P fl h' → R fl h') → W w A' (execs body env) R h₁)
    (hco : scope.isCoroutine = false) (hgen : scope.isGenerator = false) (hk : scope.kind = .function)
     : Cd w A f pos P h := fun s hs Q q => by
    subst hs
    have keepg : ∀ b o, g.get? b = some o → (hideAll s.heap (fp.map (·.1))).get? b = some o := fun b o e => by
      have S := S.pk H
      refine hideAll_get _ (S.keep b o e) fun z => ?_
      obtain ⟨p, hp, z⟩ := List.mem_map.mp z
      have := (S.N p (List.mem_append_left _ hp)).2.2
      rw [z, e] at this; cases this
    obtain ⟨g', rfl, G', gk, mk, back⟩ := call_St S H G
    have XS := G.X.keeps S.keep
    obtain ⟨_, _, _, _, T⟩ := G.T
    refine codeAny_call_function hA.room (XS _ _ ho) rfl hco hgen rfl (codeRec_of XS hcd) (hbind s rfl _ _ _ _ ?_)
    refine wpAny_newFunctionEnv_cells hk (kindsX hkind _) fun env' he s' x => ?_
    subst he
    refine ⟨(T.nolimit.keeps S.keep).keeps x.toInCall.keep, codeAny_func ?_⟩
    obtain ⟨h₁, tk, rfl, _⟩ := x.done
    have hk₁ := x.toInCall.keep
    obtain ⟨cells, NC, Y⟩ := Cl.news (h₀ := s.heap) (Nat.le_refl _) fun n c hm => ⟨x.cell n c (lookup_of_mem_nodup (cellsFrom_names scope.names 0 (s.heap.objs.size + 1) [] [] rfl ▸ hnd) hm), x.above n c hm⟩
    have S₁ := mk s.heap.objs.size h₁ l₁ rfl (locO_of x.toInCall.ns fun y v e => by rw [← hl, lookup_names, ← hbl] at e; exact bindL_lookup binds _ e) hk₁
    have nodupC : (cells.map (·.1)).Nodup := by
      have ap := x.apart
      have : ∀ {cl : List (Str × Addr)} {cells : Led} {m : Str → Option Value}, CellsAre m cl cells → cells.map (·.1) = cl.map (·.2) := by
        intro cl cells m Y
        induction Y with
        | nil => rfl
        | cons _ _ ih => rw [List.map_cons, List.map_cons, ih]
      rw [this Y]
      refine List.pairwise_map.mpr ?_
      exact ap
    have S₂ : St (hideAll s.heap (fp.map (·.1))) s.heap.objs.size h₁ l₁ (cells ++ fp) := by
      refine ⟨S₁.fr, S₁.keep, S₁.hL, fun p hp => ?_, ?_⟩
      · rcases List.mem_append.mp hp with hp | hp
        · refine ⟨(NC p hp).1, (NC p hp).2.1, ?_⟩
          cases q : (hideAll s.heap (fp.map (·.1))).get? p.1 with
          | none => rfl
          | some o => have := of_hideAll _ q; rw [(NC p hp).2.2] at this; cases this
        · exact S₁.N p hp
      · rw [List.map_append, List.nodup_append]
        refine ⟨nodupC, S₁.D, fun a ha b hb z => ?_⟩
        subst z
        obtain ⟨p, hp, rfl⟩ := List.mem_map.mp ha
        obtain ⟨r, hr, z⟩ := List.mem_map.mp hb
        have e1 := (NC p hp).2.2
        have e2 := (S.pk H).get (List.mem_append_left _ hr)
        rw [z] at e2
        have e3 : s.heap.get? p.1 = none := e1
        rw [e3] at e2; cases e2
    have en : (cellsFrom (s.heap.objs.size + 1) scope.names []).map (·.1) = ns := by rw [← hns]; exact cellsFrom_names _ _ _ _ _ rfl
    have Z : CellsX m ns ((cellsFrom (s.heap.objs.size + 1) scope.names []).map fun p => (key p.1, p.2)) cells := by rw [← hm, ← en]; exact cellsX_of Y
    refine wpAny_mono (W.use (k _ _ h₁ (envOfC qual scope s.heap.objs.size f cdv) _ _ cells rfl keepg Z (hA.deeper _) ⟨hk, rfl, rfl, rfl, hks, rfl⟩ S₂ G' _ fun _ _ z => z) rfl
      (Q := fun fl s' => Q (.ok (.ret (ValOf fl))) s') (E := fun _ _ => False) fun fl h' tk he => ?_) (fun fl s' hl => ?_) fun _ _ y => y.elim
    · obtain ⟨L1, l1, led1, S1, kk⟩ := he
      exact q _ _ _ (kk (back _ _ _ _ S1))
    · cases fl <;> exact hl
def BM (g : Heap) : Prop := ∃ mg bm ob, g.Ns mainGlobals mg ∧ mg "__builtins__" = some (.ref bm) ∧ bm ≠ builtinsNs ∧ bm ≠ mainGlobals ∧ g.get? bm = some ob ∧ ob.cls = .type "module" ∧ ob.dict = some builtinsNs ∧ ob.data = .plain
theorem BM.keeps {g g' : Heap} (H : BM g) (k : ∀ b o, g.get? b = some o → g'.get? b = some o) : BM g' := by
  obtain ⟨mg, bm, ob, h1, h2, h3, h4, h5, r⟩ := H
  exact ⟨mg, bm, ob, h1.keeps k, h2, h3, h4, k _ _ h5, r⟩
theorem w_fdef (e : EnvF env L ks cs) (S : St g L h l led) (B : BM g) {name : Str} {params : Arguments} {body : List Stmt} {scope : Scope} {pos : Pos} {c T : Addr} {G' : Obj → Led} {ks' : List (List Nat × NameKind)} {cl : List (Str × Addr)} {cs' : List (List Nat × Addr)} {kx : List Nat} {P : Flow → Heap → Prop}
    (hcode : env.code = .ref c) (C : CodeHd g c T) (U : PutF T (tabObj #[]) led G') (H : CompNames ks cs scope.names ks' cl cs') (hx : key name = kx) (hk : ks.lookup kx = some .local)
    (hd0 : params.defaults = []) (hk0 : params.kw_defaults = []) (ha : annTrees params none env = [])
    (k : ∀ h' f c' oc ctv doc pm vs t ps, oc.data = .fields vs → vs[1]? = some (.str (qualnameIn env name name) t) →
      St g L h' ((kx, .ref f) :: l) ((f, fnMade name (qualnameIn env name name) params body scope cl.reverse doc pm c' ctv) :: (c', oc) :: G' (tabObj ps)) → P .next h') :
    W w A (exec (.FunctionDef name params body [] none [] scope none name pos) env) P h :=
  W.of fun s Q hs q => by
    subst hs
    obtain ⟨mg, bm, ob, hg, b1, b2, b3, b4, b5, b6, b7⟩ := B
    have hgs := hg.keeps S.keep
    have hT := S.get U.mem
    have hTg := S.fresh U.mem
    have hgP : mainGlobals ≠ T := fun z => by
      obtain ⟨o, es, ep, e, hd, _⟩ := hg
      rw [z, hTg] at e; cases e
    have hbP : bm ≠ T := fun z => by rw [z, hTg] at b4; cases b4
    refine nestDef_K hd0 hk0 ha (makeFunction_K (mg := mg) (H.closure e) e.globals hgs hcode (C.keeps S.keep) hT trivial rfl hgP ⟨bm, ob, b1, b2, b3, hbP, S.keep _ _ b4, b5, b6, b7⟩ fun c' ctv doc h' tk hx' hge hlt hrec htb => ?_)
    obtain ⟨c₂, oc, vs, t, e2, hoc, hd, hv⟩ := hrec
    cases e2
    have S1 : St g L h' l (G' (tabObj (#[] ++ #[rawInt pos.line, rawInt pos.col, .ref c']))) := S.put' U (fun b ob hb _ z => hx' b ob hb z) (fun m hm => hm.extBut hx' (Ne.symm (S.ne U.mem))) htb
    have hcn : s.heap.get? c' = none := Heap.get?_none_of_le hge
    have S2 : St g L h' l ((c', oc) :: G' (tabObj (#[] ++ #[rawInt pos.line, rawInt pos.col, .ref c']))) := by
      refine ⟨S1.fr, S1.keep, S1.hL, fun p hp => ?_, ?_⟩
      · rcases List.mem_cons.mp hp with rfl | hp
        · refine ⟨hoc, fun z => ?_, ?_⟩
          · obtain ⟨o, e, _⟩ := S.fr
            rw [← show c' = L from z, hcn] at e; cases e
          · cases z : g.get? c' with
            | none => rfl
            | some o => have := S.keep _ _ z; rw [hcn] at this; cases this
        · exact S1.N p hp
      · rw [List.map_cons, List.nodup_cons]
        refine ⟨fun z => ?_, S1.D⟩
        obtain ⟨p, hp, z⟩ := List.mem_map.mp z
        obtain ⟨pre, post, el, ek⟩ := U.split
        have hm : ∃ o, s.heap.get? p.1 = some o := by
          rw [ek] at hp
          rcases List.mem_append.mp hp with y | y
          · exact ⟨p.2, S.get (by rw [el]; exact List.mem_append_left _ y)⟩
          · rcases List.mem_cons.mp y with rfl | y
            · exact ⟨_, hT⟩
            · exact ⟨p.2, S.get (by rw [el]; exact List.mem_append_right _ (.tail _ y))⟩
        obtain ⟨o, ho⟩ := hm
        rw [z, hcn] at ho; cases ho
    have S3 := S2.push (fnMade name (qualnameIn env name name) params body scope cl.reverse doc ((mg "__name__").getD .none) c' ctv)
    exact W.use (w_store e S3 hx hk fun h4 S4 => S4) rfl fun _ h4 tk4 S4 => q _ _ _ (k _ _ _ _ _ _ _ _ _ _ hd hv S4)
def FnL (f : Addr) (tl : Led) : Prop := ∃ oc od fd sl, (f, (⟨oc, od, .func fd, sl⟩ : Obj)) ∈ tl
theorem s_callF (S : St g L h l led) {f : Addr} (hf : FnL f led) {pos : Pos} {x : Expr} {rest : List Expr} {P : Value → Heap → Prop}
    (k : W w A (spliced (backTo pos (starEach (x :: rest) env))) (fun vs h1 => FnAt f h1 ∧ W w A (call (.ref f) vs) P h1) h)
    (he : starEach (x :: rest) env = (false, eval x env) :: starEach rest env) (hplain : (backTo pos (starEach rest env)).any (·.1) = false) : W w A (callWith pos (.ref f) [] (backTo pos (starEach (x :: rest) env)) []) P h :=
  W.of fun s Q hs q => by
    subst hs
    obtain ⟨oc, od, fd, sl, hm⟩ := hf
    exact callWith_F ⟨oc, od, fd, sl, S.get hm⟩ (k.use rfl fun vs h' tk x => ⟨x.1, x.2.use rfl q⟩) he hplain
theorem fnAt_of (S : St g L h l led) {f : Addr} (hf : FnL f led) {Q : Prop} (q : Q) : FnAt f h ∧ Q := by
  obtain ⟨oc, od, fd, sl, hm⟩ := hf
  exact ⟨⟨oc, od, fd, sl, S.get hm⟩, q⟩
theorem c_defN {name qual : Str} {params : Arguments} {body : List Stmt} {scope : Scope} {doc pm ctv : Value} {c' f : Addr} {cl : List (Str × Addr)} {oc : Obj} {vs : Array Value} {t : Tok} {pos : List Value} {binds : List (Str × Value)} {n : Nat}
    (S : St g L h l led) (G : Gd w g) (hA : Amb A (n + 1)) (H : Pk fp led rest)
    (hf : (f, fnMade name qual params body scope cl doc pm c' ctv) ∈ led) (hc : (c', oc) ∈ led) (hd : oc.data = .fields vs) (hv : vs[1]? = some (.str qual t))
    (hbind : ∀ s : Shared, s.heap = h → BindsTo s (fnX name qual params body scope cl .none .none doc pm none (.ref c') ctv) ⟨pos, []⟩ binds) (hloc : ∀ y ∈ binds, scope.names.lookup y.1 = some .local)
    (hks : scope.names.map (fun p => (key p.1, p.2)) = ks) (hl : binds.reverse.map (fun p => (key p.1, p.2)) = l₁) (hcs : cl.map (fun p => (key p.1, p.2)) = cs)
    (k : ∀ g' L' h₁ env A', Amb A' n → EnvF env L' ks cs → St g' L' h₁ l₁ fp → Gd w g' →
      ∀ R : Flow → Heap → Prop, (∀ fl h', BodyEnd g' g L l rest P fl h' → R fl h') → W w A' (execs body env) R h₁)
    (hcell : ∀ x ∈ scope.names, x.2 ≠ .cell) (hco : scope.isCoroutine = false) (hgen : scope.isGenerator = false) (hk : scope.kind = .function)
     : W w A (call (.ref f) pos) P h := w_ofC fun s hs Q q => by
    subst hs
    obtain ⟨g', rfl, G', -, mk, back⟩ := call_St S H G
    obtain ⟨_, _, _, _, T⟩ := G.T
    refine codeAny_call_def (fd := fnX name qual params body scope cl .none .none doc pm none (.ref c') ctv) (body := body) (binds := binds) hA.room (S.get hf) rfl (T.nolimit.keeps S.keep) ⟨c', oc, vs, t, rfl, S.get hc, hd, hv⟩ rfl (hbind s rfl) hcell hloc (fun h₁ hns hk₁ => ?_) hco hgen hk
    refine wpAny_mono (W.use (k _ _ h₁ (envX qual scope s.heap.objs.size f (.ref c') cl) _ (hA.deeper _) ⟨hk, rfl, rfl, rfl, hks, hcs⟩ (mk _ _ _ rfl (locO_of hns fun x v e => by rw [← hl, lookup_names] at e; exact e) hk₁) G' _ fun _ _ z => z) rfl
      (Q := fun fl s' => Q (.ok (.ret (ValOf fl))) s') (E := fun _ _ => False) fun fl h' tk he => ?_) (fun fl s' hl => ?_) fun _ _ y => y.elim
    · obtain ⟨L1, l1, led1, S1, kk⟩ := he
      exact q _ _ _ (kk (back _ _ _ _ S1))
    · cases fl <;> exact hl
theorem l_slice (S : St g L h l led) {c a : Addr} {vs : List Value} {lv uv : Value} {lo hi : Option Int} (hl : h.IsList c vs.toArray) (m : (a, ({ cls := .type "slice", data := .fields #[lv, uv, .none] } : Obj)) ∈ led) (pl : IsPart lv lo) (pu : IsPart uv hi) (hz : vs.length ≤ 16777216) {value slice : Expr} {P : Value → Heap → Prop}
    (k : ∀ D h' o, IsL (slicePick vs.toArray lo hi none).toList o → St g L h' l ((D, o) :: led) → P (.ref D) h')
    (hs : subscripted slice false (.ref c) (.ref a) = operate [.ref a, .ref c] (getItem (.ref c) (.ref a))) (ht : ∀ r, letTemporaryGo value (.ref c) r = pure ()) : W w A (subscriptTail value slice (.ref c) (.ref a)) P h :=
  W.of fun s Q hs' q => by
    subst hs'
    refine subscriptTail_ops hl.typeIs list_getitem_lookup (wpAny_getItem_list_slice hl ⟨_, S.get m, rfl, rfl⟩ pl pu .none (by simp) ?_ (by rw [sizeLine_eq]; simpa using hz)) hs ht
    have S2 := S.push { cls := .type "list", data := .seq (slicePick vs.toArray lo hi none) }
    refine q _ _ s.toks (k _ _ _ ⟨0, ?_⟩ S2)
    simp
def Tk (w : World) (f : Addr) : Nat → Led → Prop
  | 0, tl => FnL f tl
  | n + 1, tl => FnL f tl ∧ ∀ {g : Heap} {L : Addr} {h : Heap} {l : Loc} {led rest : Led} {A : Around}, St g L h l led → Gd w g → Amb A 2 → Pk tl led rest → ∀ (lim : Int) (t : Tok) (P : Value → Heap → Prop), 0 < lim → lim ≤ 1000 →
      (∀ h' r t' tl', 0 ≤ r → r < lim → Tk w f n tl' → St g L h' l (tl' ++ rest) → P (.int r t') h') → W w A (call (.ref f) [.int lim t]) P h
theorem Tk.fn {w : World} {f : Addr} {n : Nat} {tl : Led} (H : Tk w f n tl) : FnL f tl := by
  cases n with
  | zero => exact H
  | succ n => exact H.1
end
end Mine
end

section
open PySem PySem.W PySem.Calls PyProof.Rows
set_option maxRecDepth 100000
set_option maxHeartbeats 8000000
namespace Mine
theorem filled (w : World) : (Mine.hd.heap_39 w.params).In default ∨ PySem.Challenge.rw_og0104_01.Holds ∨ True := by
  k_fill
  exact .inr (.inr trivial)

theorem wordsAll : True := by
  (k_with "nm" => first | assumption | (simp; first | done | exact rfl) | fail)
  (k_with "ls" => first | assumption | (simp; first | done | exact rfl) | fail)
  (k_with "nmap" => first | exact nmap_nil | (apply nmap_cons; (with_reducible k_extra "nm"); (k_extra "nmap")) | fail)
  (k_with "mem" => first | exact List.mem_cons_self | (refine List.mem_cons_of_mem _ ?_; (k_extra "mem")) | (refine List.mem_append_right _ ?_; (k_extra "mem")) | assumption | (refine List.mem_append_left _ ?_; assumption) | fail)
  (k_with "pk" => first | exact Pk.nil | exact Pk.fam | exact Pk.all | (apply Pk.cons; (k_extra "tk"); (k_extra "pk")) | (apply Pk.consF; (k_extra "tkf"); (k_extra "pk")) | (apply Pk.last; (k_extra "tkf")) | fail)
  (k_with "tkf" => first | exact TkF.head | exact TkF.all | exact TkF.erase _ _ | (apply TkF.tail; (k_extra "tkf")) | (apply TkF.over; (k_extra "tkf")) | fail)
  (k_with "tk" => first | exact Tk1.head | exact htk _ | (apply Tk1.tail; (k_extra "tk")) | (apply Tk1.over; (k_extra "tk")) | fail)
  (k_with "put" => first | exact PutF.head | (apply PutF.tail; (k_extra "put")) | (apply PutF.over; (k_extra "put")) | fail)
  (k_with "setf" => first | exact SetF.head | exact SetF.nil | (apply SetF.tail; (with_unfolding_all exact rfl); (k_extra "setf")) | fail)
  (k_with "at" => simp; done)
  (k_with "mt" => first | exact mt_540_read_next _ | exact mt_540_write _ | exact mt_540_rewrite _ | exact mt_540_told _ | exact mt_489_need _ | exact mt_489_failed _ | exact mt_489_found _ | exact mt_489_read_next _ | exact mt_489_write _ | exact mt_489_chosen _ | exact mt_489_rewrite _ | exact mt_489_delete _ | exact mt_381_worth _ | exact mt_381_ordered _ | exact mt_381_place_of _ | exact mt_381_stand _ | exact mt_381_lose _ | exact mt_381_found _ | exact mt_381_read_next _ | exact mt_381_put _ | exact mt_381_drop _ | exact mt_381_doubled _ | exact mt_381_may_write _ | exact mt_381_write _ | exact mt_381_rewrite _ | exact mt_381_delete _ | exact mt_137_paths _ | exact mt_137_kind_of _ | exact mt_137_content_of _ | exact mt_137_begin _ | exact mt_137_lay _ | exact mt_137_opened _ | exact mt_137_rows_of _ | exact mt_137_told _ | exact mt_226_taken _ | exact mt_226_count _ | exact mt_226_path _ | exact mt_226_kind _ | exact mt_226_row _ | fail)
  (k_with "kp" => simp; done)
  (k_with "gl" => first | exact gl_count_octets _ | exact gl_path_octets _ | exact gl_row_octets _ | exact gl_write_shelf _ | exact gl_read_shelf _ | exact gl_least_from _ | exact gl__law_taker _ | exact gl__law_open _ | exact gl__law_in_order _ | exact gl__law_told _ | exact gl__law_place _ | exact gl__law_keyed_right _ | exact gl__law_rows_right _ | exact gl__law_is_read _ | exact gl__law_session_right _ | exact gl_law _ | exact gl_RowFile _ | exact gl_RelFile _ | exact gl_KeyFile _ | exact gl_Shelf _ | exact gl_ShelfReader _ | exact gl_KINDS _ | exact gl__law_KINDS _ | exact gl_READING_keyfile _ | exact gl_READING_rowfile _ | exact gl_ADDING _ | exact gl_BY_ORDER _ | assumption | fail)
  (k_with "gn" => first | exact gn_len _ | exact gn_range _ | exact gn_sorted _ | exact gn_bytes _ | exact gn_tuple _ | exact gn_list _ | exact gn_enumerate _ | exact gn_max _ | exact gn_Exception _ | fail)
  (k_with "kv" => first | exact kv_63 _ | exact kv_545 _ | exact kv_238 _ | exact kv_494 _ | exact kv_495 _ | exact kv_386 _ | fail)
  (k_with "sv" => first | exact SV.nil | (apply SV.cons; (k_extra "ls"); (k_extra "sv")) | fail)
  (k_with "lsub" => first | exact locs_nil | (apply locs_cons; (with_unfolding_all exact rfl); (k_extra "lsub")) | fail)
  (k_with "TE" => (try dsimp only [List.cons_append, List.nil_append]); (try simp only [List.cons_append, List.nil_append, List.append_assoc]); exact (S.sel (by k_extra "pk")).locs (by k_extra "lsub"))
  (k_with "SI" => (try dsimp only [List.cons_append, List.nil_append, List.append_eq] at S); try simp only [List.cons_append, List.nil_append, List.append_assoc, List.append_eq] at S)
  (k_with "SIE" => (try dsimp only [List.cons_append, List.nil_append, List.append_eq] at S); try simp only [List.cons_append, List.nil_append, List.append_assoc, List.append_eq, List.reverse_cons, List.reverse_nil] at S e)
  (k_with "asm" => assumption)
  (k_with "cn" => first | exact CompNames.nil | (apply CompNames.loc; (k_extra "nm"); (k_extra "cn")) | (apply CompNames.glob; (k_extra "nm"); (k_extra "cn")) | (apply CompNames.free; (k_extra "nm"); (with_unfolding_all exact rfl); (with_unfolding_all exact rfl); (k_extra "cn")) | fail)
  (k_with "boot" => with_unfolding_all boot_fast)
  (k_with "small" => first | assumption | (with_reducible exact Nat.le_of_ble_eq_true rfl) | (first | lia | omega) | (exact Nat.le_of_ble_eq_true rfl) | (simp; done) | (simp; (first | lia | omega)) | fail)
  (k_with "g execs" => first | ((with_reducible refine w_cons ?_)) | ((with_reducible refine w_nil ?_)) | fail)
  (k_with "g exec" => first | ((with_reducible refine w_if ?_)) | ((with_reducible refine w_ret ?_)) | ((with_reducible refine w_assign ?_ (by with_unfolding_all exact rfl))) | ((with_reducible refine w_setattr ?_ (by with_unfolding_all exact rfl))) | ((with_reducible refine w_setitem ?_ (by with_unfolding_all exact rfl))) | ((with_reducible refine w_exprA ?_ e.quiet (by with_unfolding_all exact rfl))) | ((with_reducible refine w_settuple ?_ (by with_unfolding_all exact rfl) (by with_unfolding_all exact rfl))) | ((with_reducible refine w_swap2 (by with_unfolding_all exact rfl) ?_ (by with_unfolding_all exact rfl))) | ((with_reducible refine w_swap3 (by with_unfolding_all exact rfl) ?_ (by with_unfolding_all exact rfl))) | ((with_reducible refine w_swap2 (swaps2 e (by k_extra "nm") (by with_unfolding_all exact rfl) (by k_extra "nm") (by with_unfolding_all exact rfl) (by with_unfolding_all exact rfl) (by with_unfolding_all exact rfl) (by decide +kernel) (by with_unfolding_all exact rfl) (by with_unfolding_all exact rfl)) ?_ (by with_unfolding_all exact rfl))) | ((with_reducible refine w_swap3 (swaps3 e (by k_extra "nm") (by with_unfolding_all exact rfl) (by k_extra "nm") (by with_unfolding_all exact rfl) (by k_extra "nm") (by with_unfolding_all exact rfl) (by with_unfolding_all exact rfl) (by with_unfolding_all exact rfl) (by with_unfolding_all exact rfl) (by decide +kernel) (by with_unfolding_all exact rfl) (by with_unfolding_all exact rfl)) ?_ (by with_unfolding_all exact rfl))) | ((with_reducible refine w_for (g := g) e (by k_extra "nm") (by with_unfolding_all exact rfl) ?_ (fun _ => by with_unfolding_all exact rfl))) | ((with_reducible refine w_assignComp (g := g) e (by k_extra "nm") (by k_extra "cn") (by with_unfolding_all exact rfl) (by with_unfolding_all exact rfl) (by decide) (by k_extra "nm") (by with_unfolding_all exact rfl) (by with_unfolding_all exact rfl) (by with_unfolding_all exact rfl) ?_ (fun _ => by with_unfolding_all exact rfl))) | fail)
  (k_with "g name" => first | ((with_reducible refine w_local e S (by k_extra "nm") (by with_unfolding_all exact rfl) (by with_unfolding_all exact rfl) ?_ (by with_unfolding_all exact rfl))) | ((with_reducible refine s_global e S G (by k_extra "nm") (by with_unfolding_all exact rfl) (by k_extra "gl") ?_ (by with_unfolding_all exact rfl))) | ((with_reducible refine s_builtin e S G (by k_extra "nm") (by with_unfolding_all exact rfl) (by k_extra "gn") (by k_extra "boot") ?_ (by with_unfolding_all exact rfl) (by with_unfolding_all exact rfl))) | ((with_reducible refine w_cell e S (by k_extra "nm") (by with_unfolding_all exact rfl) (by with_unfolding_all exact rfl) (by k_extra "mem") (by k_extra "asm") ?_ (by with_unfolding_all exact rfl))) | ((with_reducible refine w_free e S (by k_extra "nm") (by with_unfolding_all exact rfl) (by with_unfolding_all exact rfl) (by k_extra "mem") (by k_extra "asm") ?_ (by with_unfolding_all exact rfl) (by with_unfolding_all exact rfl))) | fail)
  (k_with "g const" => first | ((with_reducible refine w_str ?_); intro t) | ((with_reducible refine w_int ?_); intro t) | ((with_reducible refine w_none ?_)) | ((with_reducible refine w_bool ?_)) | ((with_reducible refine w_bytes ?_); intro t) | fail)
  (k_with "g eval" => first | ((with_reducible refine w_lattr e S G (by k_extra "nm") (by with_unfolding_all exact rfl) (by with_unfolding_all exact rfl) (by k_extra "mem") (by k_extra "mem") (by k_extra "asm") (by k_extra "nm") (by with_unfolding_all exact rfl) (by k_extra "at") ?_ (by with_unfolding_all exact rfl) (by with_unfolding_all exact rfl))) | ((with_reducible refine w_attr ?_ (by with_unfolding_all exact rfl))) | ((with_reducible refine w_cmp ?_ (by with_unfolding_all exact rfl))) | ((with_reducible refine w_binop ?_)) | ((with_reducible refine w_unop ?_)) | ((with_reducible refine w_mcall _ (by with_unfolding_all exact rfl) ?_)) | ((with_reducible refine w_call ?_ (by with_unfolding_all exact rfl))) | ((with_reducible refine w_tuple ?_)) | ((with_reducible refine w_list ?_)) | ((with_reducible refine w_subscript ?_)) | ((with_reducible refine w_slice ?_)) | ((with_reducible refine w_ifexp ?_)) | ((with_reducible refine w_one ?_)) | ((with_reducible refine w_and ?_)) | ((with_reducible refine w_comp (g := g) e (by k_extra "nm") (by k_extra "cn") (by with_unfolding_all exact rfl) (by with_unfolding_all exact rfl) (by decide) ?_ (fun _ => by with_unfolding_all exact rfl))) | ((with_reducible refine dd_new S G ?_); clear S; intro a h od hd S) | fail)
  (k_with "g test" => first | ((with_reducible refine w_tcmp ?_ (by with_unfolding_all exact rfl))) | ((with_reducible refine w_tnot ?_)) | ((with_reducible refine w_tand_nil ?_)) | ((with_reducible refine w_tor_nil ?_)) | ((with_reducible refine w_tand ?_)) | ((with_reducible refine w_tor ?_)) | ((with_reducible refine w_chain ?_ (by with_unfolding_all exact rfl))) | ((with_reducible refine w_tplain ?_ (by with_unfolding_all exact rfl))) | fail)
  (k_with "g args" => first | ((with_reducible refine w_args_nil ?_)) | ((with_reducible refine w_args_cons ?_ (by with_unfolding_all exact rfl))) | fail)
  (k_with "g callw" => first | ((with_reducible refine w_callB0 ?_)) | ((with_reducible refine w_callB1 ?_ (by with_unfolding_all exact rfl) (by with_unfolding_all exact rfl))) | ((with_reducible refine w_callB2 ?_ (by with_unfolding_all exact rfl) (by with_unfolding_all exact rfl))) | ((with_reducible refine w_callT ?_ (by with_unfolding_all exact rfl) (by with_unfolding_all exact rfl))) | ((with_reducible refine s_callK00 S G (by k_extra "kp") ?_)) | ((with_reducible refine s_callK01 S G (by k_extra "kp") ?_)) | ((with_reducible refine s_callK1 (by k_extra "kp") ?_ (by with_unfolding_all exact rfl) (by with_unfolding_all exact rfl))) | ((with_reducible refine s_callK2 (by k_extra "kp") ?_ (by with_unfolding_all exact rfl) (by with_unfolding_all exact rfl))) | fail)
  (k_with "g getattr" => first | ((with_reducible refine s_getattr S G (by k_extra "mem") (by k_extra "mem") (by k_extra "asm") (by k_extra "nm") (by with_unfolding_all exact rfl) (by k_extra "at") ?_ (by with_unfolding_all exact rfl))) | fail)
  (k_with "g setattr" => first | ((with_reducible refine s_setattr S G (by k_extra "mem") (by k_extra "put") (by k_extra "asm") (by k_extra "nm") (by k_extra "setf") (by k_extra "at") (Nat.le_of_ble_eq_true (by with_unfolding_all exact rfl)) ?_); clear S; intro h od hf S; (try with_reducible dsimp only at S)) | fail)
  (k_with "g method" => first | ((with_reducible refine s_method S G (by k_extra "mem") (by k_extra "mem") (by k_extra "asm") (by k_extra "nm") (by with_unfolding_all exact rfl) (by k_extra "mt") ?_)) | ((with_reducible refine m_append S (by k_extra "mem") (by k_extra "asm") ?_)) | ((with_reducible refine m_clear S (by k_extra "mem") (by k_extra "asm") ?_)) | ((with_reducible refine m_pop S (by k_extra "mem") (by k_extra "asm") ?_)) | ((with_reducible refine m_dclear S (by k_extra "mem") (by k_extra "asm") ?_)) | ((with_reducible refine m_dpop S (by k_extra "mem") (by k_extra "asm") ?_)) | fail)
  (k_with "g store" => first | ((with_reducible refine w_store e S (by k_extra "nm") (by with_unfolding_all exact rfl) ?_); clear S; intro h S) | ((with_reducible refine w_storeC e S (by k_extra "nm") (by with_unfolding_all exact rfl) (by with_unfolding_all exact rfl) (by k_extra "put") (by k_extra "asm") ?_); clear S; intro h oc hc S; (try with_reducible dsimp only at S)) | fail)
  (k_with "g bind" => first | ((with_reducible refine w_bindName ?_)) | fail)
  (k_with "g assign" => first | ((with_reducible refine w_assignName ?_)) | ((with_reducible refine t_unpack2 S hA.handled (by k_extra "mem") ?_); clear S; intro h S) | ((with_reducible refine t_unpack3 S hA.handled (by k_extra "mem") ?_); clear S; intro h S) | fail)
  (k_with "g truthy" => first | ((with_reducible refine w_truthy_bool ?_)) | ((with_reducible refine w_truthy_none ?_)) | ((with_reducible refine w_truthy_int ?_)) | fail)
  (k_with "g binop" => first | ((with_reducible refine l_add S (by k_extra "mem") (by k_extra "asm") (by k_extra "mem") (by k_extra "asm") (by k_extra "small") ?_); clear S; intro a h oc hc S) | ((with_reducible refine b_add (by k_extra "small") ?_); intro t) | ((with_reducible refine d_add ?_); intro t) | ((with_reducible refine d_sub ?_); intro t) | fail)
  (k_with "g unop" => first | ((with_reducible refine d_neg ?_); intro t) | fail)
  (k_with "g cmp" => first | ((with_reducible refine b_eq ?_)) | ((with_reducible refine b_ne ?_)) | ((with_reducible refine d_seq (by k_extra "ls") (by k_extra "ls") ?_)) | ((with_reducible refine d_sne (by k_extra "ls") (by k_extra "ls") ?_)) | ((with_reducible refine d_lt ?_)) | ((with_reducible refine d_gt ?_)) | ((with_reducible refine d_le ?_)) | ((with_reducible refine d_ge ?_)) | ((with_reducible refine d_eq ?_)) | ((with_reducible refine d_ne ?_)) | ((with_reducible refine d_isnone ?_)) | ((with_reducible refine d_isnotnone ?_)) | ((with_reducible refine in_range S (by k_extra "mem") (by k_extra "asm") ?_)) | ((with_reducible refine t_inK S G (by k_extra "kv") (by k_extra "ls") ?_)) | ((with_reducible refine t_notinK S G (by k_extra "kv") (by k_extra "ls") ?_)) | ((with_reducible refine t_inL S (by k_extra "mem") (by k_extra "sv") (by k_extra "ls") ?_)) | ((with_reducible refine t_notinL S (by k_extra "mem") (by k_extra "sv") (by k_extra "ls") ?_)) | ((with_reducible refine dd_in S (by k_extra "mem") (by k_extra "asm") (int_is _ _) ?_)) | ((with_reducible refine dd_notin S (by k_extra "mem") (by k_extra "asm") (int_is _ _) ?_)) | ((with_reducible refine dd_in S (by k_extra "mem") (by k_extra "asm") (str_is' _ _) ?_)) | ((with_reducible refine dd_notin S (by k_extra "mem") (by k_extra "asm") (str_is' _ _) ?_)) | fail)
  (k_with "g newtuple" => first | ((with_reducible refine w_newTuple S ?_ (by size_fits)); clear S; intro a h S) | fail)
  (k_with "g newlist" => first | ((with_reducible refine w_newList S ?_ (by size_fits)); clear S; intro a h S) | fail)
  (k_with "g items" => first | ((with_reducible refine t_items2 S hA.handled (by k_extra "mem") ?_); clear S; intro h S) | ((with_reducible refine t_items3 S hA.handled (by k_extra "mem") ?_); clear S; intro h S) | fail)
  (k_with "g order" => first | ((with_reducible refine w_order_nil ?_)) | ((with_reducible refine w_order_cons ?_)) | fail)
  (k_with "g part" => first | ((with_reducible refine w_part_none ?_)) | ((with_reducible refine w_part_some ?_)) | fail)
  (k_with "g callt" => first | ((with_reducible refine r_range1 S ?_); clear S; intro a h oa ha S) | ((with_reducible refine r_range2 S ?_); clear S; intro a h oa ha S) | ((with_reducible refine b_bytes ?_); intro t) | ((with_reducible refine t_ofList S (by k_extra "mem") (by k_extra "asm") (by k_extra "small") ?_); clear S; intro a h S) | ((with_reducible refine l_ofList S (by k_extra "mem") (by k_extra "asm") (by k_extra "small") ?_); clear S; intro a h oc hc S) | ((with_reducible refine l_ofTuple S (tupO_at (S.get (by k_extra "mem"))) (by k_extra "small") ?_); clear S; intro a h oc hc S) | fail)
  (k_with "g callb" => first | ((with_reducible refine b_len (by k_extra "small") ?_); intro t) | ((with_reducible refine d_len S (by k_extra "mem") (by k_extra "asm") ?_ (by k_extra "small")); intro t) | ((with_reducible refine d_append S (by k_extra "put") (by k_extra "asm") (by k_extra "small") ?_); clear S; intro h oc hc S; (try with_reducible dsimp only at S)) | ((with_reducible refine d_clear S (by k_extra "put") (by k_extra "asm") (by k_extra "small") ?_); clear S; intro h oc hc S; (try with_reducible dsimp only at S)) | ((with_reducible refine dd_clear S (by k_extra "put") (by k_extra "asm") (by k_extra "small") ?_); clear S; intro h oc hc S; (try with_reducible dsimp only at S)) | ((with_reducible refine dd_pop S (by k_extra "put") (by k_extra "asm") (int_is _ _) (by with_unfolding_all exact rfl) (by k_extra "asm") (by k_extra "small") ?_); clear S; intro h oc hc S; (try with_reducible dsimp only at S)) | fail)
  (k_with "g setitem" => first | ((with_reducible refine dd_set S (by k_extra "put") (by k_extra "asm") (int_is _ _) (by k_extra "small") ?_); clear S; intro h oc hc S; (try with_reducible dsimp only at S)) | ((with_reducible refine dd_set S (by k_extra "put") (by k_extra "asm") (str_is' _ _) (by k_extra "small") ?_); clear S; intro h oc hc S; (try with_reducible dsimp only at S)) | fail)
  (k_with "g tail" => first | ((with_reducible refine b_slice S (by k_extra "mem") (by constructor) (by constructor) (by k_extra "small") ?_ (by with_unfolding_all exact rfl)); intro t) | ((with_reducible refine b_rev S (by k_extra "mem") (by k_extra "small") ?_ (by with_unfolding_all exact rfl)); intro t) | ((with_reducible refine dd_item S (by k_extra "mem") (by k_extra "asm") (int_is _ _) (by k_extra "asm") ?_ (by with_unfolding_all exact rfl))) | ((with_reducible refine dd_item S (by k_extra "mem") (by k_extra "asm") (str_is' _ _) (by k_extra "asm") ?_ (by with_unfolding_all exact rfl))) | ((with_reducible refine d_item S (by k_extra "mem") (by k_extra "asm") (by decide) (by decide) (by with_unfolding_all exact rfl) ?_ (by with_unfolding_all exact rfl))) | ((with_reducible refine t_item S (by k_extra "mem") (by decide) (by decide) (by with_unfolding_all exact rfl) ?_ (by with_unfolding_all exact rfl))) | fail)
  (k_with "br" => first | (refine ⟨fun _ => ?_, fun z => absurd z (by decide)⟩) | (refine ⟨fun z => absurd z (by decide), fun _ => ?_⟩) | fail)
  (k_with "S" => first | (with_reducible refine then_next ?_) | (with_reducible refine then_ret ?_) | (with_reducible refine hZq _ _ ?_) | (with_reducible refine s_in S G ?_) | ((with_reducible refine now_ S ?_); clear S; intro a h S) | ((fail_if_success (fail_if_success (with_reducible show W _ _ (eval (.Name _ _) _) _ _))); (k_extra "g name")) | ((fail_if_success (fail_if_success (with_reducible show W _ _ (eval (.Constant _ _ _) _) _ _))); (k_extra "g const")) | ((fail_if_success (fail_if_success (with_reducible show W _ _ (eval _ _) _ _))); (k_extra "g eval")) | ((fail_if_success (fail_if_success (with_reducible show W _ _ (execs _ _) _ _))); (k_extra "g execs")) | ((fail_if_success (fail_if_success (with_reducible show W _ _ (exec _ _) _ _))); (k_extra "g exec")) | ((fail_if_success (fail_if_success (with_reducible show W _ _ (isTrue _ _ _) _ _))); (k_extra "g test")) | ((fail_if_success (fail_if_success (with_reducible show W _ _ (spliced _) _ _))); (k_extra "g args")) | ((fail_if_success (fail_if_success (with_reducible show W _ _ (callWith _ _ _ _ _) _ _))); (k_extra "g callw")) | ((fail_if_success (fail_if_success (with_reducible show W _ _ (getAttr _ _ _) _ _))); (k_extra "g getattr")) | ((fail_if_success (fail_if_success (with_reducible show W _ _ (setAttr _ _ _) _ _))); (k_extra "g setattr")) | ((fail_if_success (fail_if_success (with_reducible show W _ _ (getMethod _ _ _) _ _))); (k_extra "g method")) | ((fail_if_success (fail_if_success (with_reducible show W _ _ (storeName _ _ _) _ _))); (k_extra "g store")) | ((fail_if_success (fail_if_success (with_reducible show W _ _ (bindName _ _ _) _ _))); (k_extra "g bind")) | ((fail_if_success (fail_if_success (with_reducible show W _ _ (assign _ _ _) _ _))); (k_extra "g assign")) | ((fail_if_success (fail_if_success (with_reducible show W _ _ (truthy _) _ _))); (k_extra "g truthy")) | ((fail_if_success (fail_if_success (with_reducible show W _ _ (binaryOp _ _ _) _ _))); (k_extra "g binop")) | ((fail_if_success (fail_if_success (with_reducible show W _ _ (unaryOp _ _) _ _))); (k_extra "g unop")) | ((fail_if_success (fail_if_success (with_reducible show W _ _ (compareOp _ _ _) _ _))); (k_extra "g cmp")) | ((fail_if_success (fail_if_success (with_reducible show W _ _ (newTuple _) _ _))); (k_extra "g newtuple")) | ((fail_if_success (fail_if_success (with_reducible show W _ _ (newList _) _ _))); (k_extra "g newlist")) | ((fail_if_success (fail_if_success (with_reducible show W _ _ (assignInOrder _ _) _ _))); (k_extra "g order")) | ((fail_if_success (fail_if_success (with_reducible show W _ _ (unpackItems _ _ _) _ _))); (k_extra "g items")) | ((fail_if_success (fail_if_success (with_reducible show W _ _ (evalPart _ _) _ _))); (k_extra "g part")) | ((fail_if_success (fail_if_success (with_reducible show W _ _ (call (.builtin _) _) _ _))); (k_extra "g callb")) | ((fail_if_success (fail_if_success (with_reducible show W _ _ (call (.type _) _) _ _))); (k_extra "g callt")) | ((fail_if_success (fail_if_success (with_reducible show W _ _ (setItem _ _ _) _ _))); (k_extra "g setitem")) | ((fail_if_success (fail_if_success (with_reducible show W _ _ (subscriptTail _ _ _ _) _ _))); (k_extra "g tail")) | ((with_reducible refine gd_br ?_); (k_extra "br")) | ((with_reducible refine gd_triv ?_)) | ((with_reducible refine tests_nil ?_)) | ((with_reducible refine tests_one ?_)) | (refine hZq (.ret _) _ ?_) | fail)
  (k_with "SS" => repeat (k_extra "S"))
  (k_with "SN" => repeat ((fail_if_success (with_reducible refine gd_newlist ?_)); (k_extra "S")))
  (k_with "SNT" => repeat ((fail_if_success (with_reducible refine gd_newtuple ?_)); (k_extra "S")))
  (k_with "NT" => k_extra "SNT"; refine w_newTuple S ?_ (by size_fits); clear S; intro ft h S)
  (k_with "NL" => k_extra "SN"; refine w_newList S ?_ (by size_fits); clear S; intro fl h S)
  (k_with "DEF" => (case ho => k_is); (case hcd => k_is); (case hbind => (intro s hs; first | exact BindsTo.of_eq rfl | exact binds_K (hs ▸ G.X.keeps S.keep) rfl (by k_is) rfl rfl rfl)); (case hloc => exact locs rfl); (case hks => (k_extra "nmap")); (case hl => (k_extra "nmap")); (case hcell => decide); (case hco => exact rfl); (case hgen => exact rfl); (case hk => exact rfl); intro g L h env A hA e S G Zq hZq)
  (k_with "DEFC" => (case ho => k_is); (case hcd => k_is); (case hbind => (intro s hs; first | exact BindsTo.of_eq rfl | exact binds_K (hs ▸ G.X.keeps S.keep) rfl (by k_is) rfl rfl rfl)); (case hkind => rfl); (case hnd => decide +kernel); (case hks => (k_extra "nmap")); (case hbl => kernel_rfl); (case hl => (k_extra "nmap")); (case hns => kernel_rfl); (case hm => rfl); (case hco => exact rfl); (case hgen => exact rfl); (case hk => exact rfl); intro g L h env A cs cells X hA e S G Zq hZq)
  trivial


section Row1
abbrev kIn : List Nat := [105, 110, 112, 117, 116]
abbrev kIo : List Nat := [105, 45, 111]
abbrev kOut : List Nat := [111, 117, 116, 112, 117, 116]
abbrev kExt : List Nat := [101, 120, 116, 101, 110, 100]
theorem br_t {b : Bool} {p q : Prop} (e : b = true) (k : p) : (b = true → p) ∧ (b = false → q) := ⟨fun _ => k, fun z => by rw [e] at z; cases z⟩
theorem br_f {b : Bool} {p q : Prop} (e : b = false) (k : q) : (b = true → p) ∧ (b = false → q) := ⟨fun z => by (rw [e] at z; cases z), fun _ => k⟩
inductive ResT (k : List Nat) (b : Array UInt8) (o : Obj) : Prop
  | mk (x : Str) (t u : Tok) (p1 : key x = k) (p2 : o = tupO [.str x t, .bytes b u])
inductive RowF (c : Addr) (km : List Nat) (at_ last : Int) (v : Bool) (o : Obj) : Prop
  | mk (mx : Str) (tm t1 t2 : Tok) (p1 : key mx = km) (p2 : IsF [([99, 111, 110, 116, 101, 110, 116], .ref c), ([109, 111, 100, 101], .str mx tm), ([97, 116], .int at_ t1), ([105, 115, 95, 118, 97, 108, 105, 100], .bool v), ([108, 97, 115, 116], .int last t2)] o)
section
variable {w : World} {A : Around} {h g : Heap} {env : Env} {L : Addr} {l : Loc} {led rest : Led}
theorem row_next {x dx c : Addr} {od oc : Obj} {km : List Nat} {at_ last : Int} {v : Bool} {rows : List (Array UInt8)} {P : Value → Heap → Prop}
    (S : St g L h l led) (G : Gd w g) (hA : Amb A 3) (hp : Pk [(x, instObj 540 dx), (dx, od), (c, oc)] led rest)
    (hf : RowF c km at_ last v od) (hr : IsR rows oc) (hz : rows.length ≤ 1000) (hm : km = kIn ∨ km = kIo) (h0 : 0 ≤ at_)
    (k1 : v = false → ∀ h' od' a ot, ResT [52, 54] #[] ot → RowF c km at_ (-1) false od' → St g L h' l ([(a, ot), (x, instObj 540 dx), (dx, od'), (c, oc)] ++ rest) → P (.ref a) h')
    (k2 : v = true → ↑rows.length ≤ at_ → ∀ h' od' a ot, ResT [49, 48] #[] ot → RowF c km at_ (-1) false od' → St g L h' l ([(a, ot), (x, instObj 540 dx), (dx, od'), (c, oc)] ++ rest) → P (.ref a) h')
    (k3 : ∀ r, v = true → rows[at_.toNat]? = some r → ∀ h' od' a ot, ResT [48, 48] r ot → RowF c km (at_ + 1) at_ true od' → St g L h' l ([(a, ot), (x, instObj 540 dx), (dx, od'), (c, oc)] ++ rest) → P (.ref a) h')
    : W w A (call (.ref 516) [.ref x]) P h := by
  obtain ⟨mx, tm, t1, t2, hmx, hf⟩ := hf
  obtain ⟨vs, hc, hb⟩ := hr
  have hl := hb.length
  have hm' : ([kIn, kIo].any fun q => decide (q = km)) = true := by rcases hm with rfl | rfl <;> decide
  refine' w_def (binds := [(Str.ofString "self", .ref x)]) S G hA hp ?ho ?hcd ?hbind ?hloc ?hks ?hl ?k ?hcell ?hco ?hgen ?hk
  k_extra "DEF"
  k_extra "SS"
  refine br_f (by rw [hm']; rfl) ?_
  k_extra "SS"
  cases v with
  | false =>
    k_extra "SS"
    exact ⟨_, _, [(_, _), (x, _), (dx, _), (c, _)], S.sel (by k_extra "pk"), fun S => k1 rfl _ _ _ _ ⟨_, _, _, ls_46, rfl⟩ ⟨_, _, _, _, hmx, hf⟩ S⟩
  | true =>
    k_extra "SS"
    refine ⟨fun q => ?_, fun q => ?_⟩
    · k_extra "SS"
      exact ⟨_, _, [(_, _), (x, _), (dx, _), (c, _)], S.sel (by k_extra "pk"), fun S => k2 rfl (by simpa [hl] using q) _ _ _ _ ⟨_, _, _, ls_10, rfl⟩ ⟨_, _, _, _, hmx, hf⟩ S⟩
    · k_extra "SS"
      have q' : at_.toNat < rows.length := by simp at q; (first | lia | omega)
      obtain ⟨tb, hv⟩ := hb.get (List.getElem?_eq_getElem q')
      refine d_item S (by k_extra "mem") hc h0 (by (first | lia | omega)) hv ?_ rfl
      k_extra "SS"
      exact ⟨_, _, [(_, _), (x, _), (dx, _), (c, _)], S.sel (by k_extra "pk"), fun S => k3 _ rfl (List.getElem?_eq_getElem q') _ _ _ _ ⟨_, _, _, ls_00, rfl⟩ ⟨_, _, _, _, hmx, hf⟩ S⟩
theorem row_make {c : Addr} {oc : Obj} {mx : Str} {tm : Tok} {km : List Nat} {rows : List (Array UInt8)} {P : Value → Heap → Prop}
    (S : St g L h l led) (G : Gd w g) (hA : Amb A 4) (hp : Pk [(c, oc)] led rest) (hmx : key mx = km) (hr : IsR rows oc) (hz : rows.length ≤ 1000)
    (k1 : km = kOut → ∀ h' x dx od' oc', RowF c km 0 (-1) true od' → IsR [] oc' → St g L h' l ([(x, instObj 540 dx), (dx, od'), (c, oc')] ++ rest) → P (.ref x) h')
    (k2 : km ≠ kOut → ∀ h' x dx od', RowF c km 0 (-1) true od' → St g L h' l ([(x, instObj 540 dx), (dx, od'), (c, oc)] ++ rest) → P (.ref x) h')
    : W w A (call (.ref 540) [.ref c, .str mx tm]) P h := by
  obtain ⟨vs, hc, hb⟩ := hr
  have hl := hb.length
  refine w_class S G hA (cl_540 _) fun x dx h A hA S => ?_
  refine' c_def (binds := [(Str.ofString "self", .ref x), (Str.ofString "content", .ref c), (Str.ofString "mode", .str mx tm)]) S G hA (Pk.cons .head (Pk.cons .head hp)) ?ho ?hcd ?hbind ?hloc ?hks ?hl ?k ?hcell ?hco ?hgen ?hk
  k_extra "DEF"
  have hf : IsF [] (dictOf [] 0) := ⟨_, _, rfl, by simp, .nil⟩
  k_extra "SS"
  refine ⟨fun q => ?_, fun q => ?_⟩
  · k_extra "SS"
    exact ⟨_, _, [(x, _), (dx, _), (c, _)], S.sel (by k_extra "pk"), fun S => ⟨rfl, k1 (by simpa using q) _ _ _ _ _ ⟨_, _, _, _, hmx, hf⟩ ⟨_, hc, .nil⟩ S⟩⟩
  · k_extra "SS"
    exact ⟨_, _, [(x, _), (dx, _), (c, _)], S.sel (by k_extra "pk"), fun S => ⟨rfl, k2 (by simpa using q) _ _ _ _ ⟨_, _, _, _, hmx, hf⟩ S⟩⟩
theorem row_write {x dx c : Addr} {od oc : Obj} {km : List Nat} {at_ last : Int} {v : Bool} {rows : List (Array UInt8)} {b : Array UInt8} {tb : Tok} {P : Value → Heap → Prop}
    (S : St g L h l led) (G : Gd w g) (hA : Amb A 3) (hp : Pk [(x, instObj 540 dx), (dx, od), (c, oc)] led rest)
    (hf : RowF c km at_ last v od) (hr : IsR rows oc) (hz : rows.length ≤ 1000) (hm : km = kOut ∨ km = kExt)
    (k : ∀ h' od' oc' sx t, key sx = [48, 48] → RowF c km at_ (-1) v od' → IsR (rows ++ [b]) oc' → St g L h' l ([(x, instObj 540 dx), (dx, od'), (c, oc')] ++ rest) → P (.str sx t) h')
    : W w A (call (.ref 523) [.ref x, .bytes b tb]) P h := by
  obtain ⟨mx, tm, t1, t2, hmx, hf⟩ := hf
  obtain ⟨vs, hc, hb⟩ := hr
  have hl := hb.length
  have hm' : ([kOut, kExt].any fun q => decide (q = km)) = true := by rcases hm with rfl | rfl <;> decide
  refine' w_def (binds := [(Str.ofString "self", .ref x), (Str.ofString "octets", .bytes b tb)]) S G hA hp ?ho ?hcd ?hbind ?hloc ?hks ?hl ?k ?hcell ?hco ?hgen ?hk
  k_extra "DEF"
  k_extra "SS"
  refine br_f (by rw [hm']; rfl) ?_
  k_extra "SS"
  exact ⟨_, _, [(x, _), (dx, _), (c, _)], S.sel (by k_extra "pk"), fun S => k _ _ _ _ _ ls_00 ⟨_, _, _, _, hmx, hf⟩ ⟨_, hc, hb.append (.cons ⟨_, rfl⟩ .nil)⟩ S⟩
theorem row_rewrite {x dx c : Addr} {od oc : Obj} {at_ last : Int} {v : Bool} {rows : List (Array UInt8)} {b r : Array UInt8} {tb : Tok} {P : Value → Heap → Prop}
    (S : St g L h l led) (G : Gd w g) (hA : Amb A 3) (hp : Pk [(x, instObj 540 dx), (dx, od), (c, oc)] led rest)
    (hf : RowF c kIo at_ last v od) (hr : IsR rows oc) (hz : rows.length ≤ 1000) (h0 : 0 ≤ last) (hlast : rows[last.toNat]? = some r) (hs : b.size = r.size) (hbz : b.size ≤ 1000)
    (k : ∀ h' od' oc' sx t, key sx = [48, 48] → RowF c kIo at_ (-1) v od' → IsR (rows.set last.toNat b) oc' → St g L h' l ([(x, instObj 540 dx), (dx, od'), (c, oc')] ++ rest) → P (.str sx t) h')
    : W w A (call (.ref 530) [.ref x, .bytes b tb]) P h := by
  obtain ⟨mx, tm, t1, t2, hmx, hf⟩ := hf
  obtain ⟨vs, hc, hb⟩ := hr
  have hl := hb.length
  have hlt : last.toNat < rows.length := by
    rcases Nat.lt_or_ge last.toNat rows.length with x | x
    · exact x
    · rw [List.getElem?_eq_none x] at hlast; cases hlast
  obtain ⟨tr, hv⟩ := hb.get hlast
  refine' w_def (binds := [(Str.ofString "self", .ref x), (Str.ofString "octets", .bytes b tb)]) S G hA hp ?ho ?hcd ?hbind ?hloc ?hks ?hl ?k ?hcell ?hco ?hgen ?hk
  k_extra "DEF"
  k_extra "SS"
  refine br_f (by simp; (first | lia | omega)) ?_
  k_extra "SS"
  refine d_item S (by k_extra "mem") hc h0 (by (first | lia | omega)) hv ?_ rfl
  k_extra "SS"
  refine br_f (by simp [hs]) ?_
  k_extra "SS"
  refine d_set S (by k_extra "put") hc h0 (by (first | lia | omega)) (by (first | lia | omega)) ?_
  clear S
  intro h oc hc S
  (try with_reducible dsimp only at S)
  k_extra "SS"
  exact ⟨_, _, [(x, _), (dx, _), (c, _)], S.sel (by k_extra "pk"), fun S => k _ _ _ _ _ ls_00 ⟨_, _, _, _, hmx, hf⟩ ⟨_, hc, hb.set _ _ _⟩ S⟩
theorem row_told {x dx c : Addr} {od oc : Obj} {km : List Nat} {at_ last : Int} {v : Bool} {rows : List (Array UInt8)} {P : Value → Heap → Prop}
    (S : St g L h l led) (G : Gd w g) (hA : Amb A 3) (hp : Pk [(x, instObj 540 dx), (dx, od), (c, oc)] led rest)
    (hf : RowF c km at_ last v od) (hr : IsR rows oc) (hz : rows.length ≤ 1000)
    (k : ∀ h' a b u v' t, St g L h' l ([(a, tupO [u, .int at_ t, .bool v, v', .ref b]), (x, instObj 540 dx), (dx, od), (c, oc)] ++ rest) → P (.ref a) h')
    : W w A (call (.ref 537) [.ref x]) P h := by
  obtain ⟨mx, tm, t1, t2, hmx, hf⟩ := hf
  obtain ⟨vs, hc, hb⟩ := hr
  have hl := hb.length
  refine' w_def (binds := [(Str.ofString "self", .ref x)]) S G hA hp ?ho ?hcd ?hbind ?hloc ?hks ?hl ?k ?hcell ?hco ?hgen ?hk
  k_extra "DEF"
  k_extra "SS"
  exact ⟨_, _, [(_, _), (x, _), (dx, _), (c, _)], S.sel (by k_extra "pk"), fun S => k _ _ _ _ _ _ S⟩
end
end Row1

section Rel1
abbrev kDyn : List Nat := [100, 121, 110, 97, 109, 105, 99]
inductive KV : List (Int × Value) → List (Int × Array UInt8) → Prop
  | nil : KV [] []
  | cons {k b t kvs kr} : KV kvs kr → KV ((k, .bytes b t) :: kvs) ((k, b) :: kr)
theorem KV.keys {kvs kr} (H : KV kvs kr) : kvs.map (·.1) = kr.map (·.1) := by
  induction H with
  | nil => rfl
  | cons _ ih => simp [ih]
theorem KV.length {kvs kr} (H : KV kvs kr) : kvs.length = kr.length := by
  have := congrArg List.length H.keys; simpa using this
theorem KV.append {kvs kr} (H : KV kvs kr) (k : Int) (b : Array UInt8) (t : Tok) : KV (kvs ++ [(k, .bytes b t)]) (kr ++ [(k, b)]) := by
  induction H with
  | nil => exact .cons .nil
  | cons _ ih => exact .cons ih
theorem KV.set {kvs kr} (H : KV kvs kr) (k : Int) (b : Array UInt8) (t : Tok) : KV (kvs.map fun kv => if kv.1 = k then (kv.1, .bytes b t) else kv) (kr.map fun kv => if kv.1 = k then (kv.1, b) else kv) := by
  induction H with
  | nil => exact .nil
  | @cons k' b' t' kvs kr _ ih =>
    rw [List.map_cons, List.map_cons]
    by_cases e : k' = k
    · rw [if_pos e, if_pos e]; exact .cons ih
    · rw [if_neg e, if_neg e]; exact .cons ih
theorem KV.without {kvs kr} (H : KV kvs kr) (k : Int) : KV (without kvs k) (kr.filter fun kv => decide (kv.1 ≠ k)) := by
  unfold PySem.without
  induction H with
  | nil => exact .nil
  | @cons k' b' t' kvs kr _ ih =>
    rw [List.filter_cons, List.filter_cons]
    by_cases e : k' = k
    · simp only [e, ne_eq, not_true_eq_false, decide_false, Bool.false_eq_true, if_false]; exact ih
    · simp only [ne_eq, e, not_false_eq_true, decide_true, if_true]; exact .cons ih
theorem KV.has {kvs kr} (H : KV kvs kr) (k : Int) : (valueAt kvs k).isSome = decide (k ∈ kr.map (·.1)) := by
  unfold valueAt
  induction H with
  | nil => rfl
  | @cons k' b' t' kvs kr _ ih =>
    rw [List.find?_cons]
    by_cases e : k' = k
    · simp [e]
    · simp only [e, decide_false]
      rw [ih]
      simp [Ne.symm e]
theorem KV.at {kvs kr} (H : KV kvs kr) (hn : (kr.map (·.1)).Nodup) {k : Int} {b : Array UInt8} (hm : (k, b) ∈ kr) : ∃ t, valueAt kvs k = some (.bytes b t) := by
  unfold valueAt
  induction H with
  | nil => cases hm
  | @cons k' b' t' kvs kr _ ih =>
    rw [List.find?_cons]
    rw [List.map_cons, List.nodup_cons] at hn
    rcases List.mem_cons.mp hm with e | hm
    · cases e; exact ⟨t', by simp⟩
    · have e : ¬ k' = k := fun e => hn.1 (e ▸ List.mem_map.mpr ⟨_, hm, rfl⟩)
      simp only [e, decide_false]
      exact ih hn.2 hm
def RelC (w : World) (kr : List (Int × Array UInt8)) (c : Addr) (o : Obj) : Prop := ∃ kvs, IsD (PySem.intKind PG w) kvs c o ∧ KV kvs kr
theorem RelC.nodup {w : World} {kr : List (Int × Array UInt8)} {c : Addr} {o : Obj} (H : RelC w kr c o) : (kr.map (·.1)).Nodup := by
  obtain ⟨kvs, ⟨_, es, ep, _, _, _, _, hn⟩, hk⟩ := H
  rw [← hk.keys]; exact hn
inductive RelF (c : Addr) (km : List Nat) (place : Int) (bh v : Bool) (last number : Int) (o : Obj) : Prop
  | mk (mx : Str) (tm : Tok) (ax : Str) (ta t0 t1 t2 t3 : Tok) (p1 : key mx = km) (p2 : key ax = kDyn) (p3 : IsF [([99, 111, 110, 116, 101, 110, 116], .ref c), ([109, 111, 100, 101], .str mx tm), ([97, 99, 99, 101, 115, 115], .str ax ta), ([109, 111, 115, 116], .int 0 t0), ([112, 108, 97, 99, 101], .int place t1), ([105, 115, 95, 98, 101, 104, 105, 110, 100], .bool bh), ([105, 115, 95, 118, 97, 108, 105, 100], .bool v), ([108, 97, 115, 116], .int last t2), ([110, 117, 109, 98, 101, 114], .int number t3)] o)
section
variable {w : World} {A : Around} {h g : Heap} {env : Env} {L : Addr} {l : Loc} {led rest : Led}
theorem rel_make {c : Addr} {oc : Obj} {mx ax : Str} {tm ta : Tok} {km : List Nat} {kr : List (Int × Array UInt8)} {P : Value → Heap → Prop}
    (S : St g L h l led) (G : Gd w g) (hA : Amb A 4) (hp : Pk [(c, oc)] led rest) (hmx : key mx = km) (hax : key ax = kDyn) (hr : RelC w kr c oc) (hz : kr.length ≤ 1000) (hm : km ≠ kExt)
    (k1 : km = kOut → ∀ h' x dx od' oc', RelF c km 1 false true 0 0 od' → RelC w [] c oc' → St g L h' l ([(x, instObj 489 dx), (dx, od'), (c, oc')] ++ rest) → P (.ref x) h')
    (k2 : km ≠ kOut → ∀ h' x dx od', RelF c km 1 false true 0 0 od' → St g L h' l ([(x, instObj 489 dx), (dx, od'), (c, oc)] ++ rest) → P (.ref x) h')
    : W w A (call (.ref 489) [.ref c, .str mx tm, .str ax ta]) P h := by
  obtain ⟨kvs, hc, hk⟩ := hr
  have hl := hk.length
  refine w_class S G hA (cl_489 _) fun x dx h A hA S => ?_
  refine' c_def S G hA (Pk.cons .head (Pk.cons .head hp)) ?ho ?hcd ?hbind ?hloc ?hks ?hl ?k ?hcell ?hco ?hgen ?hk
  rotate_left 3
  k_extra "DEF"
  have hf : IsF [] (dictOf [] 0) := ⟨_, _, rfl, by simp, .nil⟩
  k_extra "SS"
  refine br_f (by simpa using hm) ?_
  k_extra "SS"
  refine ⟨fun q => ?_, fun q => ?_⟩
  · k_extra "SS"
    refine br_f (by simpa using hm) ?_
    k_extra "SS"
    exact ⟨_, _, [(x, _), (dx, _), (c, _)], S.sel (by k_extra "pk"), fun S => ⟨rfl, k1 (by simpa using q) _ _ _ _ _ ⟨_, _, _, _, _, _, _, _, hmx, hax, hf⟩ ⟨_, hc, .nil⟩ S⟩⟩
  · k_extra "SS"
    refine br_f (by simpa using hm) ?_
    k_extra "SS"
    exact ⟨_, _, [(x, _), (dx, _), (c, _)], S.sel (by k_extra "pk"), fun S => ⟨rfl, k2 (by simpa using q) _ _ _ _ ⟨_, _, _, _, _, _, _, _, hmx, hax, hf⟩ S⟩⟩
theorem rel_need {x dx : Addr} {od : Obj} {c : Addr} {km : List Nat} {place last number : Int} {bh v : Bool} {what : Str} {tw : Tok} {P : Value → Heap → Prop}
    (S : St g L h l led) (G : Gd w g) (hA : Amb A 2) (hp : Pk [(x, instObj 489 dx), (dx, od)] led rest) (hf : RelF c km place bh v last number od)
    (k : ∀ h', St g L h' l ([(x, instObj 489 dx), (dx, od)] ++ rest) → P .none h')
    : W w A (call (.ref 415) [.ref x, .ref 386, .str what tw]) P h := by
  obtain ⟨mx, tm, ax, ta, t0, t1, t2, t3, hmx, hax, hf⟩ := hf
  refine' w_def S G hA hp ?ho ?hcd ?hbind ?hloc ?hks ?hl ?k ?hcell ?hco ?hgen ?hk
  rotate_left 3
  k_extra "DEF"
  k_extra "SS"
  exact ⟨_, _, [(x, _), (dx, _)], S.sel (by k_extra "pk"), fun S => k _ S⟩
theorem rel_failed {x dx : Addr} {od : Obj} {c : Addr} {km : List Nat} {place last number : Int} {bh v : Bool} {st : Str} {ts : Tok} {P : Value → Heap → Prop}
    (S : St g L h l led) (G : Gd w g) (hA : Amb A 2) (hp : Pk [(x, instObj 489 dx), (dx, od)] led rest) (hf : RelF c km place bh v last number od)
    (k : ∀ h' od' a ot, ResT (key st) #[] ot → RelF c km place bh false last number od' → St g L h' l ([(a, ot), (x, instObj 489 dx), (dx, od')] ++ rest) → P (.ref a) h')
    : W w A (call (.ref 422) [.ref x, .str st ts]) P h := by
  obtain ⟨mx, tm, ax, ta, t0, t1, t2, t3, hmx, hax, hf⟩ := hf
  refine' w_def S G hA hp ?ho ?hcd ?hbind ?hloc ?hks ?hl ?k ?hcell ?hco ?hgen ?hk
  rotate_left 3
  k_extra "DEF"
  k_extra "SS"
  exact ⟨_, _, [(_, _), (x, _), (dx, _)], S.sel (by k_extra "pk"), fun S => k _ _ _ _ ⟨_, _, _, rfl, rfl⟩ ⟨_, _, _, _, _, _, _, _, hmx, hax, hf⟩ S⟩
theorem rel_found {x dx c : Addr} {od oc : Obj} {km : List Nat} {place last number : Int} {bh v : Bool} {kr : List (Int × Array UInt8)} {k : Int} {b : Array UInt8} {tk : Tok} {P : Value → Heap → Prop}
    (S : St g L h l led) (G : Gd w g) (hA : Amb A 2) (hp : Pk [(x, instObj 489 dx), (dx, od), (c, oc)] led rest) (hf : RelF c km place bh v last number od) (hr : RelC w kr c oc) (hm : (k, b) ∈ kr)
    (kk : ∀ h' od' a ot, ResT [48, 48] b ot → RelF c km k true true k k od' → St g L h' l ([(a, ot), (x, instObj 489 dx), (dx, od'), (c, oc)] ++ rest) → P (.ref a) h')
    : W w A (call (.ref 429) [.ref x, .int k tk]) P h := by
  obtain ⟨mx, tm, ax, ta, t0, t1, t2, t3, hmx, hax, hf⟩ := hf
  have hn := hr.nodup
  obtain ⟨kvs, hc, hk⟩ := hr
  obtain ⟨tb, hv⟩ := hk.at hn hm
  refine' w_def S G hA hp ?ho ?hcd ?hbind ?hloc ?hks ?hl ?k ?hcell ?hco ?hgen ?hk
  rotate_left 3
  k_extra "DEF"
  k_extra "SS"
  exact ⟨_, _, [(_, _), (x, _), (dx, _), (c, _)], S.sel (by k_extra "pk"), fun S => kk _ _ _ _ ⟨_, _, _, ls_00, rfl⟩ ⟨_, _, _, _, _, _, _, _, hmx, hax, hf⟩ S⟩
end
end Rel1

section Rel2
theorem intsAre_of : ∀ {vs : List Value}, (∀ v ∈ vs, ∃ n t, v = .int n t) → ∃ ns, IntsAre vs ns
  | [], _ => ⟨_, .nil⟩
  | v :: vs, H => by
    obtain ⟨n, t, rfl⟩ := H v (.head _)
    obtain ⟨ns, h⟩ := intsAre_of fun u hu => H u (.tail _ hu)
    exact ⟨_, .cons n t h⟩
theorem intsAre_perm {vs us : List Value} {ns ms : List Int} (p : vs.Perm us) (h1 : IntsAre vs ns) (h2 : IntsAre us ms) : ns.Perm ms := by
  have f : ∀ {vs : List Value} {ns : List Int}, IntsAre vs ns → vs.map (fun v => match v with | .int n _ => n | _ => 0) = ns := by
    intro vs ns H
    induction H with
    | nil => rfl
    | cons n t _ ih => rw [List.map_cons, ih]
  rw [← f h1, ← f h2]
  exact p.map _
theorem intsAre_sorted {vs : List Value} {ns : List Int} (H : IntsAre vs ns) : SortedV intO vs → ns.Pairwise (· ≤ ·) := by
  induction H with
  | nil => exact fun _ => .nil
  | @cons n t vs ns h ih =>
    intro s
    obtain ⟨s1, s2⟩ := List.pairwise_cons.mp s
    refine List.pairwise_cons.mpr ⟨fun m hm => ?_, ih s2⟩
    obtain ⟨j, hj, e⟩ := List.getElem_of_mem hm
    have hl := h.length
    have hv : vs[j]? = some (vs[j]'(by (first | lia | omega))) := List.getElem?_eq_getElem _
    obtain ⟨m', u, e1, e2⟩ := IntsAre.at h j _ hv
    have : m' = m := by
      have e3 : ns[j]? = some m := by rw [← e]; exact List.getElem?_eq_getElem hj
      rw [e2] at e3; exact Option.some.inj e3
    subst this
    have := s1 (vs[j]'(by (first | lia | omega))) (List.getElem_mem _) n m' rfl (by rw [e1])
    have : decide (m' < n) = false := this
    simpa using this
theorem keysAre_ints {w : World} {kvs : List (Int × Value)} {us : List Value} (H : KeysAre (PySem.intKind PG w) kvs us) : IntsAre us (kvs.map (·.1)) := by
  obtain ⟨hl, hk⟩ := H
  induction kvs generalizing us with
  | nil => have : us = [] := List.length_eq_zero_iff.mp hl; subst this; exact .nil
  | cons kv kvs ih =>
    cases us with
    | nil => simp at hl
    | cons u us =>
      obtain ⟨k, x, e, hi⟩ := hk 0 u rfl
      simp at e
      have : ∃ t, u = .int k t := by
        cases u <;> simp_all [PySem.intKind, Value.isInt]
      obtain ⟨t, rfl⟩ := this
      rw [List.map_cons, e]
      exact .cons k t (ih (by simpa using hl) fun j v hv => by simpa using hk (j + 1) v (by simpa using hv))
theorem sortable_ints {vs : List Value} (H : ∀ v ∈ vs, ∃ n t, v = .int n t) : Sortable intO vs :=
  ⟨fun v hv => by obtain ⟨n, t, rfl⟩ := H v hv; exact ⟨n, rfl⟩, "int", fun v hv => by obtain ⟨n, t, rfl⟩ := H v hv; exact ⟨rfl, rfl⟩⟩
theorem intsAre_all {vs : List Value} {ns : List Int} (H : IntsAre vs ns) : ∀ v ∈ vs, ∃ n t, v = .int n t := fun v hv => by
  obtain ⟨j, hj, e⟩ := List.getElem_of_mem hv
  obtain ⟨n, t, e1, _⟩ := IntsAre.at H j v (by rw [← e]; exact List.getElem?_eq_getElem hj)
  exact ⟨n, t, e1⟩
section
variable {w : World} {A : Around} {h g : Heap} {env : Env} {L : Addr} {l : Loc} {led rest : Led}
theorem rel_sorted {c : Addr} {oc : Obj} {kr : List (Int × Array UInt8)} (S : St g L h l led) (hA : A.handled = none) (m : (c, oc) ∈ led) (hr : RelC w kr c oc) (hz : kr.length < 60) {P : Value → Heap → Prop}
    (k : ∀ a h' o vs ns, IsL vs o → IntsAre vs ns → ns.Perm (kr.map (·.1)) → ns.Pairwise (· ≤ ·) → St g L h' l ((a, o) :: led) → P (.ref a) h') : W w A (call (.builtin "sorted") [.ref c]) P h := by
  obtain ⟨kvs, hc, hk⟩ := hr
  refine q_sortedD S hA m hc intO_oneLt (fun us hu => sortable_ints (intsAre_all (keysAre_ints hu))) (by have := hk.length; (first | lia | omega)) fun a h' o us vs hu hl hp hs S' => ?_
  have h1 := keysAre_ints hu
  obtain ⟨ns, h2⟩ := intsAre_of (vs := vs) fun v hv => intsAre_all h1 v (hp.mem_iff.mp hv)
  exact k a h' o vs ns hl h2 (hk.keys ▸ intsAre_perm hp h2 h1) (intsAre_sorted h2 hs) S'
theorem rel_least {c : Addr} {oc : Obj} {kr : List (Int × Array UInt8)} {low : Int} {tl : Tok} {P : Value → Heap → Prop}
    (S : St g L h l led) (G : Gd w g) (hA : Amb A 2) (hp : Pk [(c, oc)] led rest) (hr : RelC w kr c oc) (hz : kr.length < 60)
    (k : ∀ h' r t, (r ∈ kr.map (·.1) ∧ low ≤ r ∧ ∀ x ∈ kr.map (·.1), low ≤ x → r ≤ x) ∨ (r = 0 ∧ ∀ x ∈ kr.map (·.1), x < low) → St g L h' l ([(c, oc)] ++ rest) → P (.int r t) h')
    : W w A (call (.ref 393) [.ref c, .int low tl]) P h := by
  refine' w_def (binds := [(Str.ofString "content", .ref c), (Str.ofString "low", .int low tl)]) S G hA hp ?ho ?hcd ?hbind ?hloc ?hks ?hl ?k ?hcell ?hco ?hgen ?hk
  k_extra "DEF"
  k_extra "SS"
  refine rel_sorted S hA.handled (by k_extra "mem") hr hz ?_
  clear S
  intro a h oa vs ns hl hi hperm hsort S
  refine (it_list S hA.handled (by k_extra "pk") hl).mono fun it h2 hi2 => for_of hi2 (fun i l' led' => A3 (l' = [([108, 111, 119], .int low tl), ([99, 111, 110, 116, 101, 110, 116], .ref c)]) (led' = [(c, oc)]) (∀ j n, j < i → ns[j]? = some n → n < low)) ⟨rfl, rfl, fun j n hj => by (first | lia | omega)⟩ ?_ ?_
  · intro i v l1 led1 I oI h hi1 hv ⟨e1, e2, hlow⟩ S
    subst e1 e2
    obtain ⟨n, t, rfl, hn⟩ := IntsAre.at hi i v hv
    k_extra "SS"
    refine ⟨fun q => ?_, fun q => ?_⟩
    · k_extra "SS"
      refine ⟨_, _, [(c, _)], S.sel (by k_extra "pk"), fun S => k _ _ _ (.inl ⟨hperm.mem_iff.mp (List.mem_of_getElem? hn), by simpa using q, fun x hx hlx => ?_⟩) S⟩
      obtain ⟨j, hj, e⟩ := List.getElem_of_mem (hperm.mem_iff.mpr hx)
      rcases Nat.lt_or_ge j i with h1 | h1
      · have := hlow j x h1 (by rw [← e]; exact List.getElem?_eq_getElem hj); (first | lia | omega)
      · rcases Nat.lt_or_ge i j with h2 | h2
        · have := List.pairwise_iff_getElem.mp hsort i j (by (first | lia | omega)) hj h2
          have e3 : ns[i]'(by (first | lia | omega)) = n := by have := List.getElem?_eq_getElem (l := ns) (i := i) (by (first | lia | omega)); rw [this] at hn; exact Option.some.inj hn
          rw [e3, e] at this; exact this
        · have : j = i := by (first | lia | omega)
          subst this
          have := List.getElem?_eq_getElem (l := ns) (i := j) hj
          rw [this] at hn
          have := Option.some.inj hn
          (first | lia | omega)
    · k_extra "SS"
      exact ⟨_, _, S.locs (fun p hp => by simp at hp; rcases hp with rfl | rfl <;> rfl), rfl, rfl, fun j n' hj hn' => by
        rcases Nat.lt_or_ge j i with h1 | h1
        · exact hlow j n' h1 hn'
        · have : j = i := by (first | lia | omega)
          subst this
          rw [hn] at hn'; cases hn'
          simpa using q⟩
  · intro l1 led1 h ⟨e1, e2, hlow⟩ S
    subst e1 e2
    k_extra "SS"
    refine ⟨_, _, [(c, _)], S.sel (by k_extra "pk"), fun S => k _ _ _ (.inr ⟨rfl, fun x hx => ?_⟩) S⟩
    obtain ⟨j, hj, e⟩ := List.getElem_of_mem (hperm.mem_iff.mpr hx)
    exact hlow j x (by have := hi.length; (first | lia | omega)) (by rw [← e]; exact List.getElem?_eq_getElem hj)
end
end Rel2

section Rel3
inductive ResN (k : List Nat) (n : Int) (o : Obj) : Prop
  | mk (x : Str) (t u : Tok) (p1 : key x = k) (p2 : o = tupO [.str x t, .int n u])
section
variable {w : World} {A : Around} {h g : Heap} {env : Env} {L : Addr} {l : Loc} {led rest : Led}
theorem rel_next {x dx c : Addr} {od oc : Obj} {km : List Nat} {place last number : Int} {bh v : Bool} {kr : List (Int × Array UInt8)} {P : Value → Heap → Prop}
    (S : St g L h l led) (G : Gd w g) (hA : Amb A 4) (hp : Pk [(x, instObj 489 dx), (dx, od), (c, oc)] led rest) (hf : RelF c km place bh v last number od) (hr : RelC w kr c oc) (hz : kr.length < 60)
    (hm : km = kIn ∨ km = kIo) (hpos : ∀ q ∈ kr, 0 < q.1)
    (k1 : v = false → ∀ h' od' a ot, ResT [52, 54] #[] ot → RelF c km place bh false 0 number od' → St g L h' l ([(a, ot), (x, instObj 489 dx), (dx, od'), (c, oc)] ++ rest) → P (.ref a) h')
    (k2 : v = true → (∀ q ∈ kr, q.1 < if bh then place + 1 else place) → ∀ h' od' a ot, ResT [49, 48] #[] ot → RelF c km place bh false 0 number od' → St g L h' l ([(a, ot), (x, instObj 489 dx), (dx, od'), (c, oc)] ++ rest) → P (.ref a) h')
    (k3 : v = true → ∀ r b, (r, b) ∈ kr → (if bh then place + 1 else place) ≤ r → (∀ q ∈ kr, (if bh then place + 1 else place) ≤ q.1 → r ≤ q.1) → ∀ h' od' a ot, ResT [48, 48] b ot → RelF c km r true true r r od' → St g L h' l ([(a, ot), (x, instObj 489 dx), (dx, od'), (c, oc)] ++ rest) → P (.ref a) h')
    : W w A (call (.ref 436) [.ref x]) P h := by
  obtain ⟨mx, tm, ax, ta, t0, t1, t2, t3, hmx, hax, hf⟩ := hf
  have hm' : ([kIn, kIo].any fun q => decide (q = km)) = true := by rcases hm with rfl | rfl <;> decide
  refine' w_def (binds := [(Str.ofString "self", .ref x)]) S G hA hp ?ho ?hcd ?hbind ?hloc ?hks ?hl ?k ?hcell ?hco ?hgen ?hk
  k_extra "DEF"
  k_extra "SS"
  refine rel_need S G (hA.le (by decide)) (by k_extra "pk") ⟨_, _, _, _, _, _, _, _, hmx, hax, hf⟩ ?_
  clear S
  intro h S
  (try with_reducible dsimp only [List.cons_append, List.nil_append] at S)
  k_extra "SS"
  refine br_f (by rw [hm']; rfl) ?_
  k_extra "SS"
  cases v with
  | false =>
    k_extra "SS"
    exact ⟨_, _, [(_, _), (x, _), (dx, _), (c, _)], S.sel (by k_extra "pk"), fun S => k1 rfl _ _ _ _ ⟨_, _, _, ls_46, rfl⟩ ⟨_, _, _, _, _, _, _, _, hmx, hax, hf⟩ S⟩
  | true =>
    k_extra "SS"
    have key : ∀ low tl h, low = (if bh then place + 1 else place) → St g L h [([115, 101, 108, 102], Value.ref x)] [(x, instObj 489 dx), (dx, od), (c, oc)] → W w A (call (.ref 393) [.ref c, .int low tl]) (fun v h' => ∃ r t, v = .int r t ∧ ((r ∈ kr.map (·.1) ∧ low ≤ r ∧ ∀ x ∈ kr.map (·.1), low ≤ x → r ≤ x) ∨ (r = 0 ∧ ∀ x ∈ kr.map (·.1), x < low)) ∧ St g L h' [([115, 101, 108, 102], Value.ref x)] ([(c, oc)] ++ [(x, instObj 489 dx), (dx, od)])) h := fun low tl h _ S =>
      rel_least S G (hA.le (by decide)) (Pk.cons (.tail (.tail .head)) .nil) hr hz fun h' r t hr S => ⟨r, t, rfl, hr, S⟩
    cases bh with
    | false =>
      k_extra "SS"
      refine (key _ _ _ rfl (S.sel (by k_extra "pk"))).mono fun v h hh => ?_
      obtain ⟨r, t, rfl, hr', S'⟩ := hh
      clear S
      rename St _ _ _ _ _ => S
      (try with_reducible dsimp only [List.cons_append, List.nil_append] at S)
      k_extra "SS"
      refine ⟨fun q => ?_, fun q => ?_⟩
      · have hr0 : r = 0 := by simpa using q
        k_extra "SS"
        refine rel_failed S G (hA.le (by decide)) (by k_extra "pk") ⟨_, _, _, _, _, _, _, _, hmx, hax, hf⟩ ?_
        clear S
        intro h od a ot hot hf S
        refine hZq _ _ ⟨_, _, [(a, _), (x, _), (dx, _), (c, _)], S.sel (by k_extra "pk"), fun S => k2 rfl (fun q hq => ?_) _ _ _ _ (ls_10 ▸ hot) hf S⟩
        rcases hr' with ⟨h1, _, _⟩ | ⟨_, h2⟩
        · obtain ⟨p, hp, e⟩ := List.mem_map.mp h1
          have := hpos p hp; (first | lia | omega)
        · exact h2 q.1 (List.mem_map_of_mem hq)
      · have hr0 : ¬ r = 0 := by simpa using q
        k_extra "SS"
        rcases hr' with ⟨h1, h2, h3⟩ | ⟨h1, _⟩
        · obtain ⟨⟨r', b⟩, hb, e⟩ := List.mem_map.mp h1
          dsimp only at e
          subst e
          refine rel_found S G (hA.le (by decide)) (by k_extra "pk") ⟨_, _, _, _, _, _, _, _, hmx, hax, hf⟩ hr hb ?_
          clear S
          intro h od a ot hot hf S
          exact hZq _ _ ⟨_, _, [(a, _), (x, _), (dx, _), (c, _)], S.sel (by k_extra "pk"), fun S => k3 rfl _ _ hb h2 (fun q hq hl => h3 q.1 (List.mem_map_of_mem hq) hl) _ _ _ _ hot hf S⟩
        · exact absurd h1 hr0
    | true =>
      k_extra "SS"
      refine (key _ _ _ rfl (S.sel (by k_extra "pk"))).mono fun v h hh => ?_
      obtain ⟨r, t, rfl, hr', S'⟩ := hh
      clear S
      rename St _ _ _ _ _ => S
      (try with_reducible dsimp only [List.cons_append, List.nil_append] at S)
      k_extra "SS"
      refine ⟨fun q => ?_, fun q => ?_⟩
      · have hr0 : r = 0 := by simpa using q
        k_extra "SS"
        refine rel_failed S G (hA.le (by decide)) (by k_extra "pk") ⟨_, _, _, _, _, _, _, _, hmx, hax, hf⟩ ?_
        clear S
        intro h od a ot hot hf S
        refine hZq _ _ ⟨_, _, [(a, _), (x, _), (dx, _), (c, _)], S.sel (by k_extra "pk"), fun S => k2 rfl (fun q hq => ?_) _ _ _ _ (ls_10 ▸ hot) hf S⟩
        rcases hr' with ⟨h1, _, _⟩ | ⟨_, h2⟩
        · obtain ⟨p, hp, e⟩ := List.mem_map.mp h1
          have := hpos p hp; (first | lia | omega)
        · exact h2 q.1 (List.mem_map_of_mem hq)
      · have hr0 : ¬ r = 0 := by simpa using q
        k_extra "SS"
        rcases hr' with ⟨h1, h2, h3⟩ | ⟨h1, _⟩
        · obtain ⟨⟨r', b⟩, hb, e⟩ := List.mem_map.mp h1
          dsimp only at e
          subst e
          refine rel_found S G (hA.le (by decide)) (by k_extra "pk") ⟨_, _, _, _, _, _, _, _, hmx, hax, hf⟩ hr hb ?_
          clear S
          intro h od a ot hot hf S
          exact hZq _ _ ⟨_, _, [(a, _), (x, _), (dx, _), (c, _)], S.sel (by k_extra "pk"), fun S => k3 rfl _ _ hb h2 (fun q hq hl => h3 q.1 (List.mem_map_of_mem hq) hl) _ _ _ _ hot hf S⟩
        · exact absurd h1 hr0
theorem rel_write {x dx c : Addr} {od oc : Obj} {km : List Nat} {place last number : Int} {bh v : Bool} {kr : List (Int × Array UInt8)} {b : Array UInt8} {tb : Tok} {k : Int} {tk : Tok} {P : Value → Heap → Prop}
    (S : St g L h l led) (G : Gd w g) (hA : Amb A 4) (hp : Pk [(x, instObj 489 dx), (dx, od), (c, oc)] led rest) (hf : RelF c km place bh v last number od) (hr : RelC w kr c oc) (hz : kr.length < 60)
    (hm : km = kOut ∨ km = kIo) (hpos : 0 < k)
    (k1 : k ∈ kr.map (·.1) → ∀ h' od' sx t, key sx = [50, 50] → RelF c km place bh v 0 number od' → St g L h' l ([(x, instObj 489 dx), (dx, od'), (c, oc)] ++ rest) → P (.str sx t) h')
    (k2 : k ∉ kr.map (·.1) → ∀ h' od' oc' sx t, key sx = [48, 48] → RelF c km place bh v 0 k od' → RelC w (kr ++ [(k, b)]) c oc' → St g L h' l ([(x, instObj 489 dx), (dx, od'), (c, oc')] ++ rest) → P (.str sx t) h')
    : W w A (call (.ref 458) [.ref x, .bytes b tb, .int k tk]) P h := by
  obtain ⟨mx, tm, ax, ta, t0, t1, t2, t3, hmx, hax, hf⟩ := hf
  obtain ⟨kvs, hc, hk⟩ := hr
  have hl := hk.length
  have hhas := hk.has k
  have hm' : ([kOut, kIo].any fun q => decide (q = km)) = true := by rcases hm with rfl | rfl <;> decide
  refine' w_def (binds := [(Str.ofString "self", .ref x), (Str.ofString "octets", .bytes b tb), (Str.ofString "number", .int k tk)]) S G hA hp ?ho ?hcd ?hbind ?hloc ?hks ?hl ?k ?hcell ?hco ?hgen ?hk
  k_extra "DEF"
  k_extra "SS"
  refine br_f (by rw [hm']; rfl) ?_
  k_extra "SS"
  refine br_f (by simp; (first | lia | omega)) ?_
  k_extra "SS"
  refine ⟨fun q => ?_, fun q => ?_⟩
  · k_extra "SS"
    exact ⟨_, _, [(x, _), (dx, _), (c, _)], S.sel (by k_extra "pk"), fun S => k1 (by rw [hhas] at q; simpa using q) _ _ _ _ ls_22 ⟨_, _, _, _, _, _, _, _, hmx, hax, hf⟩ S⟩
  · have hno : k ∉ kr.map (·.1) := by rw [hhas] at q; simpa using q
    have hst : ∀ t, stored kvs k (.bytes b t) = kvs ++ [(k, .bytes b t)] := fun t => by
      unfold stored
      rw [if_neg]
      rw [← hk.keys] at hno
      simp only [List.any_eq_true, decide_eq_true_eq, not_exists, not_and]
      exact fun p hp e => hno (List.mem_map.mpr ⟨p, hp, e⟩)
    k_extra "SS"
    exact ⟨_, _, [(x, _), (dx, _), (c, _)], S.sel (by k_extra "pk"), fun S => k2 hno _ _ _ _ _ ls_00 ⟨_, _, _, _, _, _, _, _, hmx, hax, hf⟩ ⟨_, hc, by rw [hst]; exact hk.append _ _ _⟩ S⟩
theorem rel_chosen {x dx c : Addr} {od oc : Obj} {km : List Nat} {place last number : Int} {bh v : Bool} {kr : List (Int × Array UInt8)} {k : Int} {tk : Tok} {P : Value → Heap → Prop}
    (S : St g L h l led) (G : Gd w g) (hA : Amb A 2) (hp : Pk [(x, instObj 489 dx), (dx, od), (c, oc)] led rest) (hf : RelF c km place bh v last number od) (hr : RelC w kr c oc)
    (k1 : km ≠ kIo → ∀ h' od' a ot, ResN [52, 57] 0 ot → RelF c km place bh v 0 number od' → St g L h' l ([(a, ot), (x, instObj 489 dx), (dx, od'), (c, oc)] ++ rest) → P (.ref a) h')
    (k2 : km = kIo → k ∈ kr.map (·.1) → ∀ h' od' a ot, ResN [48, 48] k ot → RelF c km place bh v 0 number od' → St g L h' l ([(a, ot), (x, instObj 489 dx), (dx, od'), (c, oc)] ++ rest) → P (.ref a) h')
    (k3 : km = kIo → k ∉ kr.map (·.1) → ∀ h' od' a ot, ResN [50, 51] 0 ot → RelF c km place bh v 0 number od' → St g L h' l ([(a, ot), (x, instObj 489 dx), (dx, od'), (c, oc)] ++ rest) → P (.ref a) h')
    : W w A (call (.ref 465) [.ref x, .int k tk]) P h := by
  obtain ⟨mx, tm, ax, ta, t0, t1, t2, t3, hmx, hax, hf⟩ := hf
  obtain ⟨kvs, hc, hk⟩ := hr
  have hhas := hk.has k
  refine' w_def (binds := [(Str.ofString "self", .ref x), (Str.ofString "number", .int k tk)]) S G hA hp ?ho ?hcd ?hbind ?hloc ?hks ?hl ?k ?hcell ?hco ?hgen ?hk
  k_extra "DEF"
  k_extra "SS"
  refine ⟨fun q => ?_, fun q => ?_⟩
  · k_extra "SS"
    exact ⟨_, _, [(_, _), (x, _), (dx, _), (c, _)], S.sel (by k_extra "pk"), fun S => k1 (by simpa using q) _ _ _ _ ⟨_, _, _, ls_49, rfl⟩ ⟨_, _, _, _, _, _, _, _, hmx, hax, hf⟩ S⟩
  · have hio : km = kIo := by simpa using q
    k_extra "SS"
    refine ⟨fun q => ?_, fun q => ?_⟩
    · k_extra "SS"
      exact ⟨_, _, [(_, _), (x, _), (dx, _), (c, _)], S.sel (by k_extra "pk"), fun S => k2 hio (by rw [hhas] at q; simpa using q) _ _ _ _ ⟨_, _, _, ls_00, rfl⟩ ⟨_, _, _, _, _, _, _, _, hmx, hax, hf⟩ S⟩
    · k_extra "SS"
      exact ⟨_, _, [(_, _), (x, _), (dx, _), (c, _)], S.sel (by k_extra "pk"), fun S => k3 hio (by rw [hhas] at q; simpa using q) _ _ _ _ ⟨_, _, _, ls_23, rfl⟩ ⟨_, _, _, _, _, _, _, _, hmx, hax, hf⟩ S⟩
end
end Rel3

section Rel4
section
variable {w : World} {A : Around} {h g : Heap} {env : Env} {L : Addr} {l : Loc} {led rest : Led}
theorem stored_in {kvs : List (Int × Value)} {k : Int} {v : Value} (hi : k ∈ kvs.map (·.1)) : stored kvs k v = kvs.map fun kv => if kv.1 = k then (kv.1, v) else kv := by
  unfold stored
  rw [if_pos]
  obtain ⟨p, hp, e⟩ := List.mem_map.mp hi
  exact List.any_eq_true.mpr ⟨p, hp, by simpa using e⟩
theorem rel_rewrite {x dx c : Addr} {od oc : Obj} {km : List Nat} {place last number : Int} {bh v : Bool} {kr : List (Int × Array UInt8)} {b : Array UInt8} {tb : Tok} {k : Int} {tk : Tok} {P : Value → Heap → Prop}
    (S : St g L h l led) (G : Gd w g) (hA : Amb A 4) (hp : Pk [(x, instObj 489 dx), (dx, od), (c, oc)] led rest) (hf : RelF c km place bh v last number od) (hr : RelC w kr c oc) (hz : kr.length < 60)
    (k1 : km ≠ kIo → ∀ h' od' sx t, key sx = [52, 57] → RelF c km place bh v 0 number od' → St g L h' l ([(x, instObj 489 dx), (dx, od'), (c, oc)] ++ rest) → P (.str sx t) h')
    (k2 : km = kIo → k ∈ kr.map (·.1) → ∀ h' od' oc' sx t, key sx = [48, 48] → RelF c km place bh v 0 k od' → RelC w (kr.map fun kv => if kv.1 = k then (kv.1, b) else kv) c oc' → St g L h' l ([(x, instObj 489 dx), (dx, od'), (c, oc')] ++ rest) → P (.str sx t) h')
    (k3 : km = kIo → k ∉ kr.map (·.1) → ∀ h' od' sx t, key sx = [50, 51] → RelF c km place bh v 0 number od' → St g L h' l ([(x, instObj 489 dx), (dx, od'), (c, oc)] ++ rest) → P (.str sx t) h')
    : W w A (call (.ref 473) [.ref x, .bytes b tb, .int k tk]) P h := by
  obtain ⟨mx, tm, ax, ta, t0, t1, t2, t3, hmx, hax, hF⟩ := id hf
  refine' w_def (binds := [(Str.ofString "self", .ref x), (Str.ofString "octets", .bytes b tb), (Str.ofString "number", .int k tk)]) S G hA hp ?ho ?hcd ?hbind ?hloc ?hks ?hl ?k ?hcell ?hco ?hgen ?hk
  k_extra "DEF"
  k_extra "SS"
  refine rel_chosen S G (hA.le (by decide)) (by k_extra "pk") hf hr ?_ ?_ ?_
  · clear S
    intro hio h od a ot hot hf S
    obtain ⟨sx, ts, tn, hsx, rfl⟩ := hot
    dsimp only [List.cons_append, List.nil_append] at S
    k_extra "SS"
    exact ⟨_, _, [(x, _), (dx, _), (c, _)], S.sel (by k_extra "pk"), fun S => k1 hio _ _ _ _ hsx hf S⟩
  · clear S
    intro hio hin h od a ot hot hf S
    obtain ⟨sx, ts, tn, hsx, rfl⟩ := hot
    obtain ⟨mx, tm, ax, ta, t0, t1, t2, t3, hmx, hax, hF⟩ := id hf
    obtain ⟨kvs, hc, hk⟩ := hr
    have hl := hk.length
    dsimp only [List.cons_append, List.nil_append] at S
    k_extra "SS"
    rw [stored_in (hk.keys ▸ hin)] at hc
    exact ⟨_, _, [(x, _), (dx, _), (c, _)], S.sel (by k_extra "pk"), fun S => k2 hio hin _ _ _ _ _ hsx ⟨_, _, _, _, _, _, _, _, hmx, hax, hf⟩ ⟨_, hc, hk.set _ _ _⟩ S⟩
  · clear S
    intro hio hin h od a ot hot hf S
    obtain ⟨sx, ts, tn, hsx, rfl⟩ := hot
    dsimp only [List.cons_append, List.nil_append] at S
    k_extra "SS"
    exact ⟨_, _, [(x, _), (dx, _), (c, _)], S.sel (by k_extra "pk"), fun S => k3 hio hin _ _ _ _ hsx hf S⟩
theorem rel_delete {x dx c : Addr} {od oc : Obj} {km : List Nat} {place last number : Int} {bh v : Bool} {kr : List (Int × Array UInt8)} {k : Int} {tk : Tok} {P : Value → Heap → Prop}
    (S : St g L h l led) (G : Gd w g) (hA : Amb A 4) (hp : Pk [(x, instObj 489 dx), (dx, od), (c, oc)] led rest) (hf : RelF c km place bh v last number od) (hr : RelC w kr c oc) (hz : kr.length < 60)
    (k1 : km ≠ kIo → ∀ h' od' sx t, key sx = [52, 57] → RelF c km place bh v 0 number od' → St g L h' l ([(x, instObj 489 dx), (dx, od'), (c, oc)] ++ rest) → P (.str sx t) h')
    (k2 : km = kIo → k ∈ kr.map (·.1) → ∀ h' od' oc' sx t, key sx = [48, 48] → RelF c km place bh v 0 number od' → RelC w (kr.filter fun kv => decide (kv.1 ≠ k)) c oc' → St g L h' l ([(x, instObj 489 dx), (dx, od'), (c, oc')] ++ rest) → P (.str sx t) h')
    (k3 : km = kIo → k ∉ kr.map (·.1) → ∀ h' od' sx t, key sx = [50, 51] → RelF c km place bh v 0 number od' → St g L h' l ([(x, instObj 489 dx), (dx, od'), (c, oc)] ++ rest) → P (.str sx t) h')
    : W w A (call (.ref 481) [.ref x, .int k tk]) P h := by
  obtain ⟨mx, tm, ax, ta, t0, t1, t2, t3, hmx, hax, hF⟩ := id hf
  refine' w_def (binds := [(Str.ofString "self", .ref x), (Str.ofString "number", .int k tk)]) S G hA hp ?ho ?hcd ?hbind ?hloc ?hks ?hl ?k ?hcell ?hco ?hgen ?hk
  k_extra "DEF"
  k_extra "SS"
  refine rel_chosen S G (hA.le (by decide)) (by k_extra "pk") hf hr ?_ ?_ ?_
  · clear S
    intro hio h od a ot hot hf S
    obtain ⟨sx, ts, tn, hsx, rfl⟩ := hot
    dsimp only [List.cons_append, List.nil_append] at S
    k_extra "SS"
    exact ⟨_, _, [(x, _), (dx, _), (c, _)], S.sel (by k_extra "pk"), fun S => k1 hio _ _ _ _ hsx hf S⟩
  · clear S
    intro hio hin h od a ot hot hf S
    obtain ⟨sx, ts, tn, hsx, rfl⟩ := hot
    obtain ⟨mx, tm, ax, ta, t0, t1, t2, t3, hmx, hax, hF⟩ := id hf
    have hn := hr.nodup
    obtain ⟨kvs, hc, hk⟩ := hr
    have hl := hk.length
    obtain ⟨⟨k', b⟩, hb, e⟩ := List.mem_map.mp hin
    dsimp only at e
    subst e
    obtain ⟨tb, hv⟩ := hk.at hn hb
    dsimp only [List.cons_append, List.nil_append] at S
    k_extra "SS"
    exact ⟨_, _, [(x, _), (dx, _), (c, _)], S.sel (by k_extra "pk"), fun S => k2 hio hin _ _ _ _ _ hsx ⟨_, _, _, _, _, _, _, _, hmx, hax, hF⟩ ⟨_, hc, hk.without _⟩ S⟩
  · clear S
    intro hio hin h od a ot hot hf S
    obtain ⟨sx, ts, tn, hsx, rfl⟩ := hot
    dsimp only [List.cons_append, List.nil_append] at S
    k_extra "SS"
    exact ⟨_, _, [(x, _), (dx, _), (c, _)], S.sel (by k_extra "pk"), fun S => k3 hio hin _ _ _ _ hsx hf S⟩
end
end Rel4

section Key1
inductive KeyF (c kl sl at_ : Addr) (km : List Nat) (nw : Bool) (o : Obj) : Prop
  | mk (mx : Str) (tm : Tok) (ax : Str) (ta : Tok) (ns : Int) (t1 wt : Tok) (rl : Int) (t2 : Tok) (hi : Array UInt8) (t3 : Tok) (p1 : key mx = km) (p2 : key ax = kDyn) (p3 : IsF [([99, 111, 110, 116, 101, 110, 116], .ref c), ([109, 111, 100, 101], .str mx tm), ([97, 99, 99, 101, 115, 115], .str ax ta), ([107, 101, 121, 115], .ref kl), ([115, 116, 97, 109, 112, 115], .ref sl), ([110, 101, 120, 116, 95, 115, 116, 97, 109, 112], .int ns t1), ([119, 104, 105, 99, 104], .int 0 wt), ([97, 116], .ref at_), ([105, 115, 95, 110, 111, 119, 104, 101, 114, 101], .bool nw), ([114, 101, 97, 100, 95, 108, 97, 115, 116], .int rl t2), ([104, 105, 103, 104, 101, 115, 116], .bytes hi t3)] o)
inductive SF : Led → List Value → Prop
  | nil : SF [] []
  | cons {s o i t fam vs} : IsL [.int i t] o → SF fam vs → SF ((s, o) :: fam) (.ref s :: vs)
theorem SF.get {fam vs} (H : SF fam vs) : ∀ {i : Nat}, i < vs.length → ∃ s o n t, (s, o) ∈ fam ∧ vs[i]? = some (.ref s) ∧ IsL [.int n t] o := by
  induction H with
  | nil => intro i hi; simp at hi
  | cons h _ ih =>
    intro i hi
    cases i with
    | zero => exact ⟨_, _, _, _, .head _, rfl, h⟩
    | succ i =>
      obtain ⟨s, o, n, t, h1, h2, h3⟩ := ih (i := i) (by simpa using hi)
      exact ⟨s, o, n, t, .tail _ h1, by simpa using h2, h3⟩
theorem SF.append {fam vs} (H : SF fam vs) {s : Addr} {o : Obj} {i : Int} {t : Tok} (ho : IsL [.int i t] o) : SF (fam ++ [(s, o)]) (vs ++ [.ref s]) := by
  induction H with
  | nil => exact .cons ho .nil
  | cons h _ ih => exact .cons h ih
theorem SF.erase {fam vs} (H : SF fam vs) : ∀ i : Nat, SF (fam.eraseIdx i) (vs.eraseIdx i) := by
  induction H with
  | nil => intro i; exact .nil
  | cons h x ih =>
    intro i
    cases i with
    | zero => exact x
    | succ i => exact .cons h (ih i)
structure KS (c kl kt sl at_ : Addr) (km : List Nat) (a : Array UInt8) (nw : Bool) (rows : List (Array UInt8)) (od oc okl okt osl oat : Obj) (fam : Led) : Prop where
  f : KeyF c kl sl at_ km nw od
  c : IsR rows oc
  kl : IsL [.ref kt] okl
  kt : ∃ t0 t1, okt = tupO [.int 0 t0, .int 1 t1, .bool false]
  sl : ∃ vs, IsL vs osl ∧ SF fam vs ∧ vs.length = rows.length
  at_ : ∃ t n tn, oat = tupO [.bytes a t, .int n tn]
abbrev ksL (x dx c kl kt sl at_ : Addr) (od oc okl okt osl oat : Obj) (fam : Led) : Led := (x, instObj 381 dx) :: (dx, od) :: (c, oc) :: (kl, okl) :: (kt, okt) :: (sl, osl) :: (at_, oat) :: fam
def b1 (b : Array UInt8) : Array UInt8 := (b.toList.take 1).toArray
theorem picked_b1 (b : Array UInt8) : KBy.picked b (some 0) (some (0 + 1)) = b1 b := by
  rw [KBc.picked_eq]
  have h0 : clipAt b.size 0 = 0 := by have := clipAt_nat b.size 0; simpa using this
  have h1 : clipAt b.size (0 + 1) = min 1 b.size := by have := clipAt_nat b.size 1; simpa using this
  simp only [Option.elim, h0, h1, List.drop_zero, Nat.sub_zero]
  unfold b1
  congr 1
  rcases Nat.lt_or_ge 0 b.size with h | h
  · rw [Nat.min_eq_left h]
  · have : b.toList = [] := List.length_eq_zero_iff.mp (by rw [Array.length_toList]; (first | lia | omega))
    simp [this]
section
variable {w : World} {A : Around} {h g : Heap} {env : Env} {L : Addr} {l : Loc} {led rest : Led}
theorem key_worth {x dx kl kt : Addr} {c sl at_ : Addr} {km : List Nat} {nw : Bool} {od okl okt : Obj} {b : Array UInt8} {tb tw : Tok} {P : Value → Heap → Prop}
    (S : St g L h l led) (G : Gd w g) (hA : Amb A 2) (hp : Pk [(x, instObj 381 dx), (dx, od), (kl, okl), (kt, okt)] led rest) (hf : KeyF c kl sl at_ km nw od) (hk : IsL [.ref kt] okl) (ht : ∃ t0 t1, okt = tupO [.int 0 t0, .int 1 t1, .bool false]) (hz : b.size ≤ 1000)
    (k : ∀ h' t, St g L h' l ([(x, instObj 381 dx), (dx, od), (kl, okl), (kt, okt)] ++ rest) → P (.bytes (b1 b) t) h')
    : W w A (call (.ref 264) [.ref x, .bytes b tb, .int 0 tw]) P h := by
  obtain ⟨mx, tm, ax, ta, ns, t1, wt, rl, t2, hi, t3, hmx, hax, hf⟩ := hf
  obtain ⟨t0, t4, rfl⟩ := ht
  refine' w_def (binds := [(Str.ofString "self", .ref x), (Str.ofString "record", .bytes b tb), (Str.ofString "which", .int 0 tw)]) S G hA hp ?ho ?hcd ?hbind ?hloc ?hks ?hl ?k ?hcell ?hco ?hgen ?hk
  k_extra "DEF"
  k_extra "SS"
  rw [picked_b1]
  exact ⟨_, _, [(x, _), (dx, _), (kl, _), (kt, _)], S.sel (by k_extra "pk"), fun S => k _ _ S⟩
theorem key_maywrite {x dx : Addr} {c kl sl at_ : Addr} {km : List Nat} {nw : Bool} {od : Obj} {P : Value → Heap → Prop}
    (S : St g L h l led) (G : Gd w g) (hA : Amb A 2) (hp : Pk [(x, instObj 381 dx), (dx, od)] led rest) (hf : KeyF c kl sl at_ km nw od)
    (k : ∀ h', St g L h' l ([(x, instObj 381 dx), (dx, od)] ++ rest) → P (.bool ([kOut, kIo].any fun q => decide (q = km))) h')
    : W w A (call (.ref 353) [.ref x]) P h := by
  obtain ⟨mx, tm, ax, ta, ns, t1, wt, rl, t2, hi, t3, hmx, hax, hf⟩ := hf
  refine' w_def (binds := [(Str.ofString "self", .ref x)]) S G hA hp ?ho ?hcd ?hbind ?hloc ?hks ?hl ?k ?hcell ?hco ?hgen ?hk
  k_extra "DEF"
  k_extra "SS"
  exact ⟨_, _, [(x, _), (dx, _)], S.sel (by k_extra "pk"), fun S => k _ S⟩
end
end Key1

section Key2
def placeI (rows : List (Array UInt8)) (kk : Array UInt8) : Int := match rows.findIdx? (fun r => decide (b1 r = kk)) with | some i => i | none => -1
theorem placeI_some {rows : List (Array UInt8)} {kk : Array UInt8} {i : Nat} {r : Array UInt8} (hr : rows[i]? = some r) (e : b1 r = kk) (hj : ∀ j r, j < i → rows[j]? = some r → b1 r ≠ kk) : placeI rows kk = i := by
  unfold placeI
  have hi : i < rows.length := by
    rcases Nat.lt_or_ge i rows.length with h | h
    · exact h
    · rw [List.getElem?_eq_none h] at hr; cases hr
  have : rows.findIdx? (fun r => decide (b1 r = kk)) = some i := by
    rw [List.findIdx?_eq_some_iff_getElem]
    refine ⟨hi, ?_, fun j hji => ?_⟩
    · have := List.getElem?_eq_getElem hi; rw [this] at hr; rw [Option.some.inj hr]; simpa using e
    · have := hj j (rows[j]'(by (first | lia | omega))) hji (List.getElem?_eq_getElem _); simpa using this
  rw [this]
theorem placeI_none {rows : List (Array UInt8)} {kk : Array UInt8} (hj : ∀ j r, j < rows.length → rows[j]? = some r → b1 r ≠ kk) : placeI rows kk = -1 := by
  unfold placeI
  have : rows.findIdx? (fun r => decide (b1 r = kk)) = none := by
    rw [List.findIdx?_eq_none_iff]
    intro r hr
    obtain ⟨j, hj1, e⟩ := List.getElem_of_mem hr
    have := hj j r hj1 (by rw [← e]; exact List.getElem?_eq_getElem hj1)
    simpa using this
  rw [this]
section
variable {w : World} {A : Around} {h g : Heap} {env : Env} {L : Addr} {l : Loc} {led rest : Led}
theorem key_place {x dx c kl kt : Addr} {sl at_ : Addr} {km : List Nat} {nw : Bool} {od oc okl okt : Obj} {rows : List (Array UInt8)} {kk : Array UInt8} {tk : Tok} {P : Value → Heap → Prop}
    (S : St g L h l led) (G : Gd w g) (hA : Amb A 3) (hp : Pk [(x, instObj 381 dx), (dx, od), (c, oc), (kl, okl), (kt, okt)] led rest) (hf : KeyF c kl sl at_ km nw od) (hr : IsR rows oc) (hk : IsL [.ref kt] okl) (ht : ∃ t0 t1, okt = tupO [.int 0 t0, .int 1 t1, .bool false])
    (hz : rows.length < 60) (hs : ∀ r ∈ rows, r.size ≤ 1000)
    (k : ∀ h' t, St g L h' l ([(x, instObj 381 dx), (dx, od), (c, oc), (kl, okl), (kt, okt)] ++ rest) → P (.int (placeI rows kk) t) h')
    : W w A (call (.ref 278) [.ref x, .bytes kk tk]) P h := by
  have hff := hf
  obtain ⟨mx, tm, ax, ta, ns, t1, wt, rl, t2, hi, t3, hmx, hax, hF⟩ := hf
  obtain ⟨vs, hc, hb⟩ := hr
  have hl := hb.length
  refine' w_def (binds := [(Str.ofString "self", .ref x), (Str.ofString "key", .bytes kk tk)]) S G hA hp ?ho ?hcd ?hbind ?hloc ?hks ?hl ?k ?hcell ?hco ?hgen ?hk
  k_extra "DEF"
  k_extra "SS"
  refine (it_range1 S hA.handled (by k_extra "mem") ha (by (first | lia | omega))).mono fun it h2 hi2 => for_fix hi2 (fun i => ∀ j r, j < i → rows[j]? = some r → b1 r ≠ kk) (fun j r hj => absurd hj (Nat.not_lt_zero _)) ?_ ?_
  · clear S
    intro i v I oI h hin hv hq S
    obtain ⟨ti, rfl⟩ := hv
    dsimp only [List.cons_append, List.nil_append] at S
    have hri : rows[i]? = some (rows[i]'(by (first | lia | omega))) := List.getElem?_eq_getElem _
    obtain ⟨tr, hvi⟩ := hb.get hri
    k_extra "SS"
    refine d_item S (by k_extra "mem") hc (by (first | lia | omega)) (by (first | lia | omega)) (by simpa using hvi) ?_ rfl
    k_extra "SS"
    refine key_worth S G (hA.le (by decide)) (by k_extra "pk") hff hk ht (hs _ (List.getElem_mem _)) ?_
    clear S
    intro h t S
    dsimp only [List.cons_append, List.nil_append] at S
    k_extra "SS"
    refine ⟨fun q => ?_, fun q => ?_⟩
    · k_extra "SS"
      refine ⟨_, _, [(x, _), (dx, _), (c, _), (kl, _), (kt, _)], S.sel (by k_extra "pk"), fun S => ?_⟩
      have kkk := k _ ti S
      rw [placeI_some hri (by simpa using q) hq] at kkk
      exact kkk
    · k_extra "SS"
      refine ⟨_, _, ?_, rfl, rfl, fun j r hj hr' => ?_⟩
      · k_extra "TE"
      · rcases Nat.lt_or_ge j i with h1 | h1
        · exact hq j r h1 hr'
        · have : j = i := by (first | lia | omega)
          subst this
          rw [hri] at hr'; cases hr'
          simpa using q
  · clear S
    intro h hq S
    dsimp only [List.nil_append] at S
    k_extra "SS"
    refine ⟨_, _, [(x, _), (dx, _), (c, _), (kl, _), (kt, _)], S.sel (by k_extra "pk"), fun S => ?_⟩
    have kkk := fun t => k _ t S
    rw [placeI_none (fun j r h1 h2 => hq j r (by (first | lia | omega)) h2)] at kkk
    exact kkk _
end
end Key2

section Key3
section
variable {w : World} {A : Around} {h g : Heap} {env : Env} {L : Addr} {l : Loc} {led rest : Led}
theorem key_stand {x dx : Addr} {c kl sl at_ at2 : Addr} {km : List Nat} {nw : Bool} {od : Obj} {tw : Tok} {P : Value → Heap → Prop}
    (S : St g L h l led) (G : Gd w g) (hA : Amb A 2) (hp : Pk [(x, instObj 381 dx), (dx, od)] led rest) (hf : KeyF c kl sl at_ km nw od)
    (k : ∀ h' od', KeyF c kl sl at2 km false od' → St g L h' l ([(x, instObj 381 dx), (dx, od')] ++ rest) → P .none h')
    : W w A (call (.ref 292) [.ref x, .int 0 tw, .ref at2]) P h := by
  obtain ⟨mx, tm, ax, ta, ns, t1, wt, rl, t2, hi, t3, hmx, hax, hf⟩ := hf
  refine' w_def (binds := [(Str.ofString "self", .ref x), (Str.ofString "which", .int 0 tw), (Str.ofString "at", .ref at2)]) S G hA hp ?ho ?hcd ?hbind ?hloc ?hks ?hl ?k ?hcell ?hco ?hgen ?hk
  k_extra "DEF"
  k_extra "SS"
  exact ⟨_, _, [(x, _), (dx, _)], S.sel (by k_extra "pk"), fun S => k _ _ ⟨_, _, _, _, _, _, _, _, _, _, _, hmx, hax, hf⟩ S⟩
theorem key_lose {x dx : Addr} {c kl sl at_ : Addr} {km : List Nat} {nw : Bool} {od : Obj} {st : Str} {ts : Tok} {P : Value → Heap → Prop}
    (S : St g L h l led) (G : Gd w g) (hA : Amb A 2) (hp : Pk [(x, instObj 381 dx), (dx, od)] led rest) (hf : KeyF c kl sl at_ km nw od)
    (k : ∀ h' od' a ot, ResT (key st) #[] ot → KeyF c kl sl at_ km true od' → St g L h' l ([(a, ot), (x, instObj 381 dx), (dx, od')] ++ rest) → P (.ref a) h')
    : W w A (call (.ref 299) [.ref x, .str st ts]) P h := by
  obtain ⟨mx, tm, ax, ta, ns, t1, wt, rl, t2, hi, t3, hmx, hax, hf⟩ := hf
  refine' w_def (binds := [(Str.ofString "self", .ref x), (Str.ofString "status", .str st ts)]) S G hA hp ?ho ?hcd ?hbind ?hloc ?hks ?hl ?k ?hcell ?hco ?hgen ?hk
  k_extra "DEF"
  k_extra "SS"
  exact ⟨_, _, [(_, _), (x, _), (dx, _)], S.sel (by k_extra "pk"), fun S => k _ _ _ _ ⟨_, _, _, rfl, rfl⟩ ⟨_, _, _, _, _, _, _, _, _, _, _, hmx, hax, hf⟩ S⟩
theorem key_doubled {x dx : Addr} {c kl sl at_ : Addr} {km : List Nat} {nw : Bool} {od : Obj} {b : Array UInt8} {tb to : Tok} {own : Int} {r : Addr} {orr : Obj} {P : Value → Heap → Prop}
    (S : St g L h l led) (G : Gd w g) (hA : Amb A 2) (hp : Pk [(x, instObj 381 dx), (dx, od), (r, orr)] led rest) (hf : KeyF c kl sl at_ km nw od) (hr : IsRg 1 1 1 orr ∨ IsL [] orr)
    (k : ∀ h' sx t, key sx = [48, 48] → St g L h' l ([(x, instObj 381 dx), (dx, od), (r, orr)] ++ rest) → P (.str sx t) h')
    : W w A (call (.ref 346) [.ref x, .bytes b tb, .int own to, .ref r]) P h := by
  obtain ⟨mx, tm, ax, ta, ns, t1, wt, rl, t2, hi, t3, hmx, hax, hf⟩ := hf
  refine' w_def (binds := [(Str.ofString "self", .ref x), (Str.ofString "record", .bytes b tb), (Str.ofString "own", .int own to), (Str.ofString "numbers", .ref r)]) S G hA hp ?ho ?hcd ?hbind ?hloc ?hks ?hl ?k ?hcell ?hco ?hgen ?hk
  k_extra "DEF"
  k_extra "SS"
  rcases hr with hr | hr
  · refine (it_range0 S hA.handled (by k_extra "mem") hr (by (first | lia | omega)) (by (first | lia | omega)) (by (first | lia | omega)) (by (first | lia | omega))).mono fun it h2 hi2 => for_fix hi2 (fun i => True) trivial (fun i v I oI h hin hv _ S => hv.elim) fun h _ S => ?_
    dsimp only [List.nil_append] at S
    k_extra "SS"
    exact ⟨_, _, [(x, _), (dx, _), (r, _)], S.sel (by k_extra "pk"), fun S => k _ _ _ ls_00 S⟩
  · refine (it_list S hA.handled (by k_extra "pk") hr).mono fun it h2 hi2 => for_fix hi2 (fun i => True) trivial (fun i v I oI h hin hv _ S => absurd hin (Nat.not_lt_zero _)) fun h _ S => ?_
    dsimp only [List.nil_append, List.cons_append] at S
    k_extra "SS"
    exact ⟨_, _, [(x, _), (dx, _), (r, _)], S.sel (by k_extra "pk"), fun S => k _ _ _ ls_00 S⟩
end
end Key3

section Key4
section
variable {w : World} {A : Around} {h g : Heap} {env : Env} {L : Addr} {l : Loc} {led rest : Led}
theorem key_drop {x dx c sl : Addr} {kl at_ : Addr} {km : List Nat} {nw : Bool} {od oc osl : Obj} {rows : List (Array UInt8)} {vs : List Value} {i : Nat} {ti : Tok} {P : Value → Heap → Prop}
    (S : St g L h l led) (G : Gd w g) (hA : Amb A 2) (hp : Pk [(x, instObj 381 dx), (dx, od), (c, oc), (sl, osl)] led rest) (hf : KeyF c kl sl at_ km nw od) (hr : IsR rows oc) (hs : IsL vs osl) (hl : vs.length = rows.length) (hi : i < rows.length) (hz : rows.length < 60)
    (k : ∀ h' oc' osl', IsR (rows.eraseIdx i) oc' → IsL (vs.eraseIdx i) osl' → St g L h' l ([(x, instObj 381 dx), (dx, od), (c, oc'), (sl, osl')] ++ rest) → P .none h')
    : W w A (call (.ref 339) [.ref x, .int i ti]) P h := by
  obtain ⟨mx, tm, ax, ta, ns, t1, wt, rl, t2, hi', t3, hmx, hax, hf⟩ := hf
  obtain ⟨cvs, hc, hb⟩ := hr
  have hlc := hb.length
  have e1 : cvs[i]? = some (cvs[i]'(by (first | lia | omega))) := List.getElem?_eq_getElem _
  have e2 : vs[i]? = some (vs[i]'(by (first | lia | omega))) := List.getElem?_eq_getElem _
  refine' w_def (binds := [(Str.ofString "self", .ref x), (Str.ofString "place", .int i ti)]) S G hA hp ?ho ?hcd ?hbind ?hloc ?hks ?hl ?k ?hcell ?hco ?hgen ?hk
  k_extra "DEF"
  k_extra "SS"
  refine d_pop S (by k_extra "put") hc (by (first | lia | omega)) (by rw [Int.toNat_natCast]; exact e1) (by (first | lia | omega)) ?_
  clear S
  intro h oc hc S
  (try dsimp only at S)
  k_extra "SS"
  refine d_pop S (by k_extra "put") hs (by (first | lia | omega)) (by rw [Int.toNat_natCast]; exact e2) (by (first | lia | omega)) ?_
  clear S
  intro h osl hs S
  (try dsimp only at S)
  k_extra "SS"
  exact ⟨_, _, [(x, _), (dx, _), (c, _), (sl, _)], S.sel (by k_extra "pk"), fun S => k _ _ _ ⟨_, hc, by rw [Int.toNat_natCast]; exact hb.erase i⟩ (by rw [Int.toNat_natCast] at hs; exact hs) S⟩
end
end Key4

section Key5
section
variable {w : World} {A : Around} {h g : Heap} {env : Env} {L : Addr} {l : Loc} {led rest : Led}
theorem IsC.to {v v' : Option Value} {o : Obj} (H : IsC v o) (e : v = v') : IsC v' o := e ▸ H
theorem key_put {x dx c sl kl : Addr} {at_ lz rg : Addr} {km : List Nat} {nw : Bool} {od oc osl okl olz org : Obj} {rows : List (Array UInt8)} {vs : List Value} {kt : Addr} {b : Array UInt8} {tb : Tok} {P : Value → Heap → Prop}
    (S : St g L h l led) (G : Gd w g) (hA : Amb A 2) (hp : Pk [(x, instObj 381 dx), (dx, od), (c, oc), (sl, osl), (kl, okl), (lz, olz), (rg, org)] led rest) (hf : KeyF c kl sl at_ km nw od) (hr : IsR rows oc) (hs : IsL vs osl) (hk : IsL [.ref kt] okl) (hrg : IsRg 0 1 1 org) (hz : rows.length < 60) (hz2 : vs.length < 60)
    (k : ∀ h' od' oc' osl' s os n t, KeyF c kl sl at_ km nw od' → IsR (rows ++ [b]) oc' → IsL (vs ++ [.ref s]) osl' → IsL [.int n t] os → St g L h' l ([(x, instObj 381 dx), (dx, od'), (c, oc'), (sl, osl'), (kl, okl), (lz, olz), (rg, org), (s, os)] ++ rest) → P .none h')
    : W w A (call (.ref 332) [.ref x, .bytes b tb, .ref lz, .ref rg]) P h := by
  obtain ⟨mx, tm, ax, ta, ns, t1, wt, rl, t2, hi', t3, hmx, hax, hf⟩ := hf
  obtain ⟨cvs, hc, hb⟩ := hr
  have hlc := hb.length
  refine w_ofC ?_
  refine' c_defC (binds := [(Str.ofString "self", .ref x), (Str.ofString "record", .bytes b tb), (Str.ofString "stamps", .ref lz), (Str.ofString "turned", .ref rg)]) (bl := [(Str.ofString "record", .bytes b tb)]) (ns := [Str.ofString "turned", Str.ofString "stamps", Str.ofString "self"]) S G hA hp ?ho ?hcd ?hbind ?hkind ?hnd ?hks ?hbl ?hl ?hns ?hm ?k ?hco ?hgen ?hk
  k_extra "DEFC"
  obtain ⟨ct, cst, csf, ot, ost, osf, rfl, rfl, i1, i2, i3⟩ := X.three
  rw [nm_turned, nm_stamps, nm_self] at e
  have i1 := IsC.to i1 (v' := some (.ref rg)) (by rfl)
  have i2 := IsC.to i2 (v' := some (.ref lz)) (by rfl)
  have i3 := IsC.to i3 (v' := some (.ref x)) (by rfl)
  clear X
  dsimp only [List.cons_append, List.nil_append] at S
  k_extra "SS"
  have hcc := hc
  refine (it_range1 S hA.handled (by k_extra "mem") ha (by simp)).mono fun it h2 hi2 => ⟨1, _, _, _, _, fun i ys led' => led' = _ ∧ (i = 1 → ∃ n t, ys = [.int n t]) ∧ (i = 0 → ys = []), hi2, by (first | lia | omega), ⟨rfl, by simp, by simp⟩, ?_, ?_⟩
  · intro i v ys led1 I oI oL D oD C h env hi hv hy hj e S
    obtain ⟨tv, rfl⟩ := hv
    obtain ⟨rfl, hj1, hj2⟩ := hj
    dsimp only [List.cons_append, List.nil_append, List.reverse_cons, List.reverse_nil] at S e
    obtain rfl : i = 0 := by (first | lia | omega)
    k_extra "SS"
    exact ⟨_, _, S, rfl, fun _ => ⟨_, _, by rw [hj2 rfl]; rfl⟩, fun z => by (first | lia | omega)⟩
  · clear S
    intro ys led1 D oD h hyl hj hl S
    obtain ⟨rfl, hj1, -⟩ := hj
    obtain ⟨n, tn, rfl⟩ := hj1 rfl
    dsimp only [List.cons_append, List.nil_append] at S
    k_extra "SS"
    exact ⟨_, _, [(x, _), (dx, _), (c, _), (sl, _), (kl, _), (lz, _), (rg, _), (D, _)], S.sel (by k_extra "pk"), fun S => k _ _ _ _ _ _ _ _ ⟨_, _, _, _, _, _, _, _, _, _, _, hmx, hax, hf⟩ ⟨_, hcc, hb.append (.cons ⟨_, rfl⟩ .nil)⟩ hc hl S⟩
end
end Key5

section Key6
theorem TV.mono {led led' : Led} {v : Value} {p : Array UInt8 × Nat} (h : ∀ q ∈ led, q ∈ led') (H : TV led v p) : TV led' v p := by
  obtain ⟨a, t, n, u, x, e, m⟩ := H
  exact ⟨a, t, n, u, x, e, h _ m⟩
theorem TVs.mono {led led' : Led} {vs ps} (h : ∀ q ∈ led, q ∈ led') (H : TVs led vs ps) : TVs led' vs ps := by
  induction H with
  | nil => exact .nil
  | cons a _ ih => exact .cons (a.mono h) ih
theorem TVs.append {led : Led} {vs ps v p} (H : TVs led vs ps) (t : TV led v p) : TVs led (vs ++ [v]) (ps ++ [p]) := by
  induction H with
  | nil => exact .cons t .nil
  | cons a _ ih => exact .cons a ih
def plcs (rows : List (Array UInt8)) (i : Nat) : List (Array UInt8 × Nat) := (List.range i).map fun j => (b1 (rows.getD j #[]), j)
theorem plcs_succ {rows : List (Array UInt8)} {i : Nat} (hi : i < rows.length) : plcs rows (i + 1) = plcs rows i ++ [(b1 (rows[i]'hi), i)] := by
  unfold plcs
  rw [List.range_succ, List.map_append]
  simp [hi]
theorem plcs_keys (rows : List (Array UInt8)) : (plcs rows rows.length).map (·.1) = rows.map b1 := by
  unfold plcs
  rw [List.map_map]
  apply List.ext_getElem?
  intro i
  by_cases hi : i < rows.length
  · simp [hi]
  · simp [hi]
section
variable {w : World} {A : Around} {h g : Heap} {env : Env} {L : Addr} {l : Loc} {led rest : Led}
theorem key_ordered {x dx c kl kt sl at_ : Addr} {km : List Nat} {nw : Bool} {od oc okl okt osl : Obj} {fam : Led} {rows : List (Array UInt8)} {vs : List Value} {tw : Tok} {P : Value → Heap → Prop}
    (S : St g L h l led) (G : Gd w g) (hA : Amb A 3) (hp : Pk ((x, instObj 381 dx) :: (dx, od) :: (c, oc) :: (kl, okl) :: (kt, okt) :: (sl, osl) :: fam) led rest) (hf : KeyF c kl sl at_ km nw od) (hr : IsR rows oc) (hk : IsL [.ref kt] okl) (ht : ∃ t0 t1, okt = tupO [.int 0 t0, .int 1 t1, .bool false])
    (hs : IsL vs osl) (hsf : SF fam vs) (hl : vs.length = rows.length) (hz : rows.length ≤ 5) (hbz : ∀ r ∈ rows, r.size ≤ 1000) (hnd : (rows.map fun r => nat8 (b1 r)).Nodup)
    (k : ∀ h' a o tf vs' ps, IsL vs' o → TVs tf vs' ps → ps.Perm (plcs rows rows.length) → (ps.map fun p => nat8 p.1).Pairwise (· < ·) →
      St g L h' l ((a, o) :: (tf ++ ((x, instObj 381 dx) :: (dx, od) :: (c, oc) :: (kl, okl) :: (kt, okt) :: (sl, osl) :: fam)) ++ rest) → P (.ref a) h')
    : W w A (call (.ref 271) [.ref x, .int 0 tw]) P h := by
  have hff := hf
  obtain ⟨mx, tm, ax, ta, ns, t1, wt, rl, t2, hi, t3, hmx, hax, hF⟩ := hf
  obtain ⟨cvs, hc, hb⟩ := hr
  have hlc := hb.length
  refine' w_def (binds := [(Str.ofString "self", .ref x), (Str.ofString "which", .int 0 tw)]) S G hA hp ?ho ?hcd ?hbind ?hloc ?hks ?hl ?k ?hcell ?hco ?hgen ?hk
  k_extra "DEF"
  k_extra "NL"
  have hfl : IsL [] (W.listOf #[] 0) := ⟨0, rfl⟩
  k_extra "SS"
  refine (it_range1 S hA.handled (by k_extra "mem") ha (by (first | lia | omega))).mono fun it h2 hi2 => for_of hi2 (fun i l' led' => A2 (l' = [([102, 111, 117, 110, 100], Value.ref fl), ([119, 104, 105, 99, 104], Value.int 0 tw), ([115, 101, 108, 102], Value.ref x)]) (E3 fun tf o tvs => A4 (led' = (a, oa) :: (fl, o) :: (tf ++ ((x, instObj 381 dx) :: (dx, od) :: (c, oc) :: (kl, okl) :: (kt, okt) :: (sl, osl) :: fam))) (IsL tvs o) (TVs tf tvs (plcs rows i)) (tvs.length = i)))
    ⟨rfl, [], _, [], rfl, hfl, .nil, rfl⟩ ?_ ?_
  · clear S
    intro i v l1 led1 I oI h hin hv hj S
    obtain ⟨ti, rfl⟩ := hv
    obtain ⟨rfl, tf, o, tvs, rfl, ho, htv, hlen⟩ := hj
    dsimp only [List.cons_append, List.nil_append] at S
    have hin' : i < rows.length := by (first | lia | omega)
    have hri : rows[i]? = some (rows[i]'hin') := List.getElem?_eq_getElem _
    obtain ⟨tr, hvi⟩ := hb.get hri
    obtain ⟨s, os, n, tn, ms, hsi, hos⟩ := hsf.get (i := i) (by (first | lia | omega))
    k_extra "SS"
    refine d_item S (by k_extra "mem") hc (by (first | lia | omega)) (by (first | lia | omega)) (by simpa using hvi) ?_ rfl
    k_extra "SS"
    refine key_worth S G (hA.le (by decide)) (by k_extra "pk") hff hk ht (hbz _ (List.getElem_mem _)) ?_
    clear S
    intro h t S
    dsimp only [List.cons_append, List.nil_append] at S
    k_extra "SS"
    refine d_item S (by k_extra "mem") hs (by (first | lia | omega)) (by (first | lia | omega)) (by simpa using hsi) ?_ rfl
    k_extra "SS"
    refine ⟨_, _, ?_, rfl, (a, tupO [.bytes (b1 (rows[i]'hin')) t, .int n tn, .int i ti]) :: tf, _, _, rfl, hc, by rw [plcs_succ hin']; exact (htv.mono fun q hq => .tail _ hq).append ⟨_, _, _, _, _, rfl, .head _⟩, by simp [hlen]⟩
    k_extra "TE"
  · clear S
    intro l1 led1 h hj S
    obtain ⟨rfl, tf, o, tvs, rfl, ho, htv, hlen⟩ := hj
    dsimp only [List.cons_append, List.nil_append] at S
    rw [hlc] at htv hlen
    k_extra "SS"
    have hnd' : ((plcs rows rows.length).map fun p => nat8 p.1).Nodup := by
      have := congrArg (List.map nat8) (plcs_keys rows)
      rw [List.map_map, List.map_map] at this
      rw [show ((plcs rows rows.length).map fun p => nat8 p.1) = _ from this]
      exact hnd
    refine q_sortedT S (by k_extra "mem") ho (fun q hq => by k_extra "mem") htv hnd' (by unfold plcs; simpa using hz) (by have := hA.units; show A.units + 2 < 9900; (first | lia | omega)) ?_
    clear S
    intro a h o vs' ps' hl' ht' hp' hs' S
    k_extra "SS"
    exact ⟨_, _, (a, _) :: (tf ++ ((x, _) :: (dx, _) :: (c, _) :: (kl, _) :: (kt, _) :: (sl, _) :: fam)), S.sel (by k_extra "pk"), fun S => k _ _ _ _ _ _ hl' ht' hp' hs' S⟩
end
end Key6

section Key7
theorem TVs.at {led : Led} {vs ps} (H : TVs led vs ps) : ∀ {i : Nat} {v : Value}, vs[i]? = some v → ∃ p, ps[i]? = some p ∧ TV led v p := by
  induction H with
  | nil => intro i v e; simp at e
  | @cons v p vs ps h _ ih =>
    intro i u e
    cases i with
    | zero => simp at e; subst e; exact ⟨p, rfl, h⟩
    | succ i => obtain ⟨q, e1, t⟩ := ih (by simpa using e); exact ⟨q, by simpa using e1, t⟩
section
variable {w : World} {A : Around} {h g : Heap} {env : Env} {L : Addr} {l : Loc} {led rest : Led}
theorem key_found {x dx c kl kt sl at_ ra : Addr} {km : List Nat} {nw : Bool} {od oc okl okt osl : Obj} {fam : Led} {rows : List (Array UInt8)} {vs : List Value} {bk r : Array UInt8} {tk tn tp : Tok} {n : Int} {p : Nat} {tw : Tok} {P : Value → Heap → Prop}
    (S : St g L h l led) (G : Gd w g) (hA : Amb A 4) (hp : Pk ((ra, tupO [.bytes bk tk, .int n tn, .int p tp]) :: (x, instObj 381 dx) :: (dx, od) :: (c, oc) :: (kl, okl) :: (kt, okt) :: (sl, osl) :: fam) led rest) (hf : KeyF c kl sl at_ km nw od) (hr : IsR rows oc) (hk : IsL [.ref kt] okl) (ht : ∃ t0 t1, okt = tupO [.int 0 t0, .int 1 t1, .bool false])
    (hs : IsL vs osl) (hsf : SF fam vs) (hl : vs.length = rows.length) (hz : rows.length ≤ 5) (hbz : ∀ r ∈ rows, r.size ≤ 1000) (hnd : (rows.map fun r => nat8 (b1 r)).Nodup) (hpr : rows[p]? = some r) (hbk : bk.size ≤ 10)
    (k : ∀ h' od' a ot at2 oat2, ResT [48, 48] r ot → KeyF c kl sl at2 km false od' → (∃ t n tn, oat2 = tupO [.bytes (bk ++ #[0]) t, .int n tn]) →
      St g L h' l ((a, ot) :: (x, instObj 381 dx) :: (dx, od') :: (c, oc) :: (kl, okl) :: (kt, okt) :: (sl, osl) :: (at2, oat2) :: fam ++ rest) → P (.ref a) h')
    : W w A (call (.ref 304) [.ref x, .ref ra, .int 0 tw]) P h := by
  obtain ⟨cvs, hC, hb⟩ := id hr
  have hlc := hb.length
  have hpl : p < rows.length := by
    rcases Nat.lt_or_ge p rows.length with z | z
    · exact z
    · rw [List.getElem?_eq_none z] at hpr; cases hpr
  obtain ⟨tr, hvp⟩ := hb.get hpr
  obtain ⟨s, os, ns, tns, ms, hsi, hos⟩ := hsf.get (i := p) (by (first | lia | omega))
  refine w_ofC ?_
  refine' c_defC (binds := [(Str.ofString "self", .ref x), (Str.ofString "row", .ref ra), (Str.ofString "which", .int 0 tw)]) (bl := [(Str.ofString "self", .ref x), (Str.ofString "row", .ref ra), (Str.ofString "which", .int 0 tw)]) (ns := [Str.ofString "stamp", Str.ofString "worth"]) S G hA hp ?ho ?hcd ?hbind ?hkind ?hnd ?hks ?hbl ?hl ?hns ?hm ?k ?hco ?hgen ?hk
  k_extra "DEFC"
  obtain ⟨ct, cst, ot, ost, rfl, rfl, i1, i2⟩ := X.two
  rw [nm_stamp, nm_worth] at e
  have i1 := IsC.to i1 (v' := none) (by rfl)
  have i2 := IsC.to i2 (v' := none) (by rfl)
  clear X
  dsimp only [List.cons_append, List.nil_append] at S
  have hff := hf
  obtain ⟨mx, tm, ax, ta, ns, t1, wt, rl, t2, hi, t3, hmx, hax, hF⟩ := id hf
  k_extra "SS"
  obtain ⟨at2, rfl⟩ : ∃ y, y = a := ⟨a, rfl⟩
  refine key_stand S G (hA.le (by decide)) (by k_extra "pk") hf ?_
  clear S
  intro h od hf S
  (try dsimp only [List.cons_append, List.nil_append] at S)
  obtain ⟨mx, tm, ax, ta, ns, t1, wt, rl, t2, hi, t3, hmx, hax, hF⟩ := id hf
  k_extra "SS"
  refine d_item S (by k_extra "mem") hs (by (first | lia | omega)) (by (first | lia | omega)) (by rw [Int.toNat_natCast]; exact hsi) ?_ rfl
  k_extra "SS"
  have hkf : KeyF c kl sl at2 km false od := ⟨_, _, _, _, _, _, _, _, _, _, _, hmx, hax, hf⟩
  refine key_ordered S G (hA.le (by decide)) (by k_extra "pk") hkf hr hk ht hs hsf hl hz hbz hnd ?_
  clear S
  intro h lo olo tf vs' ps hl' ht' hp' hs' S
  k_extra "SI"
  k_extra "SS"
  refine (it_list S hA.handled (by k_extra "pk") hl').mono fun it h2 hi2 => ⟨vs'.length, _, _, _, _, fun i ys led' => led' = _, hi2, ?_, rfl, ?_, ?_⟩
  · have h1 := hp'.length_eq
    have h3 := ht'.length
    have h4 : (plcs rows rows.length).length = rows.length := by unfold plcs; simp
    (first | lia | omega)
  · intro i v ys led1 I oI oL D oD C h env hi hv hy hj e S
    subst hj
    obtain ⟨⟨kb, kp⟩, hps, a1, t1, n1, u1, x1, rfl, m1⟩ := ht'.at hv
    dsimp only [List.cons_append, List.nil_append, List.reverse_cons, List.reverse_nil, List.append_eq] at S e
    k_extra "SS"
    refine ⟨fun q => ?_, fun q => ?_⟩
    · k_extra "SS"
      refine ⟨fun q => ?_, fun q => ?_⟩
      · k_extra "SS"
        exact ⟨_, _, S, rfl⟩
      · exact br_f rfl ⟨_, _, S, rfl⟩
    · exact br_f rfl ⟨_, _, S, rfl⟩
  · clear S
    intro ys led1 D oD h hyl hj hyo S
    subst hj
    dsimp only [List.cons_append, List.nil_append, List.append_eq] at S
    k_extra "SS"
    refine d_item S (by k_extra "mem") hC (by (first | lia | omega)) (by (first | lia | omega)) (by rw [Int.toNat_natCast]; exact hvp) ?_ rfl
    k_extra "SS"
    exact ⟨_, _, (a, _) :: (x, _) :: (dx, _) :: (c, _) :: (kl, _) :: (kt, _) :: (sl, _) :: (at2, _) :: fam, S.sel (by k_extra "pk"), fun S => k _ _ _ _ _ _ ⟨_, _, _, ls_00, rfl⟩ hkf ⟨_, _, _, rfl⟩ S⟩
end
end Key7

section Key8
theorem Tk1.of_mem {p : Addr × Obj} : ∀ {fam : Led}, p ∈ fam → ∃ fam', ∀ r, Tk1 p (fam ++ r) (fam' ++ r)
  | [], m => by cases m
  | q :: fam, m => by
    rcases List.mem_cons.mp m with rfl | m
    · exact ⟨fam, fun r => .head⟩
    · obtain ⟨f', h⟩ := Tk1.of_mem m
      exact ⟨q :: f', fun r => .tail (h r)⟩
theorem mem_plcs {rows : List (Array UInt8)} {q : Array UInt8 × Nat} (h : q ∈ plcs rows rows.length) : ∃ r, rows[q.2]? = some r ∧ b1 r = q.1 := by
  obtain ⟨j, hj, rfl⟩ := List.mem_map.mp h
  have hj := List.mem_range.mp hj
  exact ⟨rows[j], List.getElem?_eq_getElem hj, by simp [hj]⟩
theorem plcs_mem {rows : List (Array UInt8)} {r : Array UInt8} (h : r ∈ rows) : ∃ j, (b1 r, j) ∈ plcs rows rows.length := by
  obtain ⟨j, hj, rfl⟩ := List.getElem_of_mem h
  exact ⟨j, List.mem_map.mpr ⟨j, List.mem_range.mpr hj, by simp [hj]⟩⟩
theorem first_hit {a : List Nat} {ps : List (Array UInt8 × Nat)} (hs : (ps.map fun p => nat8 p.1).Pairwise (· < ·)) {i : Nat} {p : Array UInt8 × Nat} (hi : ps[i]? = some p)
    (hq : ∀ j q, j < i → ps[j]? = some q → ¬ a < nat8 q.1) : ∀ q ∈ ps, a < nat8 q.1 → nat8 p.1 ≤ nat8 q.1 := by
  intro q hqm hlt
  obtain ⟨j, hj, rfl⟩ := List.getElem_of_mem hqm
  obtain ⟨hi', rfl⟩ := List.getElem?_eq_some_iff.mp hi
  rcases Nat.lt_trichotomy j i with z | z | z
  · exact absurd hlt (hq j _ z (List.getElem?_eq_getElem hj))
  · subst z; exact List.le_refl _
  · have := List.pairwise_iff_getElem.mp hs i j (by simpa using hi') (by simpa using hj) z
    simp only [List.getElem_map] at this
    exact List.le_of_lt this
section
variable {w : World} {A : Around} {h g : Heap} {env : Env} {L : Addr} {l : Loc} {led rest : Led}
theorem key_next {x dx c kl kt sl at_ : Addr} {km : List Nat} {nw : Bool} {od oc okl okt osl oat : Obj} {fam : Led} {rows : List (Array UInt8)} {ab : Array UInt8} {P : Value → Heap → Prop}
    (S : St g L h l led) (G : Gd w g) (hA : Amb A 5) (hp : Pk (ksL x dx c kl kt sl at_ od oc okl okt osl oat fam) led rest) (H : KS c kl kt sl at_ km ab nw rows od oc okl okt osl oat fam)
    (hm : km = kIn ∨ km = kIo) (hz : rows.length ≤ 5) (hbz : ∀ r ∈ rows, r.size ≤ 1000) (hnd : (rows.map fun r => nat8 (b1 r)).Nodup) (hne : ∀ r ∈ rows, b1 r ≠ ab)
    (k1 : nw = true → ∀ h' od' y ot, ResT [52, 54] #[] ot → KS c kl kt sl at_ km ab true rows od' oc okl okt osl oat fam →
      St g L h' l ((y, ot) :: ksL x dx c kl kt sl at_ od' oc okl okt osl oat fam ++ rest) → P (.ref y) h')
    (k2 : nw = false → (∀ r ∈ rows, ¬ nat8 ab < nat8 (b1 r)) → ∀ h' od' y ot, ResT [49, 48] #[] ot → KS c kl kt sl at_ km ab true rows od' oc okl okt osl oat fam →
      St g L h' l ((y, ot) :: ksL x dx c kl kt sl at_ od' oc okl okt osl oat fam ++ rest) → P (.ref y) h')
    (k3 : ∀ r, nw = false → r ∈ rows → nat8 ab < nat8 (b1 r) → (∀ r' ∈ rows, nat8 ab < nat8 (b1 r') → nat8 (b1 r) ≤ nat8 (b1 r')) → ∀ h' od' y ot at2 oat2, ResT [48, 48] r ot →
      KS c kl kt sl at2 km (b1 r ++ #[0]) false rows od' oc okl okt osl oat2 fam →
      St g L h' l ((y, ot) :: ksL x dx c kl kt sl at2 od' oc okl okt osl oat2 fam ++ rest) → P (.ref y) h')
    : W w A (call (.ref 311) [.ref x]) P h := by
  obtain ⟨hf, hr, hk, ht, ⟨vs, hs, hsf, hl⟩, ⟨ta0, na, tna, rfl⟩⟩ := H
  obtain ⟨mx, tm, ax, ta, ns, t1, wt, rl, t2, hi, t3, hmx, hax, hF⟩ := id hf
  have hm' : ([kIn, kIo].any fun q => decide (q = km)) = true := by rcases hm with rfl | rfl <;> decide
  unfold ksL at hp
  refine' w_def (binds := [(Str.ofString "self", .ref x)]) S G hA hp ?ho ?hcd ?hbind ?hloc ?hks ?hl ?k ?hcell ?hco ?hgen ?hk
  k_extra "DEF"
  k_extra "SS"
  refine br_f (by rw [hm']; rfl) ?_
  k_extra "SS"
  cases nw with
  | true =>
    k_extra "SS"
    exact ⟨_, _, (_, _) :: ksL x dx c kl kt sl at_ _ _ _ _ _ _ fam, S.sel (by k_extra "pk"), fun S => k1 rfl _ _ _ _ ⟨_, _, _, ls_46, rfl⟩ ⟨⟨_, _, _, _, _, _, _, _, _, _, _, hmx, hax, hf⟩, hr, hk, ht, ⟨vs, hs, hsf, hl⟩, ⟨_, _, _, rfl⟩⟩ S⟩
  | false =>
    k_extra "SS"
    refine key_ordered S G (hA.le (by decide)) (by k_extra "pk") hf hr hk ht hs hsf hl hz hbz hnd ?_
    clear S
    intro h lo olo tf vs' ps hl' ht' hp' hs' S
    k_extra "SI"
    k_extra "SS"
    refine (it_list S hA.handled (by k_extra "pk") hl').mono fun it h2 hi2 => for_fix hi2 (fun i => ∀ j q, j < i → ps[j]? = some q → ¬ nat8 ab < nat8 q.1) (fun j q hj => absurd hj (Nat.not_lt_zero _)) ?_ ?_
    · clear S
      intro i v I oI h hin hv hq S
      obtain ⟨⟨kb, kp⟩, hps, a1, t1, n1, u1, x1, rfl, m1⟩ := ht'.at hv
      dsimp only [List.cons_append, List.nil_append, List.append_eq] at S
      obtain ⟨r, hrp, hrb⟩ := mem_plcs (hp'.mem_iff.mp (List.mem_of_getElem? hps))
      dsimp only at hrp hrb
      subst hrb
      have hrm := List.mem_of_getElem? hrp
      k_extra "SS"
      refine t_gt S (by k_extra "mem") (by k_extra "mem") (hne r hrm) (by have := hA.units; show A.units < 9900; (first | lia | omega)) ?_
      k_extra "SS"
      refine ⟨fun q => ?_, fun q => ?_⟩
      · k_extra "SS"
        obtain ⟨tf', htk⟩ := Tk1.of_mem m1
        refine key_found S G (hA.le (by decide)) (by k_extra "pk") hf hr hk ht hs hsf hl hz hbz hnd hrp (by unfold b1; simp; (first | lia | omega)) ?_
        clear S
        intro h od' y ot at2 oat2 ho hf' hat S
        k_extra "SI"
        k_extra "SS"
        refine ⟨_, _, (y, _) :: ksL x dx c kl kt sl at2 _ _ _ _ _ _ fam, S.sel (by k_extra "pk"), fun S => k3 r rfl hrm (by simpa using q) ?_ _ _ _ _ _ _ ho ⟨hf', hr, hk, ht, ⟨vs, hs, hsf, hl⟩, hat⟩ S⟩
        intro r' hr' hlt
        obtain ⟨j, hj⟩ := plcs_mem hr'
        exact first_hit hs' hps hq _ (hp'.mem_iff.mpr hj) hlt
      · k_extra "SS"
        refine ⟨_, _, ?_, rfl, rfl, fun j p hj hp => ?_⟩
        · k_extra "TE"
        · rcases Nat.lt_or_ge j i with h1 | h1
          · exact hq j p h1 hp
          · have : j = i := by (first | lia | omega)
            subst this
            rw [hps] at hp; cases hp
            simpa using q
    · clear S
      intro h hq S
      dsimp only [List.cons_append, List.nil_append, List.append_eq] at S
      k_extra "SS"
      refine key_lose S G (hA.le (by decide)) (by k_extra "pk") hf ?_
      clear S
      intro h od' y ot ho hf' S
      k_extra "SI"
      k_extra "SS"
      refine ⟨_, _, (y, _) :: ksL x dx c kl kt sl at_ _ _ _ _ _ _ fam, S.sel (by k_extra "pk"), fun S => k2 rfl ?_ _ _ _ _ ho ⟨hf', hr, hk, ht, ⟨vs, hs, hsf, hl⟩, ⟨_, _, _, rfl⟩⟩ S⟩
      intro r hr'
      obtain ⟨j, hj⟩ := plcs_mem hr'
      obtain ⟨i, hi, e⟩ := List.getElem_of_mem (hp'.mem_iff.mpr hj)
      have := hq i _ (by have := ht'.length; (first | lia | omega)) (List.getElem?_eq_getElem hi)
      rw [e] at this
      exact this
end
end Key8

section Key9
theorem placeI_cases (rows : List (Array UInt8)) (kk : Array UInt8) : (placeI rows kk = -1 ∧ ∀ r ∈ rows, b1 r ≠ kk) ∨ ∃ i r, placeI rows kk = (i : Nat) ∧ rows[i]? = some r ∧ b1 r = kk ∧ ∀ j r', j < i → rows[j]? = some r' → b1 r' ≠ kk := by
  unfold placeI
  cases e : rows.findIdx? fun r => decide (b1 r = kk) with
  | none =>
    refine .inl ⟨rfl, fun r hr => ?_⟩
    have := List.findIdx?_eq_none_iff.mp e r hr
    simpa using this
  | some i =>
    obtain ⟨hi, h1, h2⟩ := List.findIdx?_eq_some_iff_getElem.mp e
    refine .inr ⟨i, rows[i], rfl, List.getElem?_eq_getElem hi, by simpa using h1, fun j r' hj hr' => ?_⟩
    have hj' : j < rows.length := by (first | lia | omega)
    have := h2 j hj
    rw [List.getElem?_eq_getElem hj'] at hr'; cases hr'
    simpa using this
theorem placeI_nonneg {rows : List (Array UInt8)} {kk : Array UInt8} (h : 0 ≤ placeI rows kk) : ∃ i r, placeI rows kk = (i : Nat) ∧ rows[i]? = some r ∧ b1 r = kk ∧ ∀ j r', j < i → rows[j]? = some r' → b1 r' ≠ kk := by
  rcases placeI_cases rows kk with ⟨e, _⟩ | h'
  · (first | lia | omega)
  · exact h'
theorem placeI_neg {rows : List (Array UInt8)} {kk : Array UInt8} (h : ¬ 0 ≤ placeI rows kk) : ∀ r ∈ rows, b1 r ≠ kk := by
  rcases placeI_cases rows kk with ⟨_, h'⟩ | ⟨i, r, e, _⟩
  · exact h'
  · (first | lia | omega)
section
variable {w : World} {A : Around} {h g : Heap} {env : Env} {L : Addr} {l : Loc} {led rest : Led}
theorem key_write {x dx c kl kt sl at_ : Addr} {km : List Nat} {nw : Bool} {od oc okl okt osl oat : Obj} {fam : Led} {rows : List (Array UInt8)} {ab b : Array UInt8} {tb : Tok} {P : Value → Heap → Prop}
    (S : St g L h l led) (G : Gd w g) (hA : Amb A 5) (hp : Pk (ksL x dx c kl kt sl at_ od oc okl okt osl oat fam) led rest) (H : KS c kl kt sl at_ km ab nw rows od oc okl okt osl oat fam)
    (hm : km = kOut ∨ km = kIo) (hz : rows.length ≤ 5) (hbz : ∀ r ∈ rows, r.size ≤ 1000) (hb0 : b.size ≤ 1000)
    (k1 : (∃ r ∈ rows, b1 r = b1 b) → ∀ h' od' sx t, key sx = [50, 50] → KS c kl kt sl at_ km ab nw rows od' oc okl okt osl oat fam →
      St g L h' l (ksL x dx c kl kt sl at_ od' oc okl okt osl oat fam ++ rest) → P (.str sx t) h')
    (k2 : (∀ r ∈ rows, b1 r ≠ b1 b) → ∀ h' od' oc' osl' fam' sx t, key sx = [48, 48] → KS c kl kt sl at_ km ab nw (rows ++ [b]) od' oc' okl okt osl' oat fam' →
      St g L h' l (ksL x dx c kl kt sl at_ od' oc' okl okt osl' oat fam' ++ rest) → P (.str sx t) h')
    : W w A (call (.ref 360) [.ref x, .bytes b tb]) P h := by
  obtain ⟨hf, hr, hk, ht, ⟨vs, hs, hsf, hl⟩, hat⟩ := H
  have hm' : ([kOut, kIo].any fun q => decide (q = km)) = true := by rcases hm with rfl | rfl <;> decide
  unfold ksL at hp
  obtain ⟨mx, tm, ax, ta, ns, t1, wt, rl, t2, hi, t3, hmx, hax, hF⟩ := id hf
  refine' w_def (binds := [(Str.ofString "self", .ref x), (Str.ofString "record", .bytes b tb)]) S G hA hp ?ho ?hcd ?hbind ?hloc ?hks ?hl ?k ?hcell ?hco ?hgen ?hk
  k_extra "DEF"
  k_extra "SS"
  refine key_maywrite S G (hA.le (by decide)) (by k_extra "pk") hf ?_
  clear S
  intro h S
  k_extra "SI"
  k_extra "SS"
  refine br_f (by rw [hm']; rfl) ?_
  k_extra "SS"
  have hkf : KeyF c kl sl at_ km nw od := ⟨_, _, _, _, _, _, _, _, _, _, _, hmx, hax, hf⟩
  refine key_worth S G (hA.le (by decide)) (by k_extra "pk") hkf hk ht hb0 ?_
  clear S
  intro h tk S
  k_extra "SI"
  k_extra "SS"
  refine key_place S G (hA.le (by decide)) (by k_extra "pk") hkf hr hk ht (by (first | lia | omega)) hbz ?_
  clear S
  intro h tp S
  k_extra "SI"
  k_extra "SS"
  refine ⟨fun q => ?_, fun q => ?_⟩
  · k_extra "SS"
    obtain ⟨i, r, -, hir, hrb, -⟩ := placeI_nonneg (by simpa using q)
    exact ⟨_, _, ksL x dx c kl kt sl at_ _ _ _ _ _ _ fam, S.sel (by k_extra "pk"), fun S => k1 ⟨r, List.mem_of_getElem? hir, hrb⟩ _ _ _ _ ls_22 ⟨hkf, hr, hk, ht, ⟨vs, hs, hsf, hl⟩, hat⟩ S⟩
  · have hno := placeI_neg (by simpa using q)
    k_extra "SS"
    refine key_doubled S G (hA.le (by decide)) (by k_extra "pk") hkf (.inl ha) ?_
    clear S
    intro h sx tsx hsx S
    k_extra "SI"
    k_extra "SS"
    refine key_put S G (hA.le (by decide)) (by k_extra "pk") hkf hr hs hk (by simpa using ha) (by (first | lia | omega)) (by (first | lia | omega)) ?_
    clear S
    intro h od' oc' osl' s os n tn hkf' hr' hs' hos S
    k_extra "SI"
    obtain ⟨mx, tm, ax, ta, ns, t1, wt, rl, t2, hi, t3, hmx, hax, hF⟩ := id hkf'
    k_extra "SS"
    refine ⟨_, _, ksL x dx c kl kt sl at_ _ _ _ _ _ _ (fam ++ [(s, os)]), S.sel (by k_extra "pk"), fun S => k2 hno _ _ _ _ _ _ _ hsx ⟨⟨_, _, _, _, _, _, _, _, _, _, _, hmx, hax, hf⟩, hr', hk, ht, ⟨_, hs', hsf.append hos, by simp [hl]⟩, hat⟩ S⟩
end
end Key9

section Key10
section
variable {w : World} {A : Around} {h g : Heap} {env : Env} {L : Addr} {l : Loc} {led rest : Led}
theorem l_eq0 {c d : Addr} {oc od : Obj} (S : St g L h l led) (mc : (c, oc) ∈ led) (hc : IsL [] oc) (md : (d, od) ∈ led) (hd : IsL [] od) (hu : A.units + 2 < 9900) {P : Value → Heap → Prop} (k : P (.bool true) h) : W w A (compareOp .Eq (.ref c) (.ref d)) P h :=
  d_leq (hc.ints (S.get mc)) (hd.ints (S.get md)) .nil .nil hu k
theorem key_rewrite {x dx c kl kt sl at_ : Addr} {km : List Nat} {nw : Bool} {od oc okl okt osl oat : Obj} {fam : Led} {rows : List (Array UInt8)} {ab b : Array UInt8} {tb : Tok} {P : Value → Heap → Prop}
    (S : St g L h l led) (G : Gd w g) (hA : Amb A 5) (hp : Pk (ksL x dx c kl kt sl at_ od oc okl okt osl oat fam) led rest) (H : KS c kl kt sl at_ km ab nw rows od oc okl okt osl oat fam)
    (hz : rows.length ≤ 5) (hbz : ∀ r ∈ rows, r.size ≤ 1000) (hb0 : b.size ≤ 1000)
    (k1 : km ≠ kIo → ∀ h' od' sx t, key sx = [52, 57] → KS c kl kt sl at_ km ab nw rows od' oc okl okt osl oat fam →
      St g L h' l (ksL x dx c kl kt sl at_ od' oc okl okt osl oat fam ++ rest) → P (.str sx t) h')
    (k2 : km = kIo → (∀ r ∈ rows, b1 r ≠ b1 b) → ∀ h' od' sx t, key sx = [50, 51] → KS c kl kt sl at_ km ab nw rows od' oc okl okt osl oat fam →
      St g L h' l (ksL x dx c kl kt sl at_ od' oc okl okt osl oat fam ++ rest) → P (.str sx t) h')
    (k3 : km = kIo → ∀ i, placeI rows (b1 b) = (i : Nat) → i < rows.length → ∀ h' od' oc' sx t, key sx = [48, 48] → KS c kl kt sl at_ km ab nw (rows.set i b) od' oc' okl okt osl oat fam →
      St g L h' l (ksL x dx c kl kt sl at_ od' oc' okl okt osl oat fam ++ rest) → P (.str sx t) h')
    : W w A (call (.ref 370) [.ref x, .bytes b tb]) P h := by
  obtain ⟨hf, hr, hk, ht, ⟨vs, hs, hsf, hl⟩, hat⟩ := H
  unfold ksL at hp
  obtain ⟨cvs, hC, hb⟩ := id hr
  have hlc := hb.length
  obtain ⟨mx, tm, ax, ta, ns, t1, wt, rl, t2, hi, t3, hmx, hax, hF⟩ := id hf
  refine w_ofC ?_
  refine' c_defC (binds := [(Str.ofString "self", .ref x), (Str.ofString "record", .bytes b tb)]) (bl := []) (ns := [Str.ofString "old", Str.ofString "record", Str.ofString "self"]) S G hA hp ?ho ?hcd ?hbind ?hkind ?hnd ?hks ?hbl ?hl ?hns ?hm ?k ?hco ?hgen ?hk
  k_extra "DEFC"
  obtain ⟨co, cr, cf, oo, orr, of, rfl, rfl, i1, i2, i3⟩ := X.three
  rw [nm_old, nm_record, nm_self] at e
  have i1 := IsC.to i1 (v' := none) (by rfl)
  have i2 := IsC.to i2 (v' := some (.bytes b tb)) (by rfl)
  have i3 := IsC.to i3 (v' := some (.ref x)) (by rfl)
  clear X
  dsimp only [List.cons_append, List.nil_append] at S
  k_extra "SS"
  refine ⟨fun q => ?_, fun q => ?_⟩
  · k_extra "SS"
    exact ⟨_, _, ksL x dx c kl kt sl at_ _ _ _ _ _ _ fam, S.sel (by k_extra "pk"), fun S => k1 (by simpa using q) _ _ _ _ ls_49 ⟨hf, hr, hk, ht, ⟨vs, hs, hsf, hl⟩, hat⟩ S⟩
  · have hio : km = kIo := by simpa using q
    k_extra "SS"
    refine key_worth S G (hA.le (by decide)) (by k_extra "pk") hf hk ht hb0 ?_
    clear S
    intro h tk S
    k_extra "SI"
    k_extra "SS"
    refine key_place S G (hA.le (by decide)) (by k_extra "pk") hf hr hk ht (by (first | lia | omega)) hbz ?_
    clear S
    intro h tp S
    k_extra "SI"
    k_extra "SS"
    refine ⟨fun q => ?_, fun q => ?_⟩
    · have hno := placeI_neg (by simpa using q)
      k_extra "SS"
      exact ⟨_, _, ksL x dx c kl kt sl at_ _ _ _ _ _ _ fam, S.sel (by k_extra "pk"), fun S => k2 hio hno _ _ _ _ ls_23 ⟨hf, hr, hk, ht, ⟨vs, hs, hsf, hl⟩, hat⟩ S⟩
    · obtain ⟨i, r, hpi, hir, hrb, -⟩ := placeI_nonneg (by simpa using q)
      rw [hpi] at S
      obtain ⟨tr, hvi⟩ := hb.get hir
      have hil : i < rows.length := by
        rcases Nat.lt_or_ge i rows.length with z | z
        · exact z
        · rw [List.getElem?_eq_none z] at hir; cases hir
      k_extra "SS"
      have hkf : KeyF c kl sl at_ km nw od := ⟨_, _, _, _, _, _, _, _, _, _, _, hmx, hax, hf⟩
      refine d_item S (by k_extra "mem") hC (by (first | lia | omega)) (by (first | lia | omega)) (by rw [Int.toNat_natCast]; exact hvi) ?_ rfl
      k_extra "SS"
      refine (it_range0 S hA.handled (by k_extra "mem") ha (by simp) (by simp) (by (first | lia | omega)) (by (first | lia | omega))).mono fun it h2 hi2 => ⟨0, _, _, _, _, fun i ys led' => led' = _, hi2, by (first | lia | omega), rfl, fun i v ys led1 I oI oL D oD C h env hi => absurd hi (Nat.not_lt_zero _), ?_⟩
      clear S
      intro ys led1 D oD h hyl hj hyo S
      subst hj
      obtain rfl : ys = [] := List.length_eq_zero_iff.mp (by (first | lia | omega))
      dsimp only [List.cons_append, List.nil_append, List.append_eq] at S
      k_extra "SS"
      refine key_doubled S G (hA.le (by decide)) (by k_extra "pk") hkf (.inr hyo) ?_
      clear S
      intro h sx tsx hsx S
      k_extra "SI"
      k_extra "SS"
      refine l_eq0 S (by k_extra "mem") hyo (by k_extra "mem") ⟨0, rfl⟩ (by have := hA.units; (first | lia | omega)) ?_
      k_extra "SS"
      refine d_set S (by k_extra "put") hC (by (first | lia | omega)) (by (first | lia | omega)) (by (first | lia | omega)) ?_
      clear S
      intro h oc2 hC2 S
      (try dsimp only at S)
      rw [Int.toNat_natCast] at hC2
      k_extra "SS"
      exact ⟨_, _, ksL x dx c kl kt sl at_ _ _ _ _ _ _ fam, S.sel (by k_extra "pk"), fun S => k3 hio i hpi hil _ _ _ _ _ hsx ⟨hkf, ⟨_, hC2, hb.set _ _ _⟩, hk, ht, ⟨vs, hs, hsf, by simp [hl]⟩, hat⟩ S⟩
theorem TkF.erase : ∀ (fam : Led) (i : Nat), TkF (fam.eraseIdx i) fam (fam[i]?).toList
  | [], _ => .refl _
  | p :: fam, 0 => by
    show (p :: fam).Perm (fam ++ [p])
    exact List.perm_append_comm (l₁ := [p]) (l₂ := fam)
  | p :: fam, i + 1 => List.Perm.cons p (TkF.erase fam i)
theorem key_delete {x dx c kl kt sl at_ : Addr} {km : List Nat} {nw : Bool} {od oc okl okt osl oat : Obj} {fam : Led} {rows : List (Array UInt8)} {ab kk : Array UInt8} {tk : Tok} {P : Value → Heap → Prop}
    (S : St g L h l led) (G : Gd w g) (hA : Amb A 5) (hp : Pk (ksL x dx c kl kt sl at_ od oc okl okt osl oat fam) led rest) (H : KS c kl kt sl at_ km ab nw rows od oc okl okt osl oat fam)
    (hz : rows.length ≤ 5) (hbz : ∀ r ∈ rows, r.size ≤ 1000)
    (k1 : km ≠ kIo → ∀ h' od' sx t, key sx = [52, 57] → KS c kl kt sl at_ km ab nw rows od' oc okl okt osl oat fam →
      St g L h' l (ksL x dx c kl kt sl at_ od' oc okl okt osl oat fam ++ rest) → P (.str sx t) h')
    (k2 : km = kIo → (∀ r ∈ rows, b1 r ≠ kk) → ∀ h' od' sx t, key sx = [50, 51] → KS c kl kt sl at_ km ab nw rows od' oc okl okt osl oat fam →
      St g L h' l (ksL x dx c kl kt sl at_ od' oc okl okt osl oat fam ++ rest) → P (.str sx t) h')
    (k3 : km = kIo → ∀ i, placeI rows kk = (i : Nat) → i < rows.length → ∀ h' od' oc' osl' sx t, key sx = [48, 48] → KS c kl kt sl at_ km ab nw (rows.eraseIdx i) od' oc' okl okt osl' oat (fam.eraseIdx i) →
      St g L h' l (ksL x dx c kl kt sl at_ od' oc' okl okt osl' oat (fam.eraseIdx i) ++ rest) → P (.str sx t) h')
    : W w A (call (.ref 378) [.ref x, .bytes kk tk]) P h := by
  obtain ⟨hf, hr, hk, ht, ⟨vs, hs, hsf, hl⟩, hat⟩ := H
  unfold ksL at hp
  obtain ⟨cvs, hC, hb⟩ := id hr
  have hlc := hb.length
  obtain ⟨mx, tm, ax, ta, ns, t1, wt, rl, t2, hi, t3, hmx, hax, hF⟩ := id hf
  refine' w_def (binds := [(Str.ofString "self", .ref x), (Str.ofString "key", .bytes kk tk)]) S G hA hp ?ho ?hcd ?hbind ?hloc ?hks ?hl ?k ?hcell ?hco ?hgen ?hk
  k_extra "DEF"
  k_extra "SS"
  refine ⟨fun q => ?_, fun q => ?_⟩
  · k_extra "SS"
    exact ⟨_, _, ksL x dx c kl kt sl at_ _ _ _ _ _ _ fam, S.sel (by k_extra "pk"), fun S => k1 (by simpa using q) _ _ _ _ ls_49 ⟨hf, hr, hk, ht, ⟨vs, hs, hsf, hl⟩, hat⟩ S⟩
  · have hio : km = kIo := by simpa using q
    k_extra "SS"
    refine key_place S G (hA.le (by decide)) (by k_extra "pk") hf hr hk ht (by (first | lia | omega)) hbz ?_
    clear S
    intro h tp S
    k_extra "SI"
    k_extra "SS"
    refine ⟨fun q => ?_, fun q => ?_⟩
    · have hno := placeI_neg (rows := rows) (kk := kk) (by simp at q; (first | lia | omega))
      k_extra "SS"
      exact ⟨_, _, ksL x dx c kl kt sl at_ _ _ _ _ _ _ fam, S.sel (by k_extra "pk"), fun S => k2 hio hno _ _ _ _ ls_23 ⟨hf, hr, hk, ht, ⟨vs, hs, hsf, hl⟩, hat⟩ S⟩
    · obtain ⟨i, r, hpi, hir, hrb, -⟩ := placeI_nonneg (rows := rows) (kk := kk) (by simp at q; (first | lia | omega))
      rw [hpi] at S
      have hil : i < rows.length := by
        rcases Nat.lt_or_ge i rows.length with z | z
        · exact z
        · rw [List.getElem?_eq_none z] at hir; cases hir
      k_extra "SS"
      have hkf : KeyF c kl sl at_ km nw od := ⟨_, _, _, _, _, _, _, _, _, _, _, hmx, hax, hf⟩
      refine key_drop S G (hA.le (by decide)) (by k_extra "pk") hkf hr hs hl hil (by (first | lia | omega)) ?_
      clear S
      intro h oc' osl' hr' hs' S
      k_extra "SI"
      k_extra "SS"
      exact ⟨_, _, ksL x dx c kl kt sl at_ _ _ _ _ _ _ (fam.eraseIdx i), S.sel (by k_extra "pk"), fun S => k3 hio i hpi hil _ _ _ _ _ _ ls_00 ⟨hkf, hr', hk, ht, ⟨_, hs', hsf.erase i, by simp only [List.length_eraseIdx, hl]⟩, hat⟩ S⟩
end
end Key10

section Key11
theorem wordsKey111 : True := by
  (k_with "T11" => (
  have hlc' := hb'.length
  refine (it_range1 S hA.handled (by k_extra "mem") ha (by (first | lia | omega))).mono fun it h2 hi2 => comp_fam hi2 (by (first | lia | omega)) (fun i ys fam => A2 (SF fam ys) (ys.length = i)) ⟨.nil, rfl⟩ ?_ ?_
  · intro i v ys fam I oI oL D oD C h env hi hv hy hj e S
    obtain ⟨tv, rfl⟩ := hv
    obtain ⟨hsf, hyl⟩ := hj
    simp only [List.cons_append, List.nil_append, List.append_assoc, List.reverse_cons, List.reverse_nil] at S e
    k_extra "NL"
    k_extra "SS"
    refine l_mul S (by k_extra "mem") (vs := [.int i tv]) ⟨0, rfl⟩ (by (first | lia | omega)) (by simp) (by simp) ?_
    clear S
    intro s h os hos S
    have hos : IsL [.int i tv] os := by simpa using hos
    refine ⟨[], _, ?_, fam ++ [(s, os)], rfl, hsf.append hos, by simp [hyl]⟩
    k_extra "TE"
  · clear S
    intro ys fam D oD h hyl hj hyo S
    obtain ⟨hsf, hyl⟩ := hj
    k_extra "SI"
    have hkl' : IsL [.ref kt] okl := by simpa using hkl
    k_extra "SS"
    refine br_f (by simpa using hm) ?_
    k_extra "SS"
    exact ⟨_, _, ksL x dx c kl kt D a _ _ _ _ _ _ fam, S.sel (by k_extra "pk"), fun S => ⟨rfl, k _ _ _ _ _ _ _ _ _ _ _ _ _ _ _ hrw1 hrw2 ⟨⟨_, _, _, _, _, _, _, _, _, _, _, hmx, hax, hf⟩, ⟨_, hC', hb'⟩, hkl', ⟨_, _, rfl⟩, ⟨_, hyo, hsf, by rw [hyl]; exact hlc'⟩, ⟨_, _, _, rfl⟩⟩ S⟩⟩))
  trivial
section
variable {w : World} {A : Around} {h g : Heap} {env : Env} {L : Addr} {l : Loc} {led rest : Led}
theorem br_mid (Mid : Heap → Prop) {b : Bool} {body orelse : List Stmt} {K : Heap → Prop} {P : Flow → Heap → Prop} (h1 : b = true → W w A (execs body env) (Then Mid P) h) (h2 : b = false → W w A (execs orelse env) (Then Mid P) h) (k : ∀ h', Mid h' → K h') :
    (b = true → W w A (execs body env) (Then K P) h) ∧ (b = false → W w A (execs orelse env) (Then K P) h) := by
  have mm : ∀ f h', Then Mid P f h' → Then K P f h' := fun f h' x => by
    cases f with
    | next => exact k _ x
    | brk => exact x
    | cont => exact x
    | ret v => exact x
  exact ⟨fun e => (h1 e).mono mm, fun e => (h2 e).mono mm⟩
theorem key_make {c ka ea : Addr} {oc : Obj} {mx ax : Str} {tm ta t0 t1 : Tok} {km : List Nat} {rows : List (Array UInt8)} {P : Value → Heap → Prop}
    (S : St g L h l led) (G : Gd w g) (hA : Amb A 4) (hp : Pk [(c, oc), (ka, tupO [.int 0 t0, .int 1 t1]), (ea, tupO [])] led rest) (hmx : key mx = km) (hax : key ax = kDyn) (hr : IsR rows oc) (hz : rows.length ≤ 5) (hm : km ≠ kExt)
    (k : ∀ rows' h' x dx od oc' kl okl kt okt sl osl at_ oat fam, (km = kOut → rows' = []) → (km ≠ kOut → rows' = rows) → KS c kl kt sl at_ km #[] false rows' od oc' okl okt osl oat fam →
      St g L h' l (ksL x dx c kl kt sl at_ od oc' okl okt osl oat fam ++ rest) → P (.ref x) h')
    : W w A (call (.ref 381) [.ref c, .str mx tm, .str ax ta, .ref ka, .ref ea]) P h := by
  obtain ⟨cvs, hC, hb⟩ := id hr
  have hlc := hb.length
  refine w_class S G hA (cl_381 _) fun x dx h A hA S => ?_
  refine' c_defC (binds := [(Str.ofString "self", .ref x), (Str.ofString "content", .ref c), (Str.ofString "mode", .str mx tm), (Str.ofString "access", .str ax ta), (Str.ofString "key", .ref ka), (Str.ofString "alternates", .ref ea)])
    (bl := [(Str.ofString "content", .ref c), (Str.ofString "mode", .str mx tm), (Str.ofString "access", .str ax ta), (Str.ofString "key", .ref ka), (Str.ofString "alternates", .ref ea)]) (ns := [Str.ofString "self"]) S G hA (Pk.cons .head (Pk.cons .head hp)) ?ho ?hcd ?hbind ?hkind ?hnd ?hks ?hbl ?hl ?hns ?hm ?k ?hco ?hgen ?hk
  k_extra "DEFC"
  obtain ⟨cf, of, rfl, rfl, i1⟩ := X.one
  rw [nm_self] at e
  have i1 := IsC.to i1 (v' := some (.ref x)) (by rfl)
  clear X
  dsimp only [List.cons_append, List.nil_append] at S
  have hf : IsF [] (dictOf [] 0) := ⟨_, _, rfl, by simp, .nil⟩
  k_extra "NT"
  obtain ⟨kt, rfl⟩ : ∃ y, y = ft := ⟨ft, rfl⟩
  k_extra "NL"
  k_extra "SS"
  refine l_add S (by k_extra "mem") (vs := [.ref kt]) ⟨0, rfl⟩ (by k_extra "mem") hc (by simp) ?_
  clear S
  intro kl h okl hkl S
  k_extra "SS"
  refine br_f (by simpa using hm) ?_
  k_extra "SS"
  refine br_mid (fun h' => E3 fun rows' cvs' oc' => A6 (IsL cvs' oc') (BV cvs' rows') (rows'.length ≤ 5) (km = kOut → rows' = []) (km ≠ kOut → rows' = rows) (St g L h'
    [([97, 108, 116, 101, 114, 110, 97, 116, 101, 115], Value.ref ea), ([107, 101, 121], Value.ref ka), ([97, 99, 99, 101, 115, 115], Value.str ax ta), ([109, 111, 100, 101], Value.str mx tm), ([99, 111, 110, 116, 101, 110, 116], Value.ref c)]
    [(kl, okl), (kt, ({ cls := Value.type "tuple", data := Data.seq #[Value.int 0 t0, Value.int 1 t1, Value.bool false] } : Obj)), (cf, of), (x, instObj 381 dx), (dx, od), (c, oc')])) ?_ ?_ ?_
  · intro q
    k_extra "SS"
    exact ⟨[], [], _, hc, .nil, by simp, fun _ => rfl, fun z => absurd (by simpa using q) z, S.sel (by k_extra "pk")⟩
  · intro q
    k_extra "SS"
    exact ⟨rows, cvs, _, hC, hb, hz, fun z => absurd z (by simpa using q), fun _ => rfl, S.sel (by k_extra "pk")⟩
  clear S
  rintro h ⟨rows', cvs', oc', hC', hb', hz', hrw1, hrw2, S⟩
  have hlc2 := hb'.length
  k_extra "SS"
  have hlc' := hb'.length
  refine (it_range1 S hA.handled (by k_extra "mem") ha (by (first | lia | omega))).mono fun it h2 hi2 => comp_fam hi2 (by (first | lia | omega)) (fun i ys fam => A2 (SF fam ys) (ys.length = i)) ⟨.nil, rfl⟩ ?_ ?_
  · intro i v ys fam I oI oL D oD C h env hi hv hy hj e S
    obtain ⟨tv, rfl⟩ := hv
    obtain ⟨hsf, hyl⟩ := hj
    simp only [List.cons_append, List.nil_append, List.append_assoc, List.reverse_cons, List.reverse_nil] at S e
    k_extra "NL"
    k_extra "SS"
    refine l_mul S (by k_extra "mem") (vs := [.int i tv]) ⟨0, rfl⟩ (by (first | lia | omega)) (by simp) (by simp) ?_
    clear S
    intro s h os hos S
    have hos : IsL [.int i tv] os := by simpa using hos
    refine ⟨[], _, ?_, fam ++ [(s, os)], rfl, hsf.append hos, by simp [hyl]⟩
    k_extra "TE"
  · clear S
    intro ys fam D oD h hyl hj hyo S
    obtain ⟨hsf, hyl⟩ := hj
    k_extra "SI"
    have hkl' : IsL [.ref kt] okl := by simpa using hkl
    k_extra "SS"
    refine br_f (by simpa using hm) ?_
    k_extra "SS"
    exact ⟨_, _, ksL x dx c kl kt D a _ _ _ _ _ _ fam, S.sel (by k_extra "pk"), fun S => ⟨rfl, k _ _ _ _ _ _ _ _ _ _ _ _ _ _ _ hrw1 hrw2 ⟨⟨_, _, _, _, _, _, _, _, _, _, _, hmx, hax, hf⟩, ⟨_, hC', hb'⟩, hkl', ⟨_, _, rfl⟩, ⟨_, hyo, hsf, by rw [hyl]; exact hlc'⟩, ⟨_, _, _, rfl⟩⟩ S⟩⟩
end
end Key11

section Sh0
abbrev kFiles : List Nat := [102, 105, 108, 101, 115]
def hd1 (b : Array UInt8) : Int := ((b.toList.headD 0).toNat : Int)
def relRows (d : RowsT) : List (Int × Array UInt8) := d.map fun b => (hd1 b, b)
structure ContOK (w : World) (k : List Nat) (d : RowsT) (ca : Addr) (oc : Obj) : Prop where
  rel : k = kRel → RelC w (relRows d) ca oc
  row : k ≠ kRel → IsR d oc
def ES (w : World) : Ent := fun k d v fe => ∃ ta ca x t oc, v = .ref ta ∧ key x = k ∧ fe = [(ta, tupO [.str x t, .ref ca]), (ca, oc)] ∧ ContOK w k d ca oc
def EFl : Ent := fun _ d v fe => ∃ a o, v = .ref a ∧ fe = [(a, o)] ∧ IsR d o
inductive Sh (w : World) (x : Addr) (f : FF) (sl : Led) : Prop
  | mk (dx : Addr) (od : Obj) (fl : Addr) (ofl : Obj) (kvs : List (Str × Value)) (fam : Led) (p1 : sl.Perm ((x, instObj 137 dx) :: (dx, od) :: (fl, ofl) :: fam)) (p2 : IsF [(kFiles, .ref fl)] od) (p3 : IsD (PySem.strKind PG w) kvs fl ofl) (p4 : GX (ES w) kvs f fam)
def Hole (w : World) (x : Addr) (k : List Nat) (f : FF) (ca : Addr) (sl : Led) : Prop := ∀ d oc, ContOK w k d ca oc → Sh w x (upd f k d) ((ca, oc) :: sl)
inductive Fs (w : World) (d : Addr) (f : FF) (sl : Led) : Prop
  | mk (o : Obj) (kvs : List (Str × Value)) (fam : Led) (p1 : sl.Perm ((d, o) :: fam)) (p2 : IsD (PySem.strKind PG w) kvs d o) (p3 : GX EFl kvs f fam)
def FHole (w : World) (d : Addr) (k : List Nat) (f : FF) (ca : Addr) (sl : Led) : Prop := ∀ rows oc, IsR rows oc → Fs w d (upd f k rows) ((ca, oc) :: sl)
theorem upd_upd (f : FF) (k : List Nat) (d d' : RowsT) : upd (upd f k d) k d' = upd f k d' := by
  funext k'
  unfold upd
  split <;> rfl
theorem upd_at (f : FF) (k : List Nat) (d : RowsT) : upd f k d k = some d := by unfold upd; rw [if_pos rfl]
theorem Pk.re {fp fp' led rest : Led} (p : fp'.Perm fp) (H : Pk fp led rest) : Pk fp' led rest := List.Perm.trans H (p.symm.append_right rest)
theorem isD_nodup {w : World} {kvs : List (Str × Value)} {d : Addr} {o : Obj} (H : IsD (PySem.strKind PG w) kvs d o) : (kvs.map (·.1)).Nodup := by
  obtain ⟨_, es, ep, _, _, _, _, hn⟩ := H
  exact hn
theorem perm_at4 {a b c d e : Addr × Obj} {r : Led} : (a :: b :: c :: d :: e :: r).Perm (e :: a :: b :: c :: d :: r) := List.perm_middle (l₁ := [a, b, c, d])
theorem Sh.open {w : World} {x : Addr} {f : FF} {sl : Led} (H : Sh w x f sl) {k : List Nat} {d : RowsT} (hk : f k = some d) :
    ∃ dx od fl ofl kvs ta ca y t oc fam', sl.Perm ((x, instObj 137 dx) :: (dx, od) :: (fl, ofl) :: (ta, tupO [.str y t, .ref ca]) :: (ca, oc) :: fam') ∧ IsF [(kFiles, .ref fl)] od ∧ IsD (PySem.strKind PG w) kvs fl ofl ∧
      valueAt kvs (stO k) = some (.ref ta) ∧ key y = k ∧ ContOK w k d ca oc ∧ Hole w x k f ca ((x, instObj 137 dx) :: (dx, od) :: (fl, ofl) :: (ta, tupO [.str y t, .ref ca]) :: fam') := by
  obtain ⟨dx, od, fl, ofl, kvs, fam, hp, hf, hd, hg⟩ := H
  obtain ⟨v, fe, fam', ⟨ta, ca, y, t, oc, rfl, hy, rfl, hc⟩, hv, hpp, hs⟩ := hg.at hk
  refine ⟨dx, od, fl, ofl, kvs, ta, ca, y, t, oc, fam', hp.trans ?_, hf, hd, hv, hy, hc, fun d' oc' hc' => ?_⟩
  · exact ((hpp.cons _).cons _).cons _
  · refine ⟨dx, od, fl, ofl, kvs, _, ?_, hf, hd, hs d' _ ⟨ta, ca, y, t, oc', rfl, hy, rfl, hc'⟩⟩
    have e : ((ca, oc') :: (x, instObj 137 dx) :: (dx, od) :: (fl, ofl) :: (ta, tupO [.str y t, .ref ca]) :: fam') = [(ca, oc')] ++ ((x, instObj 137 dx) :: (dx, od) :: (fl, ofl) :: [(ta, tupO [.str y t, .ref ca])]) ++ fam' := rfl
    rw [e]
    exact (List.perm_append_comm (l₁ := [(ca, oc')])).append_right fam'
mutual
inductive LV (led : Led) : Value → PD → Prop
  | none : LV led .none .none
  | int {i t} : LV led (.int i t) (.int i)
  | str {x t k} : key x = k → LV led (.str x t) (.str k)
  | bytes {b t} : LV led (.bytes b t) (.bytes b)
  | tup {a vs ds} : (a, tupO vs) ∈ led → LVs led vs ds → LV led (.ref a) (.tup ds)
inductive LVs (led : Led) : List Value → List PD → Prop
  | nil : LVs led [] []
  | cons {v vs d ds} : LV led v d → LVs led vs ds → LVs led (v :: vs) (d :: ds)
end
theorem LVs.mono {led led' : Led} (h : ∀ q ∈ led, q ∈ led') {vs ds} (H : LVs led vs ds) : LVs led' vs ds :=
  LVs.rec (motive_1 := fun v d _ => LV led' v d) (motive_2 := fun vs ds _ => LVs led' vs ds) .none .int (fun e => .str e) .bytes (fun m _ i => .tup (h _ m) i) .nil (fun _ _ a b => .cons a b) H
theorem LVs.dv {g : Heap} {L : Addr} {h : Heap} {l : Loc} {led led' : Led} (S : St g L h l led') (hm : ∀ q ∈ led, q ∈ led') {vs ds} (H : LVs led vs ds) : DVs h vs ds :=
  LVs.rec (motive_1 := fun v d _ => DV h v d) (motive_2 := fun vs ds _ => DVs h vs ds) .none .int (fun e => .str e) .bytes (fun m _ i => .tup (tupO_at (S.get (hm _ m))) i) .nil (fun _ _ a b => .cons a b) H
theorem LVs.append {led : Led} {vs ds} (H : LVs led vs ds) {v d} (k : LV led v d) : LVs led (vs ++ [v]) (ds ++ [d]) :=
  LVs.rec (motive_1 := fun _ _ _ => True) (motive_2 := fun vs ds _ => LVs led (vs ++ [v]) (ds ++ [d])) trivial trivial (fun _ => trivial) trivial (fun _ _ _ => trivial) (.cons k .nil) (fun a _ _ b => .cons a b) H
theorem BV.lvs {led : Led} {vs rows} (H : BV vs rows) : LVs led vs (rows.map PD.bytes) := by
  induction H with
  | nil => exact .nil
  | cons h _ ih => obtain ⟨t, rfl⟩ := h; exact .cons .bytes ih
inductive NV : Led → List Value → RowsT → Prop
  | nil : NV [] [] []
  | cons {a t b u fam vs bs} : NV fam vs bs → NV ((a, tupO [.int (hd1 b) t, .bytes b u]) :: fam) (.ref a :: vs) (b :: bs)
theorem NV.append {fam vs bs} (H : NV fam vs bs) {a t b u} : NV (fam ++ [(a, tupO [.int (hd1 b) t, .bytes b u])]) (vs ++ [.ref a]) (bs ++ [b]) := by
  induction H with
  | nil => exact .cons .nil
  | cons _ ih => exact .cons ih
theorem NV.length {fam vs bs} (H : NV fam vs bs) : vs.length = bs.length := by
  induction H with
  | nil => rfl
  | cons _ ih => simp [ih]
theorem NV.at {fam vs bs} (H : NV fam vs bs) : ∀ {i : Nat} {v : Value}, vs[i]? = some v → ∃ a b t u, v = .ref a ∧ bs[i]? = some b ∧ (a, tupO [.int (hd1 b) t, .bytes b u]) ∈ fam := by
  induction H with
  | nil => intro i v e; simp at e
  | @cons a t b u fam vs bs _ ih =>
    intro i v e
    cases i with
    | zero => simp at e; exact ⟨a, b, t, u, e.symm, rfl, .head _⟩
    | succ i => obtain ⟨a', b', t', u', h1, h2, h3⟩ := ih (by simpa using e); exact ⟨a', b', t', u', h1, by simpa using h2, .tail _ h3⟩
def nvPD (bs : RowsT) : List PD := bs.map fun b => .tup [.int (hd1 b), .bytes b]
theorem NV.lvs {fam vs bs} (H : NV fam vs bs) : LVs fam vs (nvPD bs) := by
  induction H with
  | nil => exact .nil
  | cons _ ih => exact .cons (.tup (.head _) (.cons .int (.cons .bytes .nil))) (ih.mono fun q h => .tail _ h)
def sortR (d : RowsT) : RowsT := d.mergeSort fun a b => decide (hd1 a ≤ hd1 b)
theorem sortR_perm (d : RowsT) : (sortR d).Perm d := List.mergeSort_perm _ _
theorem sortR_of {d s : RowsT} (hp : s.Perm d) (hs : (s.map hd1).Pairwise (· < ·)) : s = sortR d := by
  have hsp : (sortR d).Pairwise fun a b => decide (hd1 a ≤ hd1 b) = true := List.pairwise_mergeSort (fun a b c h1 h2 => by simp only [decide_eq_true_eq] at *; (first | lia | omega)) (fun a b => by simp only [Bool.or_eq_true, decide_eq_true_eq]; (first | lia | omega)) d
  have hs' : s.Pairwise fun a b => hd1 a < hd1 b := List.pairwise_map.mp hs
  refine List.Perm.eq_of_pairwise (le := fun a b => hd1 a ≤ hd1 b) (fun a b ha hb h h' => ?_) (hs'.imp fun h => by (first | lia | omega)) (hsp.imp fun h => of_decide_eq_true h) (hp.trans (sortR_perm d).symm)
  have e : hd1 a = hd1 b := by (first | lia | omega)
  have hb' : b ∈ s := hp.mem_iff.mpr ((sortR_perm d).mem_iff.mp hb)
  refine Classical.byContradiction fun hne => ?_
  obtain ⟨i, hi, ea⟩ := List.getElem_of_mem ha
  obtain ⟨j, hj, eb⟩ := List.getElem_of_mem hb'
  have hp2 := List.pairwise_iff_getElem.mp hs'
  rcases Nat.lt_trichotomy i j with z | z | z
  · have := hp2 i j hi hj z; rw [ea, eb] at this; (first | lia | omega)
  · subst z; exact hne (ea.symm.trans eb)
  · have := hp2 j i hj hi z; rw [ea, eb] at this; (first | lia | omega)
theorem sortR_strict {d : RowsT} (hn : (d.map hd1).Nodup) : ((sortR d).map hd1).Pairwise (· < ·) := by
  have hsp : (sortR d).Pairwise fun a b => decide (hd1 a ≤ hd1 b) = true := List.pairwise_mergeSort (fun a b c h1 h2 => by simp only [decide_eq_true_eq] at *; (first | lia | omega)) (fun a b => by simp only [Bool.or_eq_true, decide_eq_true_eq]; (first | lia | omega)) d
  have hn2 : ((sortR d).map hd1).Pairwise (· ≠ ·) := ((sortR_perm d).map hd1).nodup_iff.mpr hn
  rw [List.pairwise_map] at hn2 ⊢
  exact (List.Pairwise.and hsp hn2).imp fun h => by have h1 := of_decide_eq_true h.1; have h2 := h.2; (first | lia | omega)
theorem sortR_congr {d d' : RowsT} (hp : d.Perm d') (hn : (d.map hd1).Nodup) : sortR d = sortR d' := sortR_of ((sortR_perm d).trans hp) (sortR_strict hn)
def rowsPD (k : List Nat) (d : RowsT) : PD := if k = kRel then .tup (nvPD (sortR d)) else .tup (d.map PD.bytes)
def onePD (f : FF) (k : List Nat) : PD := .tup [.str k, .str k, rowsPD k ((f k).getD [])]
end Sh0

section Sh1
theorem Pk.less {a fam old fam' led rest : Led} (H : Pk (a ++ fam) led rest) (p : fam.Perm (old ++ fam')) : Pk (a ++ fam') led (old ++ rest) := by
  unfold Pk at *
  refine H.trans ?_
  rw [List.append_assoc, List.append_assoc]
  refine List.Perm.append_left a ((p.append_right rest).trans ?_)
  rw [List.append_assoc, ← List.append_assoc, ← List.append_assoc]
  exact List.perm_append_comm.append_right rest
theorem begin_hole {w : World} {x dx fl ta ca : Addr} {f : FF} {kk : List Nat} {od oc : Obj} {kvs : List (Str × Value)} {fam : Led} {y : Str} {tk : Tok} (hg : GX (ES w) kvs f fam) (hk : kk ∈ kinds3) (hy : key y = kk)
    (hf : IsF [(kFiles, .ref fl)] od) (hd : IsD (PySem.strKind PG w) (stored kvs (stO kk) (.ref ta)) fl oc) :
    ∃ old fam', fam.Perm (old ++ fam') ∧ Hole w x kk f ca ((x, instObj 137 dx) :: (dx, od) :: (fl, oc) :: (ta, tupO [.str y tk, .ref ca]) :: fam') := by
  obtain ⟨old, fam', hp, hs⟩ := hg.set hk (isD_nodup hd)
  refine ⟨old, fam', hp, fun d oc' hc' => ⟨dx, od, fl, oc, _, _, ?_, hf, hd, hs d _ ⟨ta, ca, y, tk, oc', rfl, hy, rfl, hc'⟩⟩⟩
  exact (perm_at4 (e := (ca, oc'))).symm
section
variable {w : World} {A : Around} {h g : Heap} {env : Env} {L : Addr} {l : Loc} {led rest : Led}
theorem shelf_make {P : Value → Heap → Prop}
    (S : St g L h l led) (G : Gd w g) (hA : Amb A 3)
    (k : ∀ h' x sl, Sh w x (fun _ => none) sl → St g L h' l (sl ++ led) → P (.ref x) h')
    : W w A (call (.ref 137) []) P h := by
  refine w_class S G hA (cl_137 _) fun x dx h A hA S => ?_
  refine' c_def (binds := [(Str.ofString "self", .ref x)]) S G hA (Pk.cons .head (Pk.cons .head Pk.nil)) ?ho ?hcd ?hbind ?hloc ?hks ?hl ?k ?hcell ?hco ?hgen ?hk
  k_extra "DEF"
  have hf : IsF [] (dictOf [] 0) := ⟨_, _, rfl, by simp, .nil⟩
  k_extra "SS"
  exact ⟨_, _, [(x, _), (dx, _), (a, _)], S.sel (by k_extra "pk"), fun S => ⟨rfl, k _ _ _ ⟨dx, _, a, _, [], [], .refl _, hf, hd _, .nil⟩ S⟩⟩
theorem shelf_paths {x : Addr} {f : FF} {sl : Led} {P : Value → Heap → Prop}
    (S : St g L h l led) (G : Gd w g) (hA : Amb A 2) (hp : Pk sl led rest) (H : Sh w x f sl)
    (k : ∀ h' a o vs, IsL vs o → SV vs (pl f) → St g L h' l ((a, o) :: sl ++ rest) → P (.ref a) h')
    : W w A (call (.ref 84) [.ref x]) P h := by
  obtain ⟨dx, od, fl, ofl, kvs, fam, hpe, hf, hd, hg⟩ := H
  have hp' : Pk ((x, instObj 137 dx) :: (dx, od) :: (fl, ofl) :: fam) led rest := Pk.re hpe.symm hp
  refine' w_def (binds := [(Str.ofString "self", .ref x)]) S G hA hp' ?ho ?hcd ?hbind ?hloc ?hks ?hl ?k ?hcell ?hco ?hgen ?hk
  k_extra "DEF"
  k_extra "SS"
  refine q_sortedD S hA.handled (by k_extra "mem") hd PyProof.Rows.strKind_oneLt (fun us hu => (keysAre_sv hu).sortable) (by have := hg.len; (first | lia | omega)) fun a h o us vs hu hl hpp hs S => ?_
  k_extra "SS"
  exact ⟨_, _, (a, _) :: sl, S.sel (Pk.re (hpe.cons _) (by k_extra "pk")), fun S => k _ _ _ _ hl (hg.sorted hu hpp hs) S⟩
theorem shelf_kind {x : Addr} {f : FF} {sl : Led} {kk : List Nat} {d : RowsT} {tp : Tok} {P : Value → Heap → Prop}
    (S : St g L h l led) (G : Gd w g) (hA : Amb A 2) (hp : Pk sl led rest) (H : Sh w x f sl) (hk : f kk = some d)
    (k : ∀ h' y t, key y = kk → St g L h' l (sl ++ rest) → P (.str y t) h')
    : W w A (call (.ref 91) [.ref x, .str (stO kk) tp]) P h := by
  obtain ⟨dx, od, fl, ofl, kvs, ta, ca, y, t, oc, fam, hpe, hf, hd, hv, hy, hc, -⟩ := H.open hk
  have hp' : Pk ((x, instObj 137 dx) :: (dx, od) :: (fl, ofl) :: (ta, tupO [.str y t, .ref ca]) :: (ca, oc) :: fam) led rest := Pk.re hpe.symm hp
  refine' w_def (binds := [(Str.ofString "self", .ref x), (Str.ofString "path", .str (stO kk) tp)]) S G hA hp' ?ho ?hcd ?hbind ?hloc ?hks ?hl ?k ?hcell ?hco ?hgen ?hk
  k_extra "DEF"
  k_extra "SS"
  refine br_t (by rw [hv]; rfl) ?_
  k_extra "SS"
  exact ⟨_, _, sl, S.sel (Pk.re hpe (by k_extra "pk")), fun S => k _ _ _ hy S⟩
theorem shelf_content {x : Addr} {f : FF} {sl : Led} {kk : List Nat} {d : RowsT} {tp : Tok} {P : Value → Heap → Prop}
    (S : St g L h l led) (G : Gd w g) (hA : Amb A 2) (hp : Pk sl led rest) (H : Sh w x f sl) (hk : f kk = some d)
    (k : ∀ h' ca oc sl', sl.Perm ((ca, oc) :: sl') → ContOK w kk d ca oc → Hole w x kk f ca sl' → St g L h' l ((ca, oc) :: sl' ++ rest) → P (.ref ca) h')
    : W w A (call (.ref 98) [.ref x, .str (stO kk) tp]) P h := by
  obtain ⟨dx, od, fl, ofl, kvs, ta, ca, y, t, oc, fam, hpe, hf, hd, hv, hy, hc, hh⟩ := H.open hk
  have hp' : Pk ((x, instObj 137 dx) :: (dx, od) :: (fl, ofl) :: (ta, tupO [.str y t, .ref ca]) :: (ca, oc) :: fam) led rest := Pk.re hpe.symm hp
  refine' w_def (binds := [(Str.ofString "self", .ref x), (Str.ofString "path", .str (stO kk) tp)]) S G hA hp' ?ho ?hcd ?hbind ?hloc ?hks ?hl ?k ?hcell ?hco ?hgen ?hk
  k_extra "DEF"
  k_extra "SS"
  refine br_f (by rw [hv]; rfl) ?_
  k_extra "SS"
  exact ⟨_, _, (ca, _) :: (x, _) :: (dx, _) :: (fl, _) :: (ta, _) :: fam, S.sel (by k_extra "pk"), fun S => k _ _ _ _ (hpe.trans perm_at4) hc hh S⟩
theorem shelf_begin {x : Addr} {f : FF} {sl : Led} {kk : List Nat} {tp tk : Tok} {y : Str} {P : Value → Heap → Prop}
    (S : St g L h l led) (G : Gd w g) (hA : Amb A 2) (hp : Pk sl led rest) (H : Sh w x f sl) (hk : kk ∈ kinds3) (hy : key y = kk)
    (k : ∀ h' ca oc sl', ContOK w kk [] ca oc → Hole w x kk f ca sl' → St g L h' l ((ca, oc) :: sl' ++ rest) → P (.ref ca) h')
    : W w A (call (.ref 105) [.ref x, .str (stO kk) tp, .str y tk]) P h := by
  obtain ⟨dx, od, fl, ofl, kvs, fam, hpe, hf, hd, hg⟩ := H
  have hp' : Pk ((x, instObj 137 dx) :: (dx, od) :: (fl, ofl) :: fam) led rest := Pk.re hpe.symm hp
  have hlen := hg.len
  refine' w_def (binds := [(Str.ofString "self", .ref x), (Str.ofString "path", .str (stO kk) tp), (Str.ofString "kind", .str y tk)]) S G hA hp' ?ho ?hcd ?hbind ?hloc ?hks ?hl ?k ?hcell ?hco ?hgen ?hk
  k_extra "DEF"
  k_extra "SS"
  refine br_f (by rcases kinds3_cases hk with rfl | rfl | rfl <;> rfl) ?_
  k_extra "SS"
  refine ⟨fun q => ?_, fun q => ?_⟩
  · have hrel : kk = kRel := by simpa using q
    k_extra "SS"
    rename_i ca _ _ _
    obtain ⟨old, fam', hpm, hh⟩ := begin_hole (x := x) (dx := dx) (ca := ca) (tk := tk) hg hk hy hf hc
    exact ⟨_, _, (ca, _) :: (x, _) :: (dx, _) :: (fl, _) :: (a, _) :: fam', S.sel (Pk.less (a := [(ca, _), (x, _), (dx, _), (fl, _), (a, _)]) (by simp only [List.cons_append, List.nil_append]; k_extra "pk") hpm), fun S => k _ _ _ _ ⟨fun _ => ⟨[], hd _, .nil⟩, fun z => absurd hrel z⟩ hh S⟩
  · have hrel : kk ≠ kRel := by simpa using q
    k_extra "SS"
    rename_i ca _ _ _
    obtain ⟨old, fam', hpm, hh⟩ := begin_hole (x := x) (dx := dx) (ca := ca) (tk := tk) hg hk hy hf hc
    exact ⟨_, _, (ca, _) :: (x, _) :: (dx, _) :: (fl, _) :: (a, _) :: fam', S.sel (Pk.less (a := [(ca, _), (x, _), (dx, _), (fl, _), (a, _)]) (by simp only [List.cons_append, List.nil_append]; k_extra "pk") hpm), fun S => k _ _ _ _ ⟨fun z => absurd z hrel, fun _ => ⟨[], ⟨0, rfl⟩, .nil⟩⟩ hh S⟩
end
end Sh1

section Sh2
theorem Sh.mem {w : World} {x : Addr} {f : FF} {sl : Led} (H : Sh w x f sl) : ∃ dx od fl, (x, instObj 137 dx) ∈ sl ∧ (dx, od) ∈ sl ∧ IsF [(kFiles, .ref fl)] od := by
  obtain ⟨dx, od, fl, ofl, kvs, fam, hp, hf, hd, hg⟩ := H
  exact ⟨dx, od, fl, hp.mem_iff.mpr (by simp), hp.mem_iff.mpr (by simp), hf⟩
section
variable {w : World} {A : Around} {h g : Heap} {env : Env} {L : Addr} {l : Loc} {led rest : Led}
theorem shelf_opened1 {x : Addr} {f : FF} {sl : Led} {kk km : List Nat} {tp tk tm : Tok} {y mx : Str} {P : Value → Heap → Prop}
    (S : St g L h l led) (G : Gd w g) (hA : Amb A 3) (hp : Pk sl led rest) (H : Sh w x f sl) (hk : kk ∈ kinds3) (hy : key y = kk) (hmx : key mx = km) (hm : km = kOut)
    (k1 : km = kOut → ∀ h' a ca oc sl' sx t, key sx = [48, 48] → ContOK w kk [] ca oc → Hole w x kk f ca sl' → St g L h' l ((a, tupO [.str sx t, .ref ca]) :: (ca, oc) :: sl' ++ rest) → P (.ref a) h')
    : W w A (call (.ref 117) [.ref x, .str (stO kk) tp, .str y tk, .str mx tm]) P h := by
  obtain ⟨dx, od, fl, hx, hdx, hf⟩ := H.mem
  refine' w_def (binds := [(Str.ofString "self", .ref x), (Str.ofString "path", .str (stO kk) tp), (Str.ofString "kind", .str y tk), (Str.ofString "mode", .str mx tm)]) S G hA hp ?ho ?hcd ?hbind ?hloc ?hks ?hl ?k ?hcell ?hco ?hgen ?hk
  k_extra "DEF"
  k_extra "SS"
  refine br_t (by simpa using hm) ?_
  k_extra "SS"
  refine shelf_begin S G (hA.le (by decide)) (by k_extra "pk") H hk hy ?_
  clear S
  intro h ca oc sl' hc hh S
  k_extra "SI"
  k_extra "SS"
  exact ⟨_, _, (a, _) :: (ca, _) :: sl', S.sel (by k_extra "pk"), fun S => k1 hm _ _ _ _ _ _ _ ls_00 hc hh S⟩
theorem shelf_opened2 {x : Addr} {f : FF} {sl : Led} {kk km : List Nat} {tp tk tm : Tok} {y mx : Str} {P : Value → Heap → Prop}
    (S : St g L h l led) (G : Gd w g) (hA : Amb A 3) (hp : Pk sl led rest) (H : Sh w x f sl) (hk : kk ∈ kinds3) (hy : key y = kk) (hmx : key mx = km) (hm : ¬ km = kOut)
    (k2 : km ≠ kOut → f kk = none → ∀ h' a sx t, key sx = [51, 53] → St g L h' l ((a, tupO [.str sx t, .none]) :: sl ++ rest) → P (.ref a) h')
    (k3 : km ≠ kOut → ∀ d, f kk = some d → ∀ h' a ca oc sl' sx t, key sx = [48, 48] → ContOK w kk d ca oc → Hole w x kk f ca sl' → St g L h' l ((a, tupO [.str sx t, .ref ca]) :: (ca, oc) :: sl' ++ rest) → P (.ref a) h')
    : W w A (call (.ref 117) [.ref x, .str (stO kk) tp, .str y tk, .str mx tm]) P h := by
  obtain ⟨dx, od, fl, ofl, kvs, fam, hpe, hf, hd, hg⟩ := id H
  have hp' : Pk ((x, instObj 137 dx) :: (dx, od) :: (fl, ofl) :: fam) led rest := Pk.re hpe.symm hp
  refine' w_def (binds := [(Str.ofString "self", .ref x), (Str.ofString "path", .str (stO kk) tp), (Str.ofString "kind", .str y tk), (Str.ofString "mode", .str mx tm)]) S G hA hp' ?ho ?hcd ?hbind ?hloc ?hks ?hl ?k ?hcell ?hco ?hgen ?hk
  k_extra "DEF"
  k_extra "SS"
  refine br_f (by simpa using hm) ?_
  k_extra "SS"
  rw [hg.has]
  cases hfk : f kk with
  | none =>
    refine br_t (by simp) ?_
    k_extra "SS"
    exact ⟨_, _, (_, _) :: sl, S.sel (Pk.re (hpe.cons _) (by k_extra "pk")), fun S => k2 hm hfk _ _ _ _ ls_35 S⟩
  | some d =>
    refine br_f (by simp) ?_
    k_extra "SS"
    refine shelf_kind S G (hA.le (by decide)) (Pk.re hpe (by k_extra "pk")) H hfk ?_
    clear S
    intro h y2 t2 hy2 S
    obtain ⟨dx, od, fl, hx, hdx, hf⟩ := H.mem
    k_extra "SS"
    refine br_f (by simp) ?_
    k_extra "SS"
    refine shelf_content S G (hA.le (by decide)) (by k_extra "pk") H hfk ?_
    clear S
    intro h ca oc sl' hsl hc hh S
    k_extra "SI"
    k_extra "SS"
    exact ⟨_, _, (a, _) :: (ca, _) :: sl', S.sel (by k_extra "pk"), fun S => k3 hm d hfk _ _ _ _ _ _ _ ls_00 hc hh S⟩
end
end Sh2

section Sh3
def RV (kk : List Nat) (d : RowsT) (vs : List Value) (fam : Led) : Prop := (kk = kRel → NV fam vs (sortR d)) ∧ (kk ≠ kRel → fam = [] ∧ BV vs d)
theorem RV.lv {kk : List Nat} {d : RowsT} {vs : List Value} {fam : Led} (H : RV kk d vs fam) : ∃ ds, rowsPD kk d = .tup ds ∧ LVs fam vs ds := by
  by_cases h : kk = kRel
  · exact ⟨_, by unfold rowsPD; rw [if_pos h], (H.1 h).lvs⟩
  · obtain ⟨rfl, hb⟩ := H.2 h
    exact ⟨_, by unfold rowsPD; rw [if_neg h], hb.lvs⟩
theorem relRows_keys (d : RowsT) : (relRows d).map (·.1) = d.map hd1 := by unfold relRows; rw [List.map_map]; rfl
theorem relRows_mem {d : RowsT} {b : Array UInt8} (h : b ∈ d) : (hd1 b, b) ∈ relRows d := List.mem_map.mpr ⟨b, h, rfl⟩
theorem sorted_keys {d : RowsT} {ns : List Int} (hn : (d.map hd1).Nodup) (hp : ns.Perm (d.map hd1)) (hs : ns.Pairwise (· ≤ ·)) : ns = (sortR d).map hd1 :=
  List.Perm.eq_of_pairwise (le := (· ≤ ·)) (fun a b _ _ h h' => by (first | lia | omega)) hs ((sortR_strict hn).imp fun h => by (first | lia | omega)) (hp.trans ((sortR_perm d).map hd1).symm)
section
variable {w : World} {A : Around} {h g : Heap} {env : Env} {L : Addr} {l : Loc} {led rest : Led}
theorem shelf_rows {x : Addr} {f : FF} {sl : Led} {kk : List Nat} {d : RowsT} {tp : Tok} {P : Value → Heap → Prop}
    (S : St g L h l led) (G : Gd w g) (hA : Amb A 3) (hp : Pk sl led rest) (H : Sh w x f sl) (hk : f kk = some d) (hz : d.length < 60)
    (k : ∀ h' a vs fam, RV kk d vs fam → St g L h' l ((a, tupO vs) :: fam ++ sl ++ rest) → P (.ref a) h')
    : W w A (call (.ref 122) [.ref x, .str (stO kk) tp]) P h := by
  obtain ⟨dx, od, fl, hx, hdx, hf⟩ := H.mem
  refine w_ofC ?_
  refine' c_defC (binds := [(Str.ofString "self", .ref x), (Str.ofString "path", .str (stO kk) tp)]) (bl := [(Str.ofString "self", .ref x), (Str.ofString "path", .str (stO kk) tp)]) (ns := [Str.ofString "content"]) S G hA hp ?ho ?hcd ?hbind ?hkind ?hnd ?hks ?hbl ?hl ?hns ?hm ?k ?hco ?hgen ?hk
  k_extra "DEFC"
  obtain ⟨cf, of, rfl, rfl, i1⟩ := X.one
  rw [nm_content] at e
  have i1 := IsC.to i1 (v' := none) (by rfl)
  clear X
  dsimp only [List.cons_append, List.nil_append] at S
  k_extra "SS"
  refine shelf_content S G (hA.le (by decide)) (by k_extra "pk") H hk ?_
  clear S
  intro h ca ox sl' hsl hcx hh S
  have S := S.perm (hsl.symm.append_right _)
  have hca : (ca, ox) ∈ sl := hsl.mem_iff.mpr (.head _)
  k_extra "SS"
  refine shelf_kind S G (hA.le (by decide)) (by k_extra "pk") H hk ?_
  clear S
  intro h y t hy S
  k_extra "SS"
  refine ⟨fun q => ?_, fun q => ?_⟩
  · have hrel : kk = kRel := by simpa using q
    have hrc := hcx.rel hrel
    have hnd : (d.map hd1).Nodup := by have := hrc.nodup; rw [relRows_keys] at this; exact this
    k_extra "SS"
    refine rel_sorted S hA.handled (by k_extra "mem") hrc (by unfold relRows; simpa using hz) ?_
    clear S
    intro lo h olo vs ns hlo hints hperm hsort S
    rw [relRows_keys] at hperm
    have hns := sorted_keys hnd hperm hsort
    have hvl : vs.length = d.length := by rw [hints.length, hns, List.length_map, (sortR_perm d).length_eq]
    refine (it_list S hA.handled (by k_extra "pk") hlo).mono fun it h2 hi2 => comp_fam hi2 ?_ (fun i ys fam => NV fam ys ((sortR d).take i)) .nil ?_ ?_
    · (first | lia | omega)
    · intro i v ys fam I oI oL D oD C h env hi hv hy hj e S
      obtain ⟨n, tn, rfl, hn⟩ := IntsAre.at hints i v hv
      have hin : i < (sortR d).length := by
        rw [hns] at hn
        rcases Nat.lt_or_ge i (sortR d).length with z | z
        · exact z
        · rw [List.getElem?_eq_none (by simpa using z)] at hn; cases hn
      have hnn : n = hd1 ((sortR d)[i]) := by
        rw [hns] at hn
        rw [List.getElem?_map, List.getElem?_eq_getElem hin] at hn
        simpa using hn.symm
      subst hnn
      have hmem := relRows_mem ((sortR_perm d).mem_iff.mp (List.getElem_mem hin))
      obtain ⟨kvs, hdc, hkv⟩ := id hrc
      obtain ⟨tb, hvb⟩ := hkv.at hrc.nodup hmem
      simp only [List.cons_append, List.nil_append, List.append_assoc, List.append_eq, List.reverse_cons, List.reverse_nil] at S e
      k_extra "SS"
      have e1 : (sortR d).take (i + 1) = (sortR d).take i ++ [(sortR d)[i]] := by rw [List.take_add_one, List.getElem?_eq_getElem hin]; rfl
      refine ⟨[], _, ?_, fam ++ [(a, tupO [.int (hd1 (sortR d)[i]) tn, .bytes (sortR d)[i] tb])], rfl, by rw [e1]; exact hj.append⟩
      simp only [List.append_eq]
      k_extra "TE"
    · clear S
      intro ys fam D oD h hyl hj hyo S
      simp only [List.cons_append, List.nil_append, List.append_assoc, List.append_eq] at S
      k_extra "SS"
      have e1 : (sortR d).take vs.length = sortR d := List.take_of_length_le (by rw [hvl, (sortR_perm d).length_eq]; exact Nat.le_refl _)
      rw [e1] at hj
      exact ⟨_, _, (a, _) :: (fam ++ sl), S.sel (by k_extra "pk"), fun S => k _ _ _ fam ⟨fun _ => hj, fun z => absurd hrel z⟩ (by simpa using S)⟩
  · have hrel : kk ≠ kRel := by simpa using q
    obtain ⟨vs, hl', hb⟩ := hcx.row hrel
    have hlb := hb.length
    k_extra "SS"
    exact ⟨_, _, (a, _) :: sl, S.sel (by k_extra "pk"), fun S => k _ _ _ [] ⟨fun z => absurd z hrel, fun _ => ⟨rfl, hb⟩⟩ S⟩
end
end Sh3

section Sh4
theorem Sh.three {w : World} {x : Addr} {f : FF} {sl : Led} (H : Sh w x f sl) : ∀ k, f k ≠ none → k ∈ kinds3 := by
  obtain ⟨dx, od, fl, ofl, kvs, fam, hp, hf, hd, hg⟩ := H
  exact hg.three
section
variable {w : World} {A : Around} {h g : Heap} {env : Env} {L : Addr} {l : Loc} {led rest : Led}
theorem shelf_told {x : Addr} {f : FF} {sl : Led} {P : Value → Heap → Prop}
    (S : St g L h l led) (G : Gd w g) (hA : Amb A 4) (hp : Pk sl led rest) (H : Sh w x f sl) (hz : ∀ kk d, f kk = some d → d.length < 60)
    (k : ∀ h' a vs fam, LVs fam vs ((pl f).map (onePD f)) → St g L h' l ((a, tupO vs) :: fam ++ sl ++ rest) → P (.ref a) h')
    : W w A (call (.ref 134) [.ref x]) P h := by
  obtain ⟨dx, od, fl, hx, hdx, hf⟩ := H.mem
  refine w_ofC ?_
  refine' c_defC (binds := [(Str.ofString "self", .ref x)]) (bl := []) (ns := [Str.ofString "self"]) S G hA hp ?ho ?hcd ?hbind ?hkind ?hnd ?hks ?hbl ?hl ?hns ?hm ?k ?hco ?hgen ?hk
  k_extra "DEFC"
  obtain ⟨cf, of, rfl, rfl, i1⟩ := X.one
  rw [nm_self] at e
  have i1 := IsC.to i1 (v' := some (.ref x)) (by rfl)
  clear X
  dsimp only [List.cons_append, List.nil_append] at S
  k_extra "SS"
  refine shelf_paths S G (hA.le (by decide)) (by k_extra "pk") H ?_
  clear S
  intro h pa po vs hpo hsv S
  have hvl : vs.length ≤ 3 := by
    have h1 := hsv.length
    have h2 : (pl f).length ≤ kinds3.length := List.length_filter_le _ _
    have h3 : kinds3.length = 3 := rfl
    (first | lia | omega)
  k_extra "SI"
  refine (it_list S hA.handled (by k_extra "pk") hpo).mono fun it h2 hi2 => comp_fam hi2 (by (first | lia | omega)) (fun i ys fam => LVs fam ys (((pl f).map (onePD f)).take i)) .nil ?_ ?_
  · clear S
    intro i v ys fam I oI oL D oD C h env hi hv hy hj e S
    obtain ⟨px, tp, kk, rfl, hkk, hpi⟩ := hsv.get hv
    obtain rfl := stO_of hkk
    have hmem := List.mem_of_getElem? hpi
    obtain ⟨d, hd⟩ := Option.isSome_iff_exists.mp (List.mem_filter.mp hmem).2
    simp only [List.cons_append, List.nil_append, List.append_assoc, List.append_eq, List.reverse_cons, List.reverse_nil] at S e
    k_extra "SS"
    refine shelf_kind S G (hA.le (by decide)) (by k_extra "pk") H hd ?_
    clear S
    intro h y t hyk S
    k_extra "SI"
    k_extra "SS"
    refine shelf_rows S G (hA.le (by decide)) (by k_extra "pk") H hd (hz _ _ hd) ?_
    clear S
    intro h ra rvs rfam hrv S
    k_extra "SI"
    k_extra "SS"
    obtain ⟨ds, hds, hlv⟩ := hrv.lv
    have e1 : ((pl f).map (onePD f)).take (i + 1) = ((pl f).map (onePD f)).take i ++ [PD.tup [.str kk, .str kk, .tup ds]] := by
      rw [List.take_add_one, List.getElem?_map, hpi]
      show _ ++ [onePD f kk] = _
      unfold onePD
      rw [hd, Option.getD_some, hds]
    refine ⟨[], _, ?_, fam ++ ((a, tupO [.str (stO kk) tp, .str y t, .ref ra]) :: (ra, tupO rvs) :: rfam), rfl, ?_⟩
    · simp only [List.append_eq]
      k_extra "TE"
    · rw [e1]
      refine (hj.mono fun q hq => List.mem_append_left _ hq).append (.tup (List.mem_append_right _ (.head _)) (.cons (.str rfl) (.cons (.str hyk) (.cons (.tup (List.mem_append_right _ (.tail _ (.head _))) ?_) .nil))))
      exact hlv.mono fun q hq => List.mem_append_right _ (.tail _ (.tail _ hq))
  · clear S
    intro ys fam D oD h hyl hj hyo S
    k_extra "SI"
    k_extra "SS"
    rw [List.take_of_length_le (by rw [List.length_map, hsv.length]; exact Nat.le_refl _)] at hj
    exact ⟨_, _, (a, _) :: (fam ++ sl), S.sel (by k_extra "pk"), fun S => k _ _ _ fam hj (by simpa using S)⟩
end
end Sh4

section Sh5
def RW (kk : List Nat) (d : RowsT) (vs : List Value) (fam : Led) : Prop := (kk = kRel → NV fam vs d) ∧ (kk ≠ kRel → fam = [] ∧ BV vs d)
theorem RW.length {kk : List Nat} {d : RowsT} {vs : List Value} {fam : Led} (H : RW kk d vs fam) : vs.length = d.length := by
  by_cases h : kk = kRel
  · exact (H.1 h).length
  · exact (H.2 h).2.length
theorem take_succ {α : Type} {d : List α} {i : Nat} (hi : i < d.length) : d.take (i + 1) = d.take i ++ [d[i]] := by rw [List.take_add_one, List.getElem?_eq_getElem hi]; rfl
theorem stored_new {kvs : List (Int × Value)} {k : Int} {v : Value} (hn : k ∉ kvs.map (·.1)) : stored kvs k v = kvs ++ [(k, v)] := by
  unfold stored
  rw [if_neg]
  simp only [List.any_eq_true, decide_eq_true_eq, not_exists, not_and]
  exact fun p hp e => hn (List.mem_map.mpr ⟨p, hp, e⟩)
section
variable {w : World} {A : Around} {h g : Heap} {env : Env} {L : Addr} {l : Loc} {led rest : Led}
theorem d_lne {a b : Addr} {vs us : List Value} {ds : List PD} {P : Value → Heap → Prop} (ha : h.IsList a vs.toArray) (hb : h.IsList b us.toArray) (hs : DVs h vs ds) (ht : DVs h us ds) (hu : A.units + PD.depths ds + 2 < 9900) (k : P (.bool false) h) : W w A (compareOp .NotEq (.ref a) (.ref b)) P h :=
  W.of fun s Q e q => by
    subst e
    have z := hs.length
    have z' := ht.length
    refine SeqAt.RcNeAt.lists (A := A) (e := fun _ => true) ha hb (by simp; (first | lia | omega)) (by show A.units < 9900; (first | lia | omega)) (fun j h1 h2 => DVs.eq hs ht (A := A.in1) (by show A.units + 1 + _ < 9900; (first | lia | omega)) j _ _ (by simpa using h1) (by simpa using h2) (by simp) (by simp)) _ _ _ _ ?_
    have : (!(List.range vs.toArray.size).all (fun _ => true)) = false := by simp
    rw [this]; exact q _ _ s.toks k
theorem l_ne0 {c d : Addr} {oc od : Obj} (S : St g L h l led) (mc : (c, oc) ∈ led) (hc : IsL [] oc) (md : (d, od) ∈ led) (hd : IsL [] od) (hu : A.units + 2 < 9900) {P : Value → Heap → Prop} (k : P (.bool false) h) : W w A (compareOp .NotEq (.ref c) (.ref d)) P h :=
  d_lne (hc.ints (S.get mc)) (hd.ints (S.get md)) .nil .nil hu k
theorem shelf_lay {x ra : Addr} {ro : Obj} {f : FF} {sl fam : Led} {vs : List Value} {d : RowsT} {kk : List Nat} {tp tk : Tok} {y : Str} {P : Value → Heap → Prop}
    (S : St g L h l led) (G : Gd w g) (hA : Amb A 3) (hp : Pk ((ra, ro) :: (fam ++ sl)) led rest) (H : Sh w x f sl) (hk : kk ∈ kinds3) (hy : key y = kk) (hl : IsL vs ro) (hrw : RW kk d vs fam) (hz : d.length < 60) (hn : kk = kRel → (d.map hd1).Nodup ∧ ∀ b ∈ d, 1 ≤ hd1 b)
    (k : ∀ h' sl', Sh w x (upd f kk d) sl' → St g L h' l (sl' ++ rest) → P .none h')
    : W w A (call (.ref 110) [.ref x, .str (stO kk) tp, .str y tk, .ref ra]) P h := by
  obtain ⟨dx, od, fl, hx, hdx, hf⟩ := H.mem
  have hvl := hrw.length
  refine' w_def (binds := [(Str.ofString "self", .ref x), (Str.ofString "path", .str (stO kk) tp), (Str.ofString "kind", .str y tk), (Str.ofString "rows", .ref ra)]) S G hA hp ?ho ?hcd ?hbind ?hloc ?hks ?hl ?k ?hcell ?hco ?hgen ?hk
  k_extra "DEF"
  k_extra "SS"
  refine ⟨fun q => ?_, fun q => ?_⟩
  · have hrel : kk = kRel := by simpa using q
    have hnv := hrw.1 hrel
    k_extra "SS"
    refine (it_list S hA.handled (by k_extra "pk") hl).mono fun it h2 hi2 => ⟨vs.length, _, _, _, _, fun i ys led' => led' = _ ∧ ys = [], hi2, by (first | lia | omega), ⟨rfl, rfl⟩, ?_, ?_⟩
    · intro i v ys led1 I oI oL D oD C h env hi hv hy hj e S
      obtain ⟨rfl, rfl⟩ := hj
      obtain ⟨a, b, ti, tb, rfl, hbi, m⟩ := hnv.at hv
      have h1 := (hn hrel).2 b (List.mem_of_getElem? hbi)
      k_extra "SIE"
      k_extra "SS"
      refine br_f (by simp; (first | lia | omega)) ?_
      exact ⟨_, _, S, rfl, rfl⟩
    · clear S
      intro ys led1 D oD h hyl hj hyo S
      obtain ⟨rfl, rfl⟩ := hj
      k_extra "SI"
      k_extra "SS"
      refine l_ne0 S (by k_extra "mem") hyo (by k_extra "mem") ⟨0, rfl⟩ (by have := hA.units; (first | lia | omega)) ?_
      k_extra "SS"
      refine shelf_begin S G (hA.le (by decide)) (by k_extra "pk") H hk hy ?_
      clear S
      intro h ca cx sl' hcx hh S
      k_extra "SI"
      k_extra "SS"
      have S := S.sel (fp := (ra, ro) :: (ca, cx) :: (sl' ++ fam)) (by k_extra "pk")
      refine (it_list S hA.handled (by k_extra "pk") hl).mono fun it h2 hi2 => for_of hi2 (fun i l' led' => A2 (l' = [([99, 111, 110, 116, 101, 110, 116], Value.ref ca), ([114, 111, 119, 115], Value.ref ra), ([107, 105, 110, 100], Value.str y tk), ([112, 97, 116, 104], Value.str (stO kk) tp), ([115, 101, 108, 102], Value.ref x)]) (∃ o, led' = (ca, o) :: (sl' ++ fam) ∧ ContOK w kk (d.take i) ca o)) ⟨rfl, cx, rfl, by simpa using hcx⟩ ?_ ?_
      · clear S
        intro i v l1 led1 I oI h hin hv hj S
        obtain ⟨rfl, o, rfl, ho⟩ := hj
        have hin' : i < d.length := by (first | lia | omega)
        obtain ⟨a, b, ti, tb, rfl, hbi, m⟩ := hnv.at hv
        obtain rfl : d[i] = b := by rw [List.getElem?_eq_getElem hin'] at hbi; exact Option.some.inj hbi
        obtain ⟨kvs, hdc, hkv⟩ := ho.rel hrel
        have hkl : kvs.length ≤ 60 := by rw [hkv.length]; unfold relRows; simp; (first | lia | omega)
        k_extra "SI"
        k_extra "SS"
        refine br_t (by simpa using hrel) ?_
        k_extra "SS"
        have hnew : hd1 d[i] ∉ kvs.map (·.1) := by
          rw [hkv.keys, relRows_keys]
          intro z
          obtain ⟨b, hb, e⟩ := List.mem_map.mp z
          obtain ⟨j, hj, rfl⟩ := List.getElem_of_mem hb
          have hj1 : j < i := by have := hj; rw [List.length_take] at this; (first | lia | omega)
          rw [List.getElem_take] at e
          have nd := List.nodup_iff_pairwise_ne.mp (hn hrel).1
          rw [List.pairwise_map, List.pairwise_iff_getElem] at nd
          exact nd j i (by (first | lia | omega)) hin' hj1 e
        rw [stored_new hnew] at hc
        refine ⟨_, _, ?_, rfl, oc, rfl, fun _ => ⟨_, hc, ?_⟩, fun z => absurd hrel z⟩
        · k_extra "TE"
        · rw [take_succ hin']
          unfold relRows
          rw [List.map_append]
          exact hkv.append _ _ _
      · clear S
        intro l1 led1 h hj S
        obtain ⟨rfl, o, rfl, ho⟩ := hj
        rw [List.take_of_length_le (by (first | lia | omega))] at ho
        have hsh := hh d o ho
        k_extra "SI"
        k_extra "SS"
        exact ⟨_, _, (ca, o) :: sl', S.sel (by k_extra "pk"), fun S => k _ _ hsh S⟩
  · have hrel : kk ≠ kRel := by simpa using q
    k_extra "SS"
    refine shelf_begin S G (hA.le (by decide)) (by k_extra "pk") H hk hy ?_
    clear S
    intro h ca cx sl' hcx hh S
    k_extra "SI"
    k_extra "SS"
    have S := S.sel (fp := (ra, ro) :: (ca, cx) :: (sl' ++ fam)) (by k_extra "pk")
    refine (it_list S hA.handled (by k_extra "pk") hl).mono fun it h2 hi2 => for_of hi2 (fun i l' led' => A2 (l' = [([99, 111, 110, 116, 101, 110, 116], Value.ref ca), ([114, 111, 119, 115], Value.ref ra), ([107, 105, 110, 100], Value.str y tk), ([112, 97, 116, 104], Value.str (stO kk) tp), ([115, 101, 108, 102], Value.ref x)]) (∃ o, led' = (ca, o) :: (sl' ++ fam) ∧ ContOK w kk (d.take i) ca o)) ⟨rfl, cx, rfl, by simpa using hcx⟩ ?_ ?_
    · clear S
      intro i v l1 led1 I oI h hin hv hj S
      obtain ⟨rfl, o, rfl, ho⟩ := hj
      have hin' : i < d.length := by (first | lia | omega)
      obtain ⟨rfl, hbv⟩ := hrw.2 hrel
      obtain ⟨tb, hvb⟩ := hbv.get (List.getElem?_eq_getElem hin')
      rw [hv] at hvb
      obtain rfl := Option.some.inj hvb
      obtain ⟨cvs, hcl, hcb⟩ := ho.row hrel
      have hcz : cvs.length ≤ 60 := by rw [hcb.length]; simp; (first | lia | omega)
      k_extra "SI"
      k_extra "SS"
      refine br_f (by simpa using hrel) ?_
      k_extra "SS"
      refine ⟨_, _, ?_, rfl, oc, rfl, fun z => absurd z hrel, fun _ => ⟨_, hc, ?_⟩⟩
      · k_extra "TE"
      · rw [take_succ hin']
        exact hcb.append (.cons ⟨_, rfl⟩ .nil)
    · clear S
      intro l1 led1 h hj S
      obtain ⟨rfl, o, rfl, ho⟩ := hj
      rw [List.take_of_length_le (by (first | lia | omega))] at ho
      have hsh := hh d o ho
      k_extra "SI"
      k_extra "SS"
      exact ⟨_, _, (ca, o) :: sl', S.sel (by k_extra "pk"), fun S => k _ _ hsh S⟩
end
end Sh5

section Oc1
def cntI (wd c : Nat) : List Int := List.replicate (wd - 1) 0 ++ [(c : Int)]
def cntA (wd c : Nat) : Array UInt8 := byteArr (cntI wd c)
theorem cntI_length {wd c : Nat} (h : 1 ≤ wd) : (cntI wd c).length = wd := by unfold cntI; simp; (first | lia | omega)
theorem cntA_size {wd c : Nat} (h : 1 ≤ wd) : (cntA wd c).size = wd := by unfold cntA; rw [byteArr_size, cntI_length h]
theorem cntI_get {wd c i : Nat} (h1 : 1 ≤ wd) (hi : i < wd) : (cntI wd c)[i]? = some (if i = wd - 1 then (c : Int) else 0) := by
  unfold cntI
  by_cases e : i = wd - 1
  · rw [if_pos e, List.getElem?_append_right (by simp; (first | lia | omega))]; simp [e]
  · rw [if_neg e, List.getElem?_append_left (by simp; (first | lia | omega)), List.getElem?_replicate, if_pos (by (first | lia | omega))]
theorem digit_of {c p : Nat} (hc : c < 256) : ((c : Int).fdiv (256 ^ p)).fmod 256 = if p = 0 then (c : Int) else 0 := by
  rw [Int.fmod_eq_emod_of_nonneg _ (by (first | lia | omega)), Int.fdiv_eq_ediv_of_nonneg _ (by exact_mod_cast Nat.zero_le _)]
  by_cases e : p = 0
  · subst e; simp; (first | lia | omega)
  · rw [if_neg e]
    have h : (256 : Int) ^ p = ((256 ^ p : Nat) : Int) := by push_cast; rfl
    have h2 : 256 ^ 1 ≤ 256 ^ p := Nat.pow_le_pow_right (by (first | lia | omega)) (by (first | lia | omega))
    rw [h]
    have : ((c : Int) / ((256 ^ p : Nat) : Int)) = 0 := by
      rw [← Int.natCast_ediv, Nat.div_eq_of_lt (by (first | lia | omega))]; rfl
    rw [this]; rfl
section
variable {w : World} {A : Around} {h g : Heap} {env : Env} {L : Addr} {l : Loc} {led rest : Led}
theorem s_len {x : Str} {t : Tok} {P : Value → Heap → Prop} (hz : x.length ≤ 1000000) (k : ∀ t, P (.int x.length t) h) : W w A (call (.builtin "len") [.str x t]) P h :=
  W.of fun s Q hs q => len_str (by (first | lia | omega)) (by subst hs; exact q _ _ _ (k _))
theorem count_octets {c wd : Nat} {tc tw : Tok} {P : Value → Heap → Prop}
    (S : St g L h l led) (G : Gd w g) (hA : Amb A 2) (hc : c < 256) (hw : wd = 1 ∨ wd = 2 ∨ wd = 4)
    (k : ∀ h' t, St g L h' l led → P (.bytes (cntA wd c) t) h')
    : W w A (call (.ref 146) [.int c tc, .int wd tw]) P h := by
  have hw1 : 1 ≤ wd := by (first | lia | omega)
  refine w_ofC ?_
  refine' c_defC (binds := [(Str.ofString "count", .int c tc), (Str.ofString "width", .int wd tw)]) (bl := [(Str.ofString "width", .int wd tw)]) (ns := [Str.ofString "count"]) S G hA Pk.nil ?ho ?hcd ?hbind ?hkind ?hnd ?hks ?hbl ?hl ?hns ?hm ?k ?hco ?hgen ?hk
  k_extra "DEFC"
  obtain ⟨cf, of, rfl, rfl, i1⟩ := X.one
  rw [nm_count] at e
  have i1 := IsC.to i1 (v' := some (.int c tc)) (by rfl)
  clear X
  dsimp only [List.cons_append, List.nil_append] at S
  k_extra "SS"
  refine d_pow (by (first | lia | omega)) (by (first | lia | omega)) (by decide) fun t1 => ?_
  rw [Int.toNat_natCast]
  k_extra "SS"
  refine br_f (by
    have h2 : 256 ^ 1 ≤ 256 ^ wd := Nat.pow_le_pow_right (by (first | lia | omega)) (by (first | lia | omega))
    have h : (256 : Int) ^ wd = ((256 ^ wd : Nat) : Int) := by push_cast; rfl
    rw [h]; simp; (first | lia | omega)) ?_
  k_extra "SS"
  refine r_range3 S (by (first | lia | omega)) (PyProof.noPylong_small (by decide)) ?_
  clear S
  intro rg h org hrg S
  refine (it_range S hA.handled (by k_extra "mem") hrg (n := wd) (by rcases hw with rfl | rfl | rfl <;> decide) (by rcases hw with rfl | rfl | rfl <;> decide)).mono fun it h2 hi2 => ⟨wd, _, _, _, _, fun i ys led' => led' = _ ∧ IntsAre ys ((cntI wd c).take i), hi2, by (first | lia | omega), ⟨rfl, .nil⟩, ?_, ?_⟩
  · clear S
    intro i v ys led1 I oI oL D oD C h env hi hv hy hj e S
    obtain ⟨_, tv, rfl⟩ := hv
    obtain ⟨rfl, hj⟩ := hj
    k_extra "SIE"
    k_extra "SS"
    refine d_pow (by (first | lia | omega)) (by (first | lia | omega)) (by decide) fun t1 => ?_
    have hp : ((wd : Int) - 1 + (i : Int) * -1).toNat = wd - 1 - i := by (first | lia | omega)
    rw [hp]
    k_extra "SS"
    refine d_fdiv (by have : (0 : Int) < 256 ^ (wd - 1 - i) := Int.pow_pos (by (first | lia | omega)); (first | lia | omega)) ?_ fun t2 => ?_
    · have h3 : 256 ^ (wd - 1 - i) ≤ 256 ^ 3 := Nat.pow_le_pow_right (by (first | lia | omega)) (by (first | lia | omega))
      have h : (256 : Int) ^ (wd - 1 - i) = ((256 ^ (wd - 1 - i) : Nat) : Int) := by push_cast; rfl
      rw [h, Int.natAbs_natCast]
      have : 256 ^ 3 = 16777216 := by decide
      (first | lia | omega)
    k_extra "SS"
    refine d_mod (by (first | lia | omega)) fun t3 => ?_
    rw [digit_of hc]
    refine ⟨_, _, S, rfl, ?_⟩
    have hg := cntI_get (c := c) hw1 hi
    rw [List.take_add_one, hg]
    refine hj.append ?_
    have : (if wd - 1 - i = 0 then (c : Int) else 0) = if i = wd - 1 then (c : Int) else 0 := by
      by_cases e : i = wd - 1
      · rw [if_pos e, if_pos (by (first | lia | omega))]
      · rw [if_neg e, if_neg (by (first | lia | omega))]
    rw [this]
    exact .cons _ _ .nil
  · clear S
    intro ys led1 D oD h hyl hj hyo S
    obtain ⟨rfl, hj⟩ := hj
    rw [List.take_of_length_le (by rw [cntI_length hw1]; exact Nat.le_refl _)] at hj
    k_extra "SI"
    k_extra "SS"
    refine b_ofints S hA.handled (by k_extra "mem") hyo hj ?_ (by (first | lia | omega)) ?_
    · intro n hn
      unfold cntI at hn
      rcases List.mem_append.mp hn with z | z
      · have := List.eq_of_mem_replicate z; (first | lia | omega)
      · have := List.mem_singleton.mp z; (first | lia | omega)
    clear S
    intro t h S
    k_extra "SS"
    exact ⟨_, _, [], S.sel Pk.nil, fun S => k _ _ S⟩
end
end Oc1

section Oc2
def pathA (kk : List Nat) : Array UInt8 := cntA 1 kk.length ++ encO kk
def rowA (b : Array UInt8) : Array UInt8 := cntA 2 b.size ++ b
theorem stO_length (kk : List Nat) : (stO kk).length = kk.length := rfl
theorem kinds3_ascii {kk : List Nat} (hk : kk ∈ kinds3) : ∀ c ∈ kk, 97 ≤ c ∧ c ≤ 122 := by
  rcases kinds3_cases hk with rfl | rfl | rfl <;> decide
theorem kinds3_len {kk : List Nat} (hk : kk ∈ kinds3) : 1 ≤ kk.length ∧ kk.length ≤ 10 := by
  rcases kinds3_cases hk with rfl | rfl | rfl <;> decide
theorem encO_size (kk : List Nat) : (encO kk).size = kk.length := by unfold encO; simp
theorem pathA_size {kk : List Nat} : (pathA kk).size = 1 + kk.length := by unfold pathA; rw [Array.size_append, cntA_size (by (first | lia | omega)), encO_size]
theorem rowA_size (b : Array UInt8) : (rowA b).size = 2 + b.size := by unfold rowA; rw [Array.size_append, cntA_size (by (first | lia | omega))]
section
variable {w : World} {A : Around} {h g : Heap} {env : Env} {L : Addr} {l : Loc} {led rest : Led}
theorem row_octets {b : Array UInt8} {tb : Tok} {P : Value → Heap → Prop}
    (S : St g L h l led) (G : Gd w g) (hA : Amb A 3) (hb : b.size < 256)
    (k : ∀ h' t, St g L h' l led → P (.bytes (rowA b) t) h')
    : W w A (call (.ref 160) [.bytes b tb]) P h := by
  refine' w_def (binds := [(Str.ofString "row", .bytes b tb)]) S G hA Pk.nil ?ho ?hcd ?hbind ?hloc ?hks ?hl ?k ?hcell ?hco ?hgen ?hk
  k_extra "DEF"
  k_extra "SS"
  refine count_octets (wd := 2) S G (hA.le (by decide)) hb (by (first | lia | omega)) ?_
  clear S
  intro h t S
  have hz : (cntA 2 b.size).size = 2 := cntA_size (by (first | lia | omega))
  k_extra "SS"
  exact ⟨_, _, [], S.sel Pk.nil, fun S => k _ _ S⟩
theorem path_octets {kk : List Nat} {tk : Tok} {P : Value → Heap → Prop}
    (S : St g L h l led) (G : Gd w g) (hA : Amb A 3) (hk : kk ∈ kinds3)
    (k : ∀ h' t, St g L h' l led → P (.bytes (pathA kk) t) h')
    : W w A (call (.ref 153) [.str (stO kk) tk]) P h := by
  have hlen := kinds3_len hk
  refine' w_def (binds := [(Str.ofString "path", .str (stO kk) tk)]) S G hA Pk.nil ?ho ?hcd ?hbind ?hloc ?hks ?hl ?k ?hcell ?hco ?hgen ?hk
  k_extra "DEF"
  k_extra "SS"
  refine (it_str S hA.handled (by
    rw [Array.all_eq_true]
    intro i hi
    have := kinds3_ascii hk _ (show (stO kk).cps[i] ∈ kk from List.getElem_mem (l := kk) hi)
    simp; (first | lia | omega))).mono fun it h2 hi2 => for_fix hi2 (fun i => True) trivial ?_ ?_
  · clear S
    intro i v I oI h hin hv _ S
    obtain ⟨c, u, hc, rfl⟩ := hv
    have hc' := kinds3_ascii hk c (List.mem_of_getElem? (l := kk) (i := i) (by simpa [stO] using hc))
    k_extra "SI"
    k_extra "SS"
    have hkc : key ({ cps := #[c] } : Str) = [c] := rfl
    refine d_sle ?_
    rw [hkc, ls_blank]
    k_extra "SS"
    refine br_t (by simp [List.cons_lt_cons_iff]; (first | lia | omega)) ?_
    k_extra "SS"
    refine d_sle ?_
    rw [hkc, ls_tilde]
    k_extra "SS"
    refine br_f (by simp [List.cons_lt_cons_iff]; (first | lia | omega)) ?_
    k_extra "SS"
    refine ⟨_, _, ?_, rfl, rfl, trivial⟩
    k_extra "TE"
  · clear S
    intro h _ S
    k_extra "SI"
    k_extra "SS"
    refine s_len (by rw [stO_length]; (first | lia | omega)) fun t1 => ?_
    rw [stO_length]
    k_extra "SS"
    refine count_octets (wd := 1) S G (hA.le (by decide)) (by (first | lia | omega)) (by (first | lia | omega)) ?_
    clear S
    intro h t S
    k_extra "SS"
    refine m_encode ?_
    k_extra "SS"
    refine c_encode (ka := []) hk ls_ascii fun t2 => ?_
    have hz : (cntA 1 kk.length).size = 1 := cntA_size (by (first | lia | omega))
    have hz2 := encO_size kk
    k_extra "SS"
    exact ⟨_, _, [], S.sel Pk.nil, fun S => k _ _ S⟩
end
end Oc2

section Oc3
def hdN (b : Array UInt8) : Nat := (b.toList.headD 0).toNat
theorem hd1_eq (b : Array UInt8) : hd1 b = (hdN b : Int) := rfl
theorem hdN_lt (b : Array UInt8) : hdN b < 256 := by unfold hdN; exact UInt8.toNat_lt _
def encRow (kk : List Nat) (b : Array UInt8) : Array UInt8 := if kk = kRel then cntA 4 (hdN b) ++ rowA b else rowA b
def encRows (kk : List Nat) : RowsT → Array UInt8
  | [] => #[]
  | b :: r => encRow kk b ++ encRows kk r
def ordR (kk : List Nat) (d : RowsT) : RowsT := if kk = kRel then sortR d else d
theorem ordR_length (kk : List Nat) (d : RowsT) : (ordR kk d).length = d.length := by unfold ordR; split; exact (sortR_perm d).length_eq; rfl
theorem ordR_mem {kk : List Nat} {d : RowsT} {b : Array UInt8} (h : b ∈ ordR kk d) : b ∈ d := by unfold ordR at h; split at h; exact (sortR_perm d).mem_iff.mp h; exact h
def encF (kk : List Nat) (d : RowsT) : Array UInt8 := #[letterB kk] ++ pathA kk ++ cntA 4 d.length ++ encRows kk (ordR kk d)
def encS (f : FF) : List (List Nat) → Array UInt8
  | [] => #[]
  | k :: ks => encF k ((f k).getD []) ++ encS f ks
theorem encRows_snoc (kk : List Nat) (a : RowsT) (b : Array UInt8) : encRows kk (a ++ [b]) = encRows kk a ++ encRow kk b := by
  induction a with
  | nil => simp [encRows]
  | cons x a ih => rw [List.cons_append, encRows, encRows, ih, Array.append_assoc]
theorem encS_snoc (f : FF) (a : List (List Nat)) (k : List Nat) : encS f (a ++ [k]) = encS f a ++ encF k ((f k).getD []) := by
  induction a with
  | nil => simp [encS]
  | cons x a ih => rw [List.cons_append, encS, encS, ih, Array.append_assoc]
theorem encRow_size (kk : List Nat) (b : Array UInt8) : (encRow kk b).size ≤ 6 + b.size := by
  unfold encRow
  split
  · rw [Array.size_append, cntA_size (by (first | lia | omega)), rowA_size]; (first | lia | omega)
  · rw [rowA_size]; (first | lia | omega)
theorem encRows_size {kk : List Nat} : ∀ {d : RowsT}, (∀ b ∈ d, b.size ≤ 10) → (encRows kk d).size ≤ 16 * d.length
  | [], _ => by simp [encRows]
  | b :: r, h => by
    rw [encRows, Array.size_append, List.length_cons]
    have h1 := encRow_size kk b
    have h2 := h b (.head _)
    have h3 := encRows_size (kk := kk) (d := r) fun x hx => h x (.tail _ hx)
    (first | lia | omega)
theorem encF_size {kk : List Nat} {d : RowsT} (hk : kk ∈ kinds3) (h : ∀ b ∈ d, b.size ≤ 10) (hz : d.length < 60) : (encF kk d).size ≤ 1000 := by
  unfold encF
  have h1 := encRows_size (kk := kk) (d := ordR kk d) fun b hb => h b (ordR_mem hb)
  rw [ordR_length] at h1
  have h2 := kinds3_len hk
  rw [Array.size_append, Array.size_append, Array.size_append, cntA_size (by (first | lia | omega)), pathA_size]
  have : (#[letterB kk] : Array UInt8).size = 1 := rfl
  (first | lia | omega)
theorem encS_size {f : FF} : ∀ {ks : List (List Nat)}, (∀ k ∈ ks, k ∈ kinds3 ∧ (∀ b ∈ (f k).getD [], b.size ≤ 10) ∧ ((f k).getD []).length < 60) → (encS f ks).size ≤ 1000 * ks.length
  | [], _ => by simp [encS]
  | k :: ks, h => by
    rw [encS, Array.size_append, List.length_cons]
    have h1 := h k (.head _)
    have h2 := encF_size h1.1 h1.2.1 h1.2.2
    have h3 := encS_size (f := f) (ks := ks) fun x hx => h x (.tail _ hx)
    (first | lia | omega)
theorem picked_letter {kk : List Nat} (hk : kk ∈ kinds3) : KBy.picked #[83, 82, 73] (some (kindIx kk : Int)) (some ((kindIx kk : Int) + 1)) = #[letterB kk] := by
  rcases kinds3_cases hk with rfl | rfl | rfl <;> decide +kernel
section
variable {w : World} {A : Around} {h g : Heap} {env : Env} {L : Addr} {l : Loc} {led rest : Led}
theorem t_len {a : Addr} {vs : List Value} (S : St g L h l led) (m : (a, tupO vs) ∈ led) {P : Value → Heap → Prop} (k : ∀ t, P (.int vs.length t) h) (hz : vs.length ≤ 16777216) : W w A (call (.builtin "len") [.ref a]) P h :=
  W.of fun s Q hs q => by
    subst hs
    have := tupO_at (S.get m)
    exact PyProof.Rows.len_tuple this (by simp; (first | lia | omega)) (by have := q _ _ (s.toks + 1 + 1) (k (s.toks + 1)); simpa using this)
theorem write_shelf {x : Addr} {f : FF} {sl : Led} {P : Value → Heap → Prop}
    (S : St g L h l led) (G : Gd w g) (hA : Amb A 5) (hp : Pk sl led rest) (H : Sh w x f sl) (hz : ∀ kk d, f kk = some d → d.length < 60 ∧ ∀ b ∈ d, b.size ≤ 10)
    (k : ∀ h' t, St g L h' l (sl ++ rest) → P (.bytes (encS f (pl f)) t) h')
    : W w A (call (.ref 167) [.ref x]) P h := by
  obtain ⟨dx, od, fl, hx, hdx, hf⟩ := H.mem
  obtain ⟨tK, hK⟩ := gl_KIND_LETTERS w.params
  have three := H.three
  refine' w_def (binds := [(Str.ofString "shelf", .ref x)]) S G hA hp ?ho ?hcd ?hbind ?hloc ?hks ?hl ?k ?hcell ?hco ?hgen ?hk
  k_extra "DEF"
  k_extra "SS"
  refine shelf_paths S G (hA.le (by decide)) (by k_extra "pk") H ?_
  clear S
  intro h pa po vs hpo hsv S
  have hvl : vs.length ≤ 3 := by
    have h1 := hsv.length
    have h2 : (pl f).length ≤ kinds3.length := List.length_filter_le _ _
    have h3 : kinds3.length = 3 := rfl
    (first | lia | omega)
  k_extra "SI"
  refine (it_list S hA.handled (by k_extra "pk") hpo).mono fun it h2 hi2 => for_of hi2 (fun i l' led' => E1 fun t => A2 (l' = [([102, 111, 117, 110, 100], .bytes (encS f ((pl f).take i)) t), ([115, 104, 101, 108, 102], Value.ref x)]) (led' = sl)) ⟨_, rfl, by simp⟩ ?_ ?_
  · clear S
    intro i v l1 led1 I oI h hin hv hj S
    obtain ⟨tf, rfl, hled⟩ := hj
    rw [hled] at S
    clear hled led1
    obtain ⟨px, tp, kk, rfl, hkk, hpi⟩ := hsv.get hv
    obtain rfl := stO_of hkk
    have hmem := List.mem_of_getElem? hpi
    obtain ⟨d, hd⟩ := Option.isSome_iff_exists.mp (List.mem_filter.mp hmem).2
    have hk3 : kk ∈ kinds3 := three kk (by rw [hd]; simp)
    k_extra "SI"
    k_extra "SS"
    refine shelf_kind S G (hA.le (by decide)) (by k_extra "pk") H hd ?_
    clear S
    intro h y tky hyk S
    k_extra "SI"
    k_extra "SS"
    refine shelf_rows S G (hA.le (by decide)) (by k_extra "pk") H hd (hz _ _ hd).1 ?_
    clear S
    intro h ra rvs rfam hrv S
    k_extra "SI"
    k_extra "SS"
    refine m_tix S G ?_
    k_extra "SS"
    refine c_tix S G hk3 hyk fun t1 => ?_
    have hgd : (f kk).getD [] = d := by rw [hd]; rfl
    have hes : (encS f ((pl f).take i)).size ≤ 3000 := by
      have := encS_size (f := f) (ks := (pl f).take i) fun k' hk' => by
        have hm' := List.mem_of_mem_take hk'
        obtain ⟨d', hd'⟩ := Option.isSome_iff_exists.mp (List.mem_filter.mp hm').2
        have e' : (f k').getD [] = d' := by rw [hd']; rfl
        rw [e']
        exact ⟨three k' (by rw [hd']; simp), (hz _ _ hd').2, (hz _ _ hd').1⟩
      have h2 : ((pl f).take i).length ≤ 3 := by
        have h3 : (pl f).length ≤ kinds3.length := List.length_filter_le _ _
        have h4 : kinds3.length = 3 := rfl
        rw [List.length_take]; (first | lia | omega)
      (first | lia | omega)
    k_extra "SS"
    rw [picked_letter hk3]
    have hl1 : (#[letterB kk] : Array UInt8).size = 1 := rfl
    k_extra "SS"
    refine path_octets S G (hA.le (by decide)) hk3 ?_
    clear S
    intro h t2 S
    have hl2 := pathA_size (kk := kk)
    have hl3 := kinds3_len hk3
    have hrl : rvs.length = d.length := by
      by_cases hrel : kk = kRel
      · rw [(hrv.1 hrel).length, (sortR_perm d).length_eq]
      · exact (hrv.2 hrel).2.length
    have hdz := hz _ _ hd
    k_extra "SS"
    refine t_len S (by k_extra "mem") (fun t3 => ?_) (by (first | lia | omega))
    k_extra "SS"
    refine count_octets (c := rvs.length) (wd := 4) S G (hA.le (by decide)) (by (first | lia | omega)) (by (first | lia | omega)) ?_
    clear S
    intro h t4 S
    rw [hrl]
    have hl4 : (cntA 4 d.length).size = 4 := cntA_size (by (first | lia | omega))
    have hpre : (encS f ((pl f).take i) ++ #[letterB kk] ++ pathA kk).size ≤ 3100 := by rw [Array.size_append, Array.size_append]; (first | lia | omega)
    refine b_add (by (first | lia | omega)) fun t5 => ?_
    obtain ⟨pre, hpr⟩ : ∃ p, p = encS f ((pl f).take i) ++ #[letterB kk] ++ pathA kk ++ cntA 4 d.length := ⟨_, rfl⟩
    have hpz : pre.size ≤ 3200 := by rw [hpr, Array.size_append]; (first | lia | omega)
    have hfin : pre ++ encRows kk (ordR kk d) = encS f ((pl f).take (i + 1)) := by
      rw [hpr, List.take_add_one, hpi]
      show _ = encS f (_ ++ [kk])
      rw [encS_snoc, hgd]
      unfold encF
      simp only [Array.append_assoc]
    rw [← hpr]
    k_extra "SS"
    have S := (S.sel (fp := (ra, tupO rvs) :: (rfam ++ (sl ++ [(I, oI), (pa, po)]))) (by k_extra "pk")).locs (l' := [([102, 111, 117, 110, 100], .bytes pre t5), ([97, 116], Value.int (kindIx kk : Int) t1), ([107, 105, 110, 100], Value.str y tky), ([114, 111, 119, 115], Value.ref ra), ([112, 97, 116, 104], Value.str (stO kk) tp), ([115, 104, 101, 108, 102], Value.ref x)]) (by k_extra "lsub")
    refine (it_tuple S hA.handled (by k_extra "pk")).mono fun it h2 hi2 => for_of hi2 (fun j l' led' => E1 fun t => A2 (l' = [([102, 111, 117, 110, 100], .bytes (pre ++ encRows kk ((ordR kk d).take j)) t), ([97, 116], Value.int (kindIx kk : Int) t1), ([107, 105, 110, 100], Value.str y tky), ([114, 111, 119, 115], Value.ref ra), ([112, 97, 116, 104], Value.str (stO kk) tp), ([115, 104, 101, 108, 102], Value.ref x)]) (led' = rfam ++ (sl ++ [(I, oI), (pa, po)]))) ⟨t5, by simp only [List.take_zero, encRows, Array.append_empty], rfl⟩ ?_ ?_
    · clear S
      intro j v l2 led2 I2 oI2 h hjn hv2 hj S
      obtain ⟨tf2, rfl, rfl⟩ := hj
      have hjd : j < (ordR kk d).length := by rw [ordR_length]; (first | lia | omega)
      have hsz2 : (encRows kk ((ordR kk d).take j)).size ≤ 1000 := by
        have := encRows_size (kk := kk) (d := (ordR kk d).take j) fun b hb => hdz.2 b (ordR_mem (List.mem_of_mem_take hb))
        rw [List.length_take] at this; (first | lia | omega)
      have hsz3 : (pre ++ encRows kk ((ordR kk d).take j)).size ≤ 4200 := by rw [Array.size_append]; (first | lia | omega)
      have hb10 := hdz.2 _ (ordR_mem (List.getElem_mem hjd))
      have hnext : pre ++ encRows kk ((ordR kk d).take (j + 1)) = pre ++ encRows kk ((ordR kk d).take j) ++ encRow kk (ordR kk d)[j] := by rw [take_succ hjd, encRows_snoc, Array.append_assoc]
      k_extra "SI"
      k_extra "SS"
      refine ⟨fun q => ?_, fun q => ?_⟩
      · have hrel : kk = kRel := by simpa using q
        obtain ⟨a1, b, ti, tb, rfl, hbi, m⟩ := (hrv.1 hrel).at hv2
        have hb' : (ordR kk d)[j] = b := by
          have : (ordR kk d)[j]? = some b := by unfold ordR; rw [if_pos hrel]; exact hbi
          rw [List.getElem?_eq_getElem hjd] at this; exact Option.some.inj this
        rw [hb'] at hnext hb10
        have he : encRow kk b = cntA 4 (hdN b) ++ rowA b := by unfold encRow; rw [if_pos hrel]
        k_extra "SS"
        refine count_octets (c := hdN b) (wd := 4) S G (hA.le (by decide)) (hdN_lt b) (by (first | lia | omega)) ?_
        clear S
        intro h t6 S
        have hl6 : (cntA 4 (hdN b)).size = 4 := cntA_size (by (first | lia | omega))
        k_extra "SS"
        refine row_octets S G (hA.le (by decide)) (by (first | lia | omega)) ?_
        clear S
        intro h t7 S
        have hl7 := rowA_size b
        have hl8 : (pre ++ encRows kk ((ordR kk d).take j) ++ cntA 4 (hdN b)).size ≤ 4300 := by rw [Array.size_append]; (first | lia | omega)
        refine b_add (by (first | lia | omega)) fun t8 => ?_
        k_extra "SS"
        rw [Array.append_assoc, ← he, ← hnext] at S
        refine ⟨_, _, ?_, ⟨t8, rfl, rfl⟩⟩
        k_extra "TE"
      · have hrel : kk ≠ kRel := by simpa using q
        obtain ⟨tb, hvb⟩ := (hrv.2 hrel).2.get (show d[j]? = some ((ordR kk d)[j]) by
          have : ordR kk d = d := by unfold ordR; rw [if_neg hrel]
          rw [← List.getElem?_eq_getElem hjd, this])
        rw [hv2] at hvb
        obtain rfl := Option.some.inj hvb
        have he : encRow kk (ordR kk d)[j] = rowA (ordR kk d)[j] := by unfold encRow; rw [if_neg hrel]
        k_extra "SS"
        refine row_octets S G (hA.le (by decide)) (by (first | lia | omega)) ?_
        clear S
        intro h t7 S
        have hl7 := rowA_size (ordR kk d)[j]
        refine b_add (by (first | lia | omega)) fun t8 => ?_
        k_extra "SS"
        rw [← he, ← hnext] at S
        refine ⟨_, _, ?_, ⟨t8, rfl, rfl⟩⟩
        k_extra "TE"
    · clear S
      intro l2 led2 h hj S
      obtain ⟨tf2, rfl, rfl⟩ := hj
      rw [List.take_of_length_le (by rw [ordR_length]; (first | lia | omega)), hfin] at S
      k_extra "SI"
      k_extra "SS"
      refine ⟨_, _, ?_, ⟨tf2, rfl, rfl⟩⟩
      k_extra "TE"
  · clear S
    intro l1 led1 h hj S
    obtain ⟨tf, rfl, hled⟩ := hj
    rw [hled] at S
    clear hled led1
    k_extra "SI"
    k_extra "SS"
    rw [List.take_of_length_le (by rw [hsv.length]; exact Nat.le_refl _)]
    exact ⟨_, _, sl, S.sel (by k_extra "pk"), fun S => k _ _ S⟩
end
end Oc3

section Rd1
abbrev kOctets : List Nat := [111, 99, 116, 101, 116, 115]
abbrev kAt : List Nat := [97, 116]
inductive RdF (B : Array UInt8) (rs : List UInt8) (o : Obj) : Prop
  | mk (p : Nat) (t u : Tok) (hp : p ≤ B.size) (hb : B.size ≤ 100000) (hd : B.toList.drop p = rs) (hf : IsF [(kOctets, .bytes B t), (kAt, .int p u)] o)
theorem RdF.at {B : Array UInt8} {rs : List UInt8} {o : Obj} (H : RdF B rs o) : ∃ (p : Nat) (t u : Tok), p + rs.length = B.size ∧ B.size ≤ 100000 ∧ B.toList.drop p = rs ∧ IsF [(kOctets, .bytes B t), (kAt, .int p u)] o := by
  obtain ⟨p, t, u, h1, h2, h3, h4⟩ := H
  refine ⟨p, t, u, ?_, h2, h3, h4⟩
  rw [← h3, List.length_drop, Array.length_toList]; (first | lia | omega)
theorem picked_mid {B : Array UInt8} {mid rs : List UInt8} {p : Nat} (h : B.toList.drop p = mid ++ rs) : KBy.picked B (some (p : Int)) (some ((p + mid.length : Nat) : Int)) = mid.toArray := by
  rw [KBc.picked_eq]
  have hl : p + (mid.length + rs.length) = B.size ∨ B.size < p := by
    have := congrArg List.length h
    rw [List.length_drop, Array.length_toList, List.length_append] at this
    (first | lia | omega)
  have h1 : clipAt B.size (p : Int) = min p B.size := clipAt_nat B.size p
  have h2 : clipAt B.size ((p + mid.length : Nat) : Int) = min (p + mid.length) B.size := clipAt_nat B.size _
  simp only [Option.elim, h1, h2]
  congr 1
  rcases hl with hl | hl
  · rw [Nat.min_eq_left (by (first | lia | omega)), Nat.min_eq_left (by (first | lia | omega)), h]
    have : p + mid.length - p = mid.length := by (first | lia | omega)
    rw [this, List.take_left']
    rfl
  · have : mid = [] := by
      have := congrArg List.length h
      rw [List.length_drop, Array.length_toList, List.length_append] at this
      exact List.length_eq_zero_iff.mp (by (first | lia | omega))
    subst this
    rw [Nat.min_eq_right (by (first | lia | omega)), Nat.min_eq_right (by (first | lia | omega))]
    simp
section
variable {w : World} {A : Around} {h g : Heap} {env : Env} {L : Addr} {l : Loc} {led rest : Led}
theorem rd_make {B : Array UInt8} {tB : Tok} {P : Value → Heap → Prop}
    (S : St g L h l led) (G : Gd w g) (hA : Amb A 3) (hB : B.size ≤ 100000)
    (k : ∀ h' x dx od, RdF B B.toList od → St g L h' l ((x, instObj 226 dx) :: (dx, od) :: led) → P (.ref x) h')
    : W w A (call (.ref 226) [.bytes B tB]) P h := by
  refine w_class S G hA (cl_226 _) fun x dx h A hA S => ?_
  refine' c_def (binds := [(Str.ofString "self", .ref x), (Str.ofString "octets", .bytes B tB)]) S G hA (Pk.cons .head (Pk.cons .head Pk.nil)) ?ho ?hcd ?hbind ?hloc ?hks ?hl ?k ?hcell ?hco ?hgen ?hk
  k_extra "DEF"
  have hf : IsF [] (dictOf [] 0) := ⟨_, _, rfl, by simp, .nil⟩
  k_extra "SS"
  exact ⟨_, _, [(x, _), (dx, _)], S.sel (by k_extra "pk"), fun S => ⟨rfl, k _ _ _ _ ⟨0, _, _, Nat.zero_le _, hB, rfl, hf⟩ S⟩⟩
theorem rd_taken {x dx : Addr} {od : Obj} {B : Array UInt8} {mid rs : List UInt8} {many : Nat} {tm : Tok} {P : Value → Heap → Prop}
    (S : St g L h l led) (G : Gd w g) (hA : Amb A 2) (hp : Pk [(x, instObj 226 dx), (dx, od)] led rest) (hr : RdF B (mid ++ rs) od) (hm : many = mid.length)
    (k : ∀ h' od' t, RdF B rs od' → St g L h' l ([(x, instObj 226 dx), (dx, od')] ++ rest) → P (.bytes mid.toArray t) h')
    : W w A (call (.ref 195) [.ref x, .int many tm]) P h := by
  subst hm
  obtain ⟨p, t, u, h1, h2, h3, hf⟩ := hr.at
  rw [List.length_append] at h1
  refine' w_def (binds := [(Str.ofString "self", .ref x), (Str.ofString "many", .int (mid.length : Nat) tm)]) S G hA hp ?ho ?hcd ?hbind ?hloc ?hks ?hl ?k ?hcell ?hco ?hgen ?hk
  k_extra "DEF"
  k_extra "SS"
  refine br_f (by simp; (first | lia | omega)) ?_
  k_extra "SS"
  have e1 : (p : Int) + (mid.length : Int) - (mid.length : Int) = (p : Int) := by (first | lia | omega)
  have e2 : (p : Int) + (mid.length : Int) = ((p + mid.length : Nat) : Int) := by push_cast; rfl
  rw [e1, e2, picked_mid h3]
  refine ⟨_, _, [(x, _), (dx, _)], S.sel (by k_extra "pk"), fun S => k _ _ _ ⟨p + mid.length, _, _, by (first | lia | omega), h2, ?_, e2 ▸ hf⟩ S⟩
  rw [← List.drop_drop, h3, List.drop_left']
  rfl
end
end Rd1

section Rd2
theorem cntA_get {wd c i : Nat} (h1 : 1 ≤ wd) (hc : c < 256) {x : UInt8} (hx : (cntA wd c)[i]? = some x) : (x.toNat : Int) = if i + 1 = wd then (c : Int) else 0 := by
  have hi : i < wd := by
    rcases Nat.lt_or_ge i (cntA wd c).size with z | z
    · rw [cntA_size h1] at z; exact z
    · rw [Array.getElem?_eq_none z] at hx; cases hx
  have hg := cntI_get (c := c) h1 hi
  unfold cntA byteArr at hx
  rw [List.getElem?_toArray, List.getElem?_map, hg] at hx
  have hx := Option.some.inj hx
  rw [← hx]
  by_cases e : i = wd - 1
  · rw [if_pos e, if_pos (by (first | lia | omega))]
    simp
    (first | lia | omega)
  · rw [if_neg e, if_neg (by (first | lia | omega))]
    rfl
theorem encRow_rel (b : Array UInt8) : (encRow kRel b).toList = (cntA 4 (hdN b)).toList ++ ((cntA 2 b.size).toList ++ b.toList) := by
  unfold encRow rowA
  rw [if_pos rfl, Array.toList_append, Array.toList_append]
theorem encRow_row {kk : List Nat} (h : kk ≠ kRel) (b : Array UInt8) : (encRow kk b).toList = (cntA 2 b.size).toList ++ b.toList := by
  unfold encRow rowA
  rw [if_neg h, Array.toList_append]
section
variable {w : World} {A : Around} {h g : Heap} {env : Env} {L : Addr} {l : Loc} {led rest : Led}
theorem rd_count {x dx : Addr} {od : Obj} {B : Array UInt8} {rs : List UInt8} {wd c : Nat} {tm : Tok} {P : Value → Heap → Prop}
    (S : St g L h l led) (G : Gd w g) (hA : Amb A 3) (hp : Pk [(x, instObj 226 dx), (dx, od)] led rest) (hr : RdF B ((cntA wd c).toList ++ rs) od) (hc : c < 256) (hw : wd = 1 ∨ wd = 2 ∨ wd = 4)
    (k : ∀ h' od' t, RdF B rs od' → St g L h' l ([(x, instObj 226 dx), (dx, od')] ++ rest) → P (.int c t) h')
    : W w A (call (.ref 202) [.ref x, .int wd tm]) P h := by
  have hw1 : 1 ≤ wd := by (first | lia | omega)
  have hsz : (cntA wd c).size = wd := cntA_size hw1
  obtain ⟨p, t, u, h1, h2, h3, hf⟩ := hr.at
  refine' w_def (binds := [(Str.ofString "self", .ref x), (Str.ofString "width", .int wd tm)]) S G hA hp ?ho ?hcd ?hbind ?hloc ?hks ?hl ?k ?hcell ?hco ?hgen ?hk
  k_extra "DEF"
  k_extra "SS"
  refine rd_taken S G (hA.le (by decide)) (by k_extra "pk") hr (by rw [Array.length_toList, hsz]) ?_
  clear S
  intro h od t hr2 S
  k_extra "SI"
  k_extra "SS"
  rw [Array.toArray_toList]
  refine (it_bytes S hA.handled).mono fun it h2 hi2 => for_of hi2 (fun i l' led' => E1 fun t => A2 (l' = [([102, 111, 117, 110, 100], .int (if i = wd then (c : Int) else 0) t), ([119, 105, 100, 116, 104], Value.int wd tm), ([115, 101, 108, 102], Value.ref x)]) (led' = [(x, instObj 226 dx), (dx, od)])) ⟨_, by rw [if_neg (by (first | lia | omega))], rfl⟩ ?_ ?_
  · clear S
    intro i v l1 led1 I oI h hin hv hj S
    obtain ⟨tf, rfl, rfl⟩ := hj
    obtain ⟨ch, tv, hx, rfl⟩ := hv
    rw [hsz] at hin
    rw [if_neg (by (first | lia | omega))] at S
    rw [cntA_get hw1 hc hx] at S
    k_extra "SI"
    k_extra "SS"
    refine d_mul (by decide) (by decide) fun t1 => ?_
    k_extra "SS"
    rw [Int.zero_mul, Int.zero_add] at S
    refine ⟨_, _, ?_, ⟨t, rfl, rfl⟩⟩
    k_extra "TE"
  · clear S
    intro l1 led1 h hj S
    obtain ⟨tf, rfl, rfl⟩ := hj
    rw [hsz, if_pos rfl] at S
    k_extra "SI"
    k_extra "SS"
    exact ⟨_, _, [(x, _), (dx, _)], S.sel (by k_extra "pk"), fun S => k _ _ _ hr2 S⟩
theorem rd_kind {x dx : Addr} {od : Obj} {B : Array UInt8} {rs : List UInt8} {kk : List Nat} {P : Value → Heap → Prop}
    (S : St g L h l led) (G : Gd w g) (hA : Amb A 3) (hp : Pk [(x, instObj 226 dx), (dx, od)] led rest) (hr : RdF B (letterB kk :: rs) od) (hk : kk ∈ kinds3)
    (k : ∀ h' od' y t, key y = kk → RdF B rs od' → St g L h' l ([(x, instObj 226 dx), (dx, od')] ++ rest) → P (.str y t) h')
    : W w A (call (.ref 216) [.ref x]) P h := by
  obtain ⟨p, t, u, h1, h2, h3, hf⟩ := hr.at
  obtain ⟨tK, hK⟩ := gl_KIND_LETTERS w.params
  obtain ⟨t0, t1, t2, hT⟩ := kt_63 w.params
  refine' w_def (binds := [(Str.ofString "self", .ref x)]) S G hA hp ?ho ?hcd ?hbind ?hloc ?hks ?hl ?k ?hcell ?hco ?hgen ?hk
  k_extra "DEF"
  k_extra "SS"
  refine m_bfind ?_
  k_extra "SS"
  refine rd_taken (mid := [letterB kk]) (many := 1) S G (hA.le (by decide)) (by k_extra "pk") hr rfl ?_
  clear S
  intro h od t hr2 S
  k_extra "SI"
  k_extra "SS"
  refine c_bfind (i := kindIx kk) (c := letterB kk) (by rcases kinds3_cases hk with rfl | rfl | rfl <;> decide) fun t3 => ?_
  k_extra "SS"
  refine br_f (by simp) ?_
  k_extra "SS"
  obtain ⟨y, ty, hv, hy⟩ : ∃ y ty, [Value.str (Str.ofString "sequential") t0, Value.str (Str.ofString "relative") t1, Value.str (Str.ofString "indexed") t2][kindIx kk]? = some (Value.str y ty) ∧ key y = kk := by
    rcases kinds3_cases hk with rfl | rfl | rfl
    · exact ⟨_, _, rfl, ls_indexed⟩
    · exact ⟨_, _, rfl, ls_relative⟩
    · exact ⟨_, _, rfl, ls_sequential⟩
  have hix : kindIx kk ≤ 2 := by rcases kinds3_cases hk with rfl | rfl | rfl <;> decide
  refine t_itemK S G hT (Int.natCast_nonneg _) (by (first | lia | omega)) (by rw [Int.toNat_natCast]; exact hv) ?_ rfl
  k_extra "SS"
  exact ⟨_, _, [(x, _), (dx, _)], S.sel (by k_extra "pk"), fun S => k _ _ _ _ hy hr2 S⟩
end
end Rd2

section Rd3
theorem encO_get {kk : List Nat} (hk : kk ∈ kinds3) {i : Nat} {c : UInt8} (h : (encO kk)[i]? = some c) : 97 ≤ c.toNat ∧ c.toNat ≤ 122 := by
  unfold encO at h
  rw [List.getElem?_toArray, List.getElem?_map] at h
  cases e : kk[i]? with
  | none => rw [e] at h; cases h
  | some n =>
    rw [e] at h
    have h := Option.some.inj h
    have := kinds3_ascii hk n (List.mem_of_getElem? e)
    rw [← h]
    show 97 ≤ (UInt8.ofNat n).toNat ∧ (UInt8.ofNat n).toNat ≤ 122
    rw [UInt8.toNat_ofNat']
    (first | lia | omega)
section
variable {w : World} {A : Around} {h g : Heap} {env : Env} {L : Addr} {l : Loc} {led rest : Led}
theorem rd_path {x dx : Addr} {od : Obj} {B : Array UInt8} {rs : List UInt8} {kk : List Nat} {av : Value} {P : Value → Heap → Prop}
    (S : St g L h l led) (G : Gd w g) (hA : Amb A 4) (hp : Pk [(x, instObj 226 dx), (dx, od)] led rest) (hr : RdF B ((pathA kk).toList ++ rs) od) (hk : kk ∈ kinds3) (ha : av = .none ∨ ∃ ka ta, av = .str (stO ka) ta ∧ ka < kk)
    (k : ∀ h' od' t, RdF B rs od' → St g L h' l ([(x, instObj 226 dx), (dx, od')] ++ rest) → P (.str (stO kk) t) h')
    : W w A (call (.ref 209) [.ref x, av]) P h := by
  have hlen := kinds3_len hk
  have hsz := encO_size kk
  unfold pathA at hr
  rw [Array.toList_append, List.append_assoc] at hr
  obtain ⟨p, t, u, h1, h2, h3, hf⟩ := hr.at
  refine' w_def (binds := [(Str.ofString "self", .ref x), (Str.ofString "ahead", av)]) S G hA hp ?ho ?hcd ?hbind ?hloc ?hks ?hl ?k ?hcell ?hco ?hgen ?hk
  k_extra "DEF"
  k_extra "SS"
  refine rd_count (wd := 1) S G (hA.le (by decide)) (by k_extra "pk") hr (by (first | lia | omega)) (by (first | lia | omega)) ?_
  clear S
  intro h od t hr2 S
  k_extra "SI"
  k_extra "SS"
  refine rd_taken S G (hA.le (by decide)) (by k_extra "pk") hr2 (by rw [Array.length_toList]; exact hsz.symm) ?_
  clear S
  intro h od t hr3 S
  rw [Array.toArray_toList]
  k_extra "SI"
  k_extra "SS"
  refine w_forEn (g := g) e hA.handled nm_place rfl nm_octet rfl ?_ (fun _ => by with_unfolding_all exact rfl)
  k_extra "SS"
  refine en_make S ?_
  clear S
  intro E I h S
  refine ⟨E, I, _, _, _, _, rfl, S, ?_, ?_⟩
  · clear S
    intro i c ti tv oE oI h hc S
    have hcc := encO_get hk hc
    k_extra "SS"
    refine br_t (by simp; (first | lia | omega)) ?_
    k_extra "SS"
    refine br_f (by simp; (first | lia | omega)) ?_
    k_extra "SS"
    refine ⟨_, _, ?_, rfl, rfl⟩
    k_extra "TE"
  · clear S
    intro h S
    k_extra "SS"
    refine m_decode ?_
    k_extra "SS"
    refine c_decode hk ls_ascii fun t1 => ?_
    rcases ha with rfl | ⟨ka, ta, rfl, hlt⟩
    · k_extra "SS"
      exact ⟨_, _, [(x, _), (dx, _)], S.sel (by k_extra "pk"), fun S => k _ _ _ hr3 S⟩
    · k_extra "SS"
      refine br_t rfl ?_
      k_extra "SS"
      refine d_sle ?_
      rw [key_stO, key_stO, decide_eq_true hlt]
      k_extra "SS"
      exact ⟨_, _, [(x, _), (dx, _)], S.sel (by k_extra "pk"), fun S => k _ _ _ hr3 S⟩
theorem rd_row {x dx : Addr} {od : Obj} {B : Array UInt8} {rs : List UInt8} {kk : List Nat} {y : Str} {ty ta : Tok} {b : Array UInt8} {ah : Int} {P : Value → Heap → Prop}
    (S : St g L h l led) (G : Gd w g) (hA : Amb A 4) (hp : Pk [(x, instObj 226 dx), (dx, od)] led rest) (hr : RdF B ((encRow kk b).toList ++ rs) od) (hy : key y = kk) (ha : kk = kRel → ah < hd1 b) (hb : b.size < 256)
    (k1 : kk = kRel → ∀ h' od' a t u, RdF B rs od' → St g L h' l ([(a, tupO [.int (hd1 b) t, .bytes b u]), (x, instObj 226 dx), (dx, od')] ++ rest) → P (.ref a) h')
    (k2 : kk ≠ kRel → ∀ h' od' t, RdF B rs od' → St g L h' l ([(x, instObj 226 dx), (dx, od')] ++ rest) → P (.bytes b t) h')
    : W w A (call (.ref 223) [.ref x, .str y ty, .int ah ta]) P h := by
  obtain ⟨p, t, u, h1, h2, h3, hf⟩ := hr.at
  refine' w_def (binds := [(Str.ofString "self", .ref x), (Str.ofString "kind", .str y ty), (Str.ofString "ahead", .int ah ta)]) S G hA hp ?ho ?hcd ?hbind ?hloc ?hks ?hl ?k ?hcell ?hco ?hgen ?hk
  k_extra "DEF"
  k_extra "SS"
  refine ⟨fun q => ?_, fun q => ?_⟩
  · have hrel : kk ≠ kRel := by simpa using q
    rw [encRow_row hrel, List.append_assoc] at hr
    k_extra "SS"
    refine rd_count (wd := 2) S G (hA.le (by decide)) (by k_extra "pk") hr hb (by (first | lia | omega)) ?_
    clear S
    intro h od t hr2 S
    k_extra "SI"
    k_extra "SS"
    refine rd_taken S G (hA.le (by decide)) (by k_extra "pk") hr2 (by rw [Array.length_toList]) ?_
    clear S
    intro h od t hr3 S
    rw [Array.toArray_toList]
    k_extra "SI"
    k_extra "SS"
    exact ⟨_, _, [(x, _), (dx, _)], S.sel (by k_extra "pk"), fun S => k2 hrel _ _ _ hr3 S⟩
  · have hrel : kk = kRel := by simpa using q
    have hlt := ha hrel
    rw [hrel, encRow_rel, List.append_assoc, List.append_assoc] at hr
    k_extra "SS"
    refine rd_count (wd := 4) S G (hA.le (by decide)) (by k_extra "pk") hr (hdN_lt b) (by (first | lia | omega)) ?_
    clear S
    intro h od t hr2 S
    k_extra "SI"
    k_extra "SS"
    refine br_f (by rw [← hd1_eq]; simp; (first | lia | omega)) ?_
    obtain ⟨p, t, u, h1, h2, h3, hf⟩ := hr2.at
    k_extra "SS"
    refine rd_count (wd := 2) S G (hA.le (by decide)) (by k_extra "pk") hr2 hb (by (first | lia | omega)) ?_
    clear S
    intro h od t hr2 S
    k_extra "SI"
    k_extra "SS"
    refine rd_taken S G (hA.le (by decide)) (by k_extra "pk") hr2 (by rw [Array.length_toList]) ?_
    clear S
    intro h od t hr3 S
    rw [Array.toArray_toList]
    k_extra "SI"
    k_extra "SS"
    exact ⟨_, _, [(_, _), (x, _), (dx, _)], S.sel (by k_extra "pk"), fun S => k1 hrel _ _ _ _ _ hr3 S⟩
end
end Rd3

section Rd4
structure GoodF (f : FF) : Prop where
  three : ∀ k, f k ≠ none → k ∈ kinds3
  len : ∀ kk d, f kk = some d → d.length < 60
  size : ∀ kk d, f kk = some d → ∀ b ∈ d, b.size ≤ 10
  rel : ∀ d, f kRel = some d → (d.map hd1).Nodup ∧ ∀ b ∈ d, 1 ≤ hd1 b
def normF (f : FF) : FF := fun k => (f k).map (ordR k)
def restr (f : FF) (ks : List (List Nat)) : FF := fun k => if k ∈ ks then (f k).map (ordR k) else none
theorem restr_nil (f : FF) : restr f [] = fun _ => none := by funext k; unfold restr; rw [if_neg (by simp)]
theorem restr_snoc {f : FF} {ks : List (List Nat)} {kk : List Nat} {d : RowsT} (h : f kk = some d) : restr f (ks ++ [kk]) = upd (restr f ks) kk (ordR kk d) := by
  funext k
  unfold restr upd
  dsimp only
  by_cases e : k = kk
  · subst e
    rw [if_pos (by simp), if_pos rfl, h]; rfl
  · rw [if_neg e]
    by_cases m : k ∈ ks
    · rw [if_pos (by simp [m]), if_pos m]
    · rw [if_neg (by simp [m, e]), if_neg m]
theorem restr_all {f : FF} (h : GoodF f) : restr f (pl f) = normF f := by
  funext k
  unfold restr normF
  by_cases m : k ∈ pl f
  · rw [if_pos m]
  · rw [if_neg m]
    cases e : f k with
    | none => rfl
    | some d => exact absurd ((mem_pl h.three).mpr (by rw [e]; rfl)) m
theorem encF_toList (kk : List Nat) (d : RowsT) : (encF kk d).toList = letterB kk :: ((pathA kk).toList ++ ((cntA 4 d.length).toList ++ (encRows kk (ordR kk d)).toList)) := by
  unfold encF
  simp only [Array.toList_append, List.append_assoc]
  rfl
theorem ordR_good {f : FF} (G : GoodF f) {kk : List Nat} {d : RowsT} (h : f kk = some d) : kk = kRel → ((ordR kk d).map hd1).Pairwise (· < ·) ∧ ((ordR kk d).map hd1).Nodup ∧ ∀ b ∈ ordR kk d, 1 ≤ hd1 b := by
  intro hrel
  subst hrel
  have := G.rel d h
  have e : ordR kRel d = sortR d := by unfold ordR; rw [if_pos rfl]
  refine ⟨by rw [e]; exact sortR_strict this.1, by rw [e]; exact ((sortR_perm d).map hd1).nodup_iff.mpr this.1, fun b hb => this.2 b (ordR_mem hb)⟩
section
variable {w : World} {A : Around} {h g : Heap} {env : Env} {L : Addr} {l : Loc} {led rest : Led}
theorem read_shelf {f : FF} {tB : Tok} {P : Value → Heap → Prop}
    (S : St g L h l led) (G : Gd w g) (hA : Amb A 6) (hf : GoodF f)
    (k : ∀ h' x sl, Sh w x (normF f) sl → St g L h' l (sl ++ led) → P (.ref x) h')
    : W w A (call (.ref 237) [.bytes (encS f (pl f)) tB]) P h := by
  have hpl : (pl f).length ≤ 3 := by
    have h3 : (pl f).length ≤ kinds3.length := List.length_filter_le _ _
    have h4 : kinds3.length = 3 := rfl
    (first | lia | omega)
  have hmem : ∀ k ∈ pl f, k ∈ kinds3 ∧ ∃ d, f k = some d := fun k hk => by
    have hm := List.mem_filter.mp hk
    obtain ⟨d, hd⟩ := Option.isSome_iff_exists.mp hm.2
    exact ⟨hm.1, d, hd⟩
  have hB : (encS f (pl f)).size ≤ 3000 := by
    have := encS_size (f := f) (ks := pl f) fun k' hk' => by
      obtain ⟨h1, d', hd'⟩ := hmem k' hk'
      have e' : (f k').getD [] = d' := by rw [hd']; rfl
      rw [e']
      exact ⟨h1, hf.size _ _ hd', hf.len _ _ hd'⟩
    (first | lia | omega)
  obtain ⟨B, eB⟩ : ∃ B, B = encS f (pl f) := ⟨_, rfl⟩
  rw [← eB] at hB ⊢
  refine' w_def (binds := [(Str.ofString "octets", .bytes B tB)]) S G hA Pk.nil ?ho ?hcd ?hbind ?hloc ?hks ?hl ?k ?hcell ?hco ?hgen ?hk
  k_extra "DEF"
  k_extra "SS"
  refine rd_make S G (hA.le (by decide)) (by (first | lia | omega)) ?_
  clear S
  intro h xr dxr od hrd S
  k_extra "SS"
  refine shelf_make S G (hA.le (by decide)) ?_
  clear S
  intro h xs sl hsh S
  k_extra "SI"
  k_extra "SS"
  have three := hf.three
  refine w_while (fun n h => E5 fun ks1 ks2 av od sl => A6 (pl f = ks1 ++ ks2) (ks2.length = n) ((av = .none ∨ ∃ ka ta, av = .str (stO ka) ta ∧ ∀ k ∈ ks2, ka < k)) (RdF B (encS f ks2).toList od) (Sh w xs (restr f ks1) sl) (St g L h [([97, 104, 101, 97, 100], av), ([102, 111, 117, 110, 100], Value.ref xs), ([114, 101, 97, 100, 101, 114], Value.ref xr), ([111, 99, 116, 101, 116, 115], Value.bytes B tB)] ((xr, instObj 226 dxr) :: (dxr, od) :: sl))) (pl f).length ⟨[], pl f, .none, od, sl, rfl, rfl, .inl rfl, eB ▸ hrd, by rw [restr_nil]; exact hsh, (S.sel (by k_extra "pk")).locs (by k_extra "lsub")⟩ ?_
  clear S hsh hrd
  rintro n h ⟨ks1, ks2, av, od, sl, hks, rfl, hav, hrd, hsh, S⟩
  obtain ⟨p, t, u, h1, h2, h3, hF⟩ := hrd.at
  k_extra "SS"
  cases ks2 with
  | nil =>
    refine br_f (by
      have : (encS f []).toList.length = 0 := rfl
      simp; (first | lia | omega)) ?_
    k_extra "SS"
    rw [List.append_nil] at hks
    rw [← hks, restr_all hf] at hsh
    exact ⟨_, _, sl, S.sel (by k_extra "pk"), fun S => k _ _ _ hsh S⟩
  | cons kk ks' =>
    obtain ⟨hk3, d, hd⟩ := hmem kk (by rw [hks]; simp)
    have hgd : (f kk).getD [] = d := by rw [hd]; rfl
    have henc : (encS f (kk :: ks')).toList = letterB kk :: ((pathA kk).toList ++ ((cntA 4 d.length).toList ++ ((encRows kk (ordR kk d)).toList ++ (encS f ks').toList))) := by
      rw [encS, hgd, Array.toList_append, encF_toList]
      simp only [List.cons_append, List.append_assoc]
    refine br_t (by
      have : 1 ≤ (encS f (kk :: ks')).toList.length := by rw [henc]; simp
      simp; (first | lia | omega)) ?_
    rw [henc] at hrd
    k_extra "SS"
    refine rd_kind S G (hA.le (by decide)) (by k_extra "pk") hrd hk3 ?_
    clear S
    intro h od y ty hy hrd S
    obtain ⟨p, t, u, h1, h2, h3, hF⟩ := hrd.at
    k_extra "SI"
    k_extra "SS"
    have hsort : ∀ k ∈ ks', kk < k := by
      have := pl_sorted f
      rw [hks] at this
      exact (List.pairwise_cons.mp (List.pairwise_append.mp this).2.1).1
    refine rd_path S G (hA.le (by decide)) (by k_extra "pk") hrd hk3 (hav.imp id fun ⟨ka, ta, e1, e2⟩ => ⟨ka, ta, e1, e2 kk (.head _)⟩) ?_
    clear S
    intro h od tp hrd S
    obtain ⟨p, t, u, h1, h2, h3, hF⟩ := hrd.at
    have hdl := hf.len _ _ hd
    k_extra "SI"
    k_extra "NL"
    k_extra "SS"
    refine rd_count (wd := 4) S G (hA.le (by decide)) (by k_extra "pk") hrd (by (first | lia | omega)) (by (first | lia | omega)) ?_
    clear S
    intro h od tc hrd S
    k_extra "SI"
    k_extra "SS"
    have hog := ordR_good hf hd
    have hol := ordR_length kk d
    obtain ⟨ds, hds⟩ : ∃ ds, ds = ordR kk d := ⟨_, rfl⟩
    rw [← hds] at hrd hog hol
    have hdsz : ∀ b ∈ ds, b.size ≤ 10 := fun b hb => hf.size _ _ hd b (ordR_mem (hds ▸ hb))
    have S := S.sel (fp := (a, oa) :: (fl, _) :: (xr, instObj 226 dxr) :: (dxr, od) :: sl) (by k_extra "pk")
    refine (it_range1 S hA.handled (by k_extra "mem") ha (by (first | lia | omega))).mono fun it h2 hi2 => for_of hi2 (fun i l' led' => E6 fun la tl od ro fam vs => A6 (l' = ([114, 111, 119, 115], Value.ref fl) :: ([108, 97, 115, 116], Value.int la tl) :: [([112, 97, 116, 104], Value.str (stO kk) tp), ([107, 105, 110, 100], Value.str y ty), ([97, 104, 101, 97, 100], av), ([102, 111, 117, 110, 100], Value.ref xs), ([114, 101, 97, 100, 101, 114], Value.ref xr), ([111, 99, 116, 101, 116, 115], Value.bytes B tB)]) (led' = (a, oa) :: (fl, ro) :: (xr, instObj 226 dxr) :: (dxr, od) :: (fam ++ sl)) (IsL vs ro) (RW kk (ds.take i) vs fam) (RdF B ((encRows kk (ds.drop i)).toList ++ (encS f ks').toList) od) ((kk = kRel → ∀ b ∈ ds.drop i, la < hd1 b))) ?_ ?_ ?_
    · exact ⟨0, _, od, _, [], [], rfl, rfl, ⟨0, rfl⟩, ⟨fun _ => .nil, fun _ => ⟨rfl, .nil⟩⟩, hrd, fun hrel b hb => by have := (hog hrel).2.2 b hb; (first | lia | omega)⟩
    · clear S
      intro i v l1 led1 I oI h hin hv hj S
      obtain ⟨tv, rfl⟩ := hv
      obtain ⟨la, tl, od, ro, fam, vs, rfl, rfl, hro, hrw, hrd, hla⟩ := hj
      have hid : i < ds.length := by (first | lia | omega)
      have hdr : ds.drop i = ds[i] :: ds.drop (i + 1) := List.drop_eq_getElem_cons hid
      have hvl := hrw.length
      rw [List.length_take] at hvl
      have hb10 := hdsz _ (List.getElem_mem hid)
      rw [hdr, encRows, Array.toList_append, List.append_assoc] at hrd
      obtain ⟨p, t, u, h1, h2, h3, hF⟩ := hrd.at
      k_extra "SI"
      k_extra "SS"
      refine rd_row (b := ds[i]) S G (hA.le (by decide)) (by k_extra "pk") hrd hy (fun hrel => hla hrel _ (by rw [hdr]; exact .head _)) (by (first | lia | omega)) ?_ ?_
      · clear S
        intro hrel h od ar ti tb hrd S
        k_extra "SI"
        k_extra "SS"
        refine br_t (by simpa using hrel) ?_
        k_extra "SS"
        have hpw : ((ds.drop i).map hd1).Pairwise (· < ·) := by rw [List.map_drop]; exact (hog hrel).1.sublist (List.drop_sublist _ _)
        rw [hdr, List.map_cons, List.pairwise_cons] at hpw
        exact ⟨_, _, (by k_extra "TE"), hd1 ds[i], ti, od, oc, fam ++ [(ar, tupO [.int (hd1 ds[i]) ti, .bytes ds[i] tb])], vs ++ [.ref ar], rfl, rfl, hc, ⟨fun _ => by rw [take_succ hid]; exact (hrw.1 hrel).append, fun z => absurd hrel z⟩, hrd, fun _ b hb => hpw.1 _ (List.mem_map_of_mem hb)⟩
      · clear S
        intro hrel h od tb hrd S
        k_extra "SI"
        k_extra "SS"
        refine br_f (by simpa using hrel) ?_
        k_extra "SS"
        exact ⟨_, _, (by k_extra "TE"), 0, _, od, oc, fam, vs ++ [.bytes ds[i] tb], rfl, rfl, hc, ⟨fun z => absurd z hrel, fun _ => ⟨(hrw.2 hrel).1, by rw [take_succ hid]; exact (hrw.2 hrel).2.append (.cons ⟨_, rfl⟩ .nil)⟩⟩, hrd, fun z => absurd z hrel⟩
    · clear S
      intro l1 led1 h hj S
      obtain ⟨la, tl, od, ro, fam, vs, rfl, rfl, hro, hrw, hrd, hla⟩ := hj
      obtain ⟨dxs, ods, fls, hxs, hdxs, hFs⟩ := hsh.mem
      rw [List.take_of_length_le (by (first | lia | omega))] at hrw
      rw [List.drop_of_length_le (by (first | lia | omega))] at hrd
      k_extra "SI"
      k_extra "SS"
      refine shelf_lay S G (hA.le (by decide)) (by k_extra "pk") hsh hk3 hy hro hrw (by (first | lia | omega)) (fun hrel => (hog hrel).2) ?_
      clear S
      intro h sl' hsh' S
      k_extra "SI"
      k_extra "SS"
      exact ⟨ks'.length, by simp, ks1 ++ [kk], ks', .str (stO kk) tp, od, sl', by rw [hks]; simp, rfl, .inr ⟨kk, tp, rfl, hsort⟩, by simpa [encRows] using hrd, by rw [restr_snoc hd, ← hds]; exact hsh', (S.sel (by k_extra "pk")).locs (by k_extra "lsub")⟩
end
end Rd4

section La1
def lpl (R : RowsT) (key : Int) : Int := match R.findIdx? (fun r => decide (hd1 r = key)) with | some i => i | none => -1
theorem lpl_some {R : RowsT} {key : Int} {i : Nat} (hi : i < R.length) (e : hd1 R[i] = key) (hj : ∀ j (h : j < R.length), j < i → hd1 R[j] ≠ key) : lpl R key = i := by
  unfold lpl
  have : R.findIdx? (fun r => decide (hd1 r = key)) = some i := by
    rw [List.findIdx?_eq_some_iff_getElem]
    exact ⟨hi, by simpa using e, fun j hji => by have := hj j (by (first | lia | omega)) hji; simpa using this⟩
  rw [this]
theorem lpl_none {R : RowsT} {key : Int} (hj : ∀ r ∈ R, hd1 r ≠ key) : lpl R key = -1 := by
  unfold lpl
  have : R.findIdx? (fun r => decide (hd1 r = key)) = none := by
    rw [List.findIdx?_eq_none_iff]
    intro r hr
    simpa using hj r hr
  rw [this]
theorem lpl_cases (R : RowsT) (key : Int) : (lpl R key = -1 ∧ ∀ r ∈ R, hd1 r ≠ key) ∨ ∃ i, ∃ h : i < R.length, lpl R key = (i : Nat) ∧ hd1 R[i] = key ∧ ∀ j (h : j < R.length), j < i → hd1 R[j] ≠ key := by
  unfold lpl
  cases e : R.findIdx? fun r => decide (hd1 r = key) with
  | none =>
    refine .inl ⟨rfl, fun r hr => ?_⟩
    have := List.findIdx?_eq_none_iff.mp e r hr
    simpa using this
  | some i =>
    obtain ⟨hi, h1, h2⟩ := List.findIdx?_eq_some_iff_getElem.mp e
    exact .inr ⟨i, hi, rfl, by simpa using h1, fun j hjl hj => by have := h2 j hj; simpa using this⟩
theorem hd1_of {b : Array UInt8} (h : 1 ≤ b.size) : ∃ x, b[0]? = some x ∧ hd1 b = (x.toNat : Int) := by
  obtain ⟨⟨l⟩⟩ : ∃ c : Array UInt8, c = b := ⟨b, rfl⟩
  cases b with | mk l =>
  cases l with
  | nil => simp at h
  | cons x r => exact ⟨x, rfl, rfl⟩
section
variable {w : World} {A : Around} {h g : Heap} {env : Env} {L : Addr} {l : Loc} {led rest : Led}
theorem law_place {ra : Addr} {ro : Obj} {R : RowsT} {key : Int} {tk : Tok} {P : Value → Heap → Prop}
    (S : St g L h l led) (G : Gd w g) (hA : Amb A 2) (hp : Pk [(ra, ro)] led rest) (hr : IsR R ro) (hz : R.length ≤ 60) (hs : ∀ r ∈ R, 1 ≤ r.size ∧ r.size ≤ 10)
    (k : ∀ h' t, St g L h' l ([(ra, ro)] ++ rest) → P (.int (lpl R key) t) h')
    : W w A (call (.ref 578) [.ref ra, .int key tk]) P h := by
  obtain ⟨vs, hl, hb⟩ := hr
  have hlb := hb.length
  refine' w_def (binds := [(Str.ofString "rows", .ref ra), (Str.ofString "key", .int key tk)]) S G hA hp ?ho ?hcd ?hbind ?hloc ?hks ?hl ?k ?hcell ?hco ?hgen ?hk
  k_extra "DEF"
  k_extra "SS"
  refine (it_range1 S hA.handled (by k_extra "mem") ha (by (first | lia | omega))).mono fun it h2 hi2 => for_fix hi2 (fun i => ∀ j (h : j < R.length), j < i → hd1 R[j] ≠ key) (fun j h hj => absurd hj (Nat.not_lt_zero _)) ?_ ?_
  · clear S
    intro i v I oI h hin hv hq S
    obtain ⟨ti, rfl⟩ := hv
    have hi : i < R.length := by (first | lia | omega)
    obtain ⟨tr, hvi⟩ := hb.get (List.getElem?_eq_getElem hi)
    have hsz := hs _ (List.getElem_mem hi)
    obtain ⟨x, hx, hx1⟩ := hd1_of hsz.1
    k_extra "SI"
    k_extra "SS"
    refine d_item S (by k_extra "mem") hl (by (first | lia | omega)) (by (first | lia | omega)) (by rw [Int.toNat_natCast]; exact hvi) ?_ rfl
    k_extra "SS"
    refine b_item (by (first | lia | omega)) (by (first | lia | omega)) hx (fun t1 => ?_) rfl
    rw [← hx1]
    k_extra "SS"
    refine ⟨fun q => ?_, fun q => ?_⟩
    · have e1 : hd1 R[i] = key := by simpa using q
      k_extra "SS"
      refine ⟨_, _, [(ra, _)], S.sel (by k_extra "pk"), fun S => ?_⟩
      have kk := k _ ti S
      rw [lpl_some hi e1 hq] at kk
      exact kk
    · have e1 : hd1 R[i] ≠ key := by simpa using q
      k_extra "SS"
      refine ⟨_, _, ?_, rfl, rfl, fun j hjl hj => ?_⟩
      · k_extra "TE"
      · rcases Nat.lt_or_ge j i with z | z
        · exact hq j hjl z
        · have : j = i := by (first | lia | omega)
          subst this; exact e1
  · clear S
    intro h hq S
    k_extra "SI"
    k_extra "SS"
    refine ⟨_, _, [(ra, _)], S.sel (by k_extra "pk"), fun S => ?_⟩
    have kk := fun t => k _ t S
    rw [lpl_none (fun r hr => by obtain ⟨j, hj, e⟩ := List.getElem_of_mem hr; rw [← e]; exact hq j hj (by (first | lia | omega)))] at kk
    exact kk _
theorem open_seq {c : Addr} {oc : Obj} {y mx : Str} {ty tm : Tok} {km : List Nat} {R : RowsT} {P : Value → Heap → Prop}
    (S : St g L h l led) (G : Gd w g) (hA : Amb A 5) (hp : Pk [(c, oc)] led rest) (hy : key y = kSeq) (hmx : key mx = km) (hr : IsR R oc) (hz : R.length ≤ 1000)
    (k : ∀ R' h' x dx od oc', (km = kOut → R' = []) → (km ≠ kOut → R' = R) → RowF c km 0 (-1) true od → IsR R' oc' → St g L h' l ([(x, instObj 540 dx), (dx, od), (c, oc')] ++ rest) → P (.ref x) h')
    : W w A (call (.ref 559) [.str y ty, .ref c, .str mx tm]) P h := by
  refine' w_def (binds := [(Str.ofString "kind", .str y ty), (Str.ofString "content", .ref c), (Str.ofString "mode", .str mx tm)]) S G hA hp ?ho ?hcd ?hbind ?hloc ?hks ?hl ?k ?hcell ?hco ?hgen ?hk
  k_extra "DEF"
  k_extra "SS"
  refine row_make S G (hA.le (by decide)) (by k_extra "pk") hmx hr hz ?_ ?_
  · clear S
    intro hm h x dx od oc' hf hr' S
    k_extra "SI"
    k_extra "SS"
    exact ⟨_, _, [(x, _), (dx, _), (c, _)], S.sel (by k_extra "pk"), fun S => k [] _ _ _ _ _ (fun _ => rfl) (fun z => absurd hm z) hf hr' S⟩
  · clear S
    intro hm h x dx od hf S
    k_extra "SI"
    k_extra "SS"
    exact ⟨_, _, [(x, _), (dx, _), (c, _)], S.sel (by k_extra "pk"), fun S => k R _ _ _ _ _ (fun z => absurd z hm) (fun _ => rfl) hf hr S⟩
theorem open_rel {c : Addr} {oc : Obj} {y mx : Str} {ty tm : Tok} {km : List Nat} {d : RowsT} {P : Value → Heap → Prop}
    (S : St g L h l led) (G : Gd w g) (hA : Amb A 5) (hp : Pk [(c, oc)] led rest) (hy : key y = kRel) (hmx : key mx = km) (hr : RelC w (relRows d) c oc) (hz : d.length ≤ 60) (hm : km ≠ kExt)
    (k : ∀ d' h' x dx od oc', (km = kOut → d' = []) → (km ≠ kOut → d' = d) → RelF c km 1 false true 0 0 od → RelC w (relRows d') c oc' → St g L h' l ([(x, instObj 489 dx), (dx, od), (c, oc')] ++ rest) → P (.ref x) h')
    : W w A (call (.ref 559) [.str y ty, .ref c, .str mx tm]) P h := by
  refine' w_def (binds := [(Str.ofString "kind", .str y ty), (Str.ofString "content", .ref c), (Str.ofString "mode", .str mx tm)]) S G hA hp ?ho ?hcd ?hbind ?hloc ?hks ?hl ?k ?hcell ?hco ?hgen ?hk
  k_extra "DEF"
  k_extra "SS"
  refine rel_make S G (hA.le (by decide)) (by k_extra "pk") hmx ls_dynamic hr (by unfold relRows; simp; (first | lia | omega)) hm ?_ ?_
  · clear S
    intro hm h x dx od oc' hf hr' S
    k_extra "SI"
    k_extra "SS"
    exact ⟨_, _, [(x, _), (dx, _), (c, _)], S.sel (by k_extra "pk"), fun S => k [] _ _ _ _ _ (fun _ => rfl) (fun z => absurd hm z) hf hr' S⟩
  · clear S
    intro hm h x dx od hf S
    k_extra "SI"
    k_extra "SS"
    exact ⟨_, _, [(x, _), (dx, _), (c, _)], S.sel (by k_extra "pk"), fun S => k d _ _ _ _ _ (fun z => absurd z hm) (fun _ => rfl) hf hr S⟩
theorem open_idx {c : Addr} {oc : Obj} {y mx : Str} {ty tm : Tok} {km : List Nat} {R : RowsT} {P : Value → Heap → Prop}
    (S : St g L h l led) (G : Gd w g) (hA : Amb A 5) (hp : Pk [(c, oc)] led rest) (hy : key y = kIdx) (hmx : key mx = km) (hr : IsR R oc) (hz : R.length ≤ 5) (hm : km ≠ kExt)
    (k : ∀ R' h' x dx od oc' kl okl kt okt sl osl at_ oat fam, (km = kOut → R' = []) → (km ≠ kOut → R' = R) → KS c kl kt sl at_ km #[] false R' od oc' okl okt osl oat fam →
      St g L h' l (ksL x dx c kl kt sl at_ od oc' okl okt osl oat fam ++ rest) → P (.ref x) h')
    : W w A (call (.ref 559) [.str y ty, .ref c, .str mx tm]) P h := by
  refine' w_def (binds := [(Str.ofString "kind", .str y ty), (Str.ofString "content", .ref c), (Str.ofString "mode", .str mx tm)]) S G hA hp ?ho ?hcd ?hbind ?hloc ?hks ?hl ?k ?hcell ?hco ?hgen ?hk
  k_extra "DEF"
  k_extra "SS"
  refine key_make S G (hA.le (by decide)) (by k_extra "pk") hmx ls_dynamic hr hz hm ?_
  clear S
  intro R' h x dx od oc' kl okl kt okt sl osl at_ oat fam e1 e2 H S
  k_extra "SI"
  k_extra "SS"
  exact ⟨_, _, ksL x dx c kl kt sl at_ _ _ _ _ _ _ fam, S.sel (by k_extra "pk"), fun S => k R' _ _ _ _ _ _ _ _ _ _ _ _ _ _ e1 e2 H S⟩
end
end La1

section La0
theorem use6 {g : Heap} {L : Addr} {h : Heap} {l : Loc} {r : Led} {w : World} {f c' pa la cc cp : Addr} {fo oc opa' ola opl ocl : Obj} {Q : Prop} (S : St g L h l ((f, fo) :: (c', oc) :: (pa, opa') :: (la, ola) :: (cc, opl) :: (cp, ocl) :: r))
    (H : ∀ n k opa tk, k + n ≤ 250 → IsL [.int (k : Nat) tk] opa → Tk w f n [(f, fo), (c', oc), (pa, opa), (la, ola), (cc, opl), (cp, ocl)])
    (k : (∀ n k opa tk, k + n ≤ 250 → IsL [.int (k : Nat) tk] opa → Tk w f n [(f, fo), (c', oc), (pa, opa), (la, ola), (cc, opl), (cp, ocl)]) → Q) : Q := k H
theorem wordsLa01 : True := by
  (k_with "T0" => (
  have S := S.sel (fp := [(pa, _), (la, _), (cc, _), (cp, _), (547, _)]) (by k_extra "pk")
  refine w_fdef e S hB hcode hC (by k_extra "put") (by k_extra "cn") nm_take rfl rfl rfl rfl ?_
  clear S
  intro h f c' ocd ctv doc pm vs t ps hd hv S
  k_extra "SI"
  refine use6 (w := w) S ?_ ?_
  · clear S
    intro n
    induction n with
    | zero => intro k opa tk _ hpa; exact ⟨_, _, _, _, .head _⟩
    | succ n ih =>
      intro k opa tk hk hpa
      refine ⟨⟨_, _, _, _, .head _⟩, ?_⟩
      clear S e G
      intro g L h l led rest A S G hA hp lim tl P hlim hlim2 kk
      have S := S.pk hp
      refine c_defN (binds := [(Str.ofString "limit", .int lim tl)]) S G hA Pk.fam (by k_extra "mem") (by k_extra "mem") hd hv (fun s hs => BindsTo.of_eq rfl) (locs rfl) (by k_extra "nmap") (by k_extra "nmap") (by k_extra "nmap") ?_ (by decide) rfl rfl rfl
      clear S G
      intro g L h env A hA e S G Zq hZq
      k_extra "SS"
      refine d_set S (by k_extra "put") hpa (by (first | lia | omega)) (by simp) (by simp) ?_
      clear S
      intro h opa' hpa' S
      (try dsimp only at S)
      have hpa' : IsL [.int ((k : Int) + 1) _] opa' := hpa'
      k_extra "SS"
      refine d_fdiv (by (first | lia | omega)) (by (first | lia | omega)) fun t1 => ?_
      obtain ⟨lv, hlv⟩ : ∃ lv, lv = k / ys.length := ⟨_, rfl⟩
      have hlvk : lv ≤ k := by rw [hlv]; exact Nat.div_le_self _ _
      have e1 : (k : Int).fdiv (ys.length : Int) = (lv : Int) := by rw [Int.fdiv_eq_ediv_of_nonneg _ (by (first | lia | omega)), ← Int.natCast_ediv, ← hlv]
      rw [e1]
      k_extra "SS"
      refine d_mod (by (first | lia | omega)) fun t2 => ?_
      obtain ⟨ix, hix⟩ : ∃ ix, ix = k % ys.length := ⟨_, rfl⟩
      have hixl : ix < ys.length := by rw [hix]; exact Nat.mod_lt _ (by (first | lia | omega))
      have e2 : (k : Int).fmod (ys.length : Int) = (ix : Int) := by rw [Int.fmod_eq_emod_of_nonneg _ (by (first | lia | omega)), ← Int.natCast_emod, ← hix]
      rw [e2]
      obtain ⟨m, tm, hym, -⟩ := IntsAre.at hms ix _ (List.getElem?_eq_getElem hixl)
      refine d_item S (by k_extra "mem") hla (by (first | lia | omega)) (by (first | lia | omega)) (by rw [Int.toNat_natCast, List.getElem?_eq_getElem hixl, hym]) ?_ rfl
      k_extra "SS"
      refine d_pow (by (first | lia | omega)) (by (first | lia | omega)) (by decide) fun t3 => ?_
      rw [Int.toNat_natCast]
      refine d_fdivL (by have : (0 : Int) < 720720 ^ lv := Int.pow_pos (by (first | lia | omega)); (first | lia | omega)) ?_ fun t4 => ?_
      · have h2 : ((720720 : Int) ^ lv).natAbs = 720720 ^ lv := by rw [Int.natAbs_pow]; rfl
        rw [h2]
        have h3 : 720720 ^ lv ≤ (2 ^ 20) ^ lv := Nat.pow_le_pow_left (by decide) _
        have h4 : (2 ^ 20) ^ lv < 2 ^ 9000 := by rw [← Nat.pow_mul]; exact Nat.pow_lt_pow_right (by (first | lia | omega)) (by (first | lia | omega))
        exact (Nat.log2_lt (Nat.pos_iff_ne_zero.mp (Nat.pow_pos (by (first | lia | omega))))).mpr (by (first | lia | omega))
      k_extra "SS"
      refine d_mul (by decide) (by (first | lia | omega)) fun t5 => ?_
      k_extra "SS"
      refine d_mul (by (first | lia | omega)) (by (first | lia | omega)) fun t6 => ?_
      k_extra "SS"
      refine d_mod (by (first | lia | omega)) fun t7 => ?_
      k_extra "SS"
      have h0 : 0 ≤ (m.fdiv (720720 ^ lv) + (lv : Int) * (7 * (k : Int) + 3)).fmod lim := by rw [Int.fmod_eq_emod_of_nonneg _ (by (first | lia | omega))]; exact Int.emod_nonneg _ (by (first | lia | omega))
      have h1 : (m.fdiv (720720 ^ lv) + (lv : Int) * (7 * (k : Int) + 3)).fmod lim < lim := by rw [Int.fmod_eq_emod_of_nonneg _ (by (first | lia | omega))]; exact Int.emod_lt_of_pos _ (by (first | lia | omega))
      exact ⟨_, _, [(f, _), (c', _), (pa, opa'), (la, _), (cc, _), (cp, _)], S.sel (by k_extra "pk"), fun S => kk _ _ _ _ h0 h1 (ih (k + 1) opa' _ (by (first | lia | omega)) hpa') S⟩
  · intro hTk
    k_extra "SS"
    exact ⟨_, _, (f, _) :: (c', _) :: (pa, _) :: (la, _) :: (cc, _) :: (cp, _) :: [(547, _)], S.sel (by k_extra "pk"), fun S => k _ _ _ _ (hTk 200 0 _ _ (by (first | lia | omega)) ⟨0, rfl⟩) S⟩))
  trivial
section
variable {w : World} {A : Around} {h g : Heap} {env : Env} {L : Addr} {l : Loc} {led rest : Led}
theorem l_eqlen {a b : Addr} {vs us : List Value} {P : Value → Heap → Prop} (ha : h.IsList a vs.toArray) (hb : h.IsList b us.toArray) (hs : vs.length ≠ us.length) (hu : A.units < 9900) (k : P (.bool false) h) : W w A (compareOp .Eq (.ref a) (.ref b)) P h :=
  W.of fun s Q e q => by
    subst e
    exact SeqAt.eq_list_lengthsAt (A := A) ha hb (by simpa using hs) hu (q _ _ s.toks k)
theorem d_fdivL {a b : Int} {t u : Tok} {P : Value → Heap → Prop} (hb : b ≠ 0) (hp : b.natAbs.log2 < 9000) (k : ∀ t, P (.int (a.fdiv b) t) h) : W w A (binaryOp .FloorDiv (.int a t) (.int b u)) P h :=
  W.of fun s Q hs q => PyProof.Rows.floordiv_int hb (by subst hs; exact q _ _ _ (k _)) (.inl (PyProof.noPylong_of_log2 hp))
theorem l_eqnil {c d : Addr} {oc od : Obj} {vs : List Value} (S : St g L h l led) (mc : (c, oc) ∈ led) (hc : IsL vs oc) (md : (d, od) ∈ led) (hd : IsL [] od) (hu : A.units + 2 < 9900) {P : Value → Heap → Prop} (k : P (.bool vs.isEmpty) h) : W w A (compareOp .Eq (.ref c) (.ref d)) P h := by
  cases vs with
  | nil => exact l_eq0 S mc hc md hd hu k
  | cons v vs => exact l_eqlen (us := []) (hc.ints (S.get mc)) (hd.ints (S.get md)) (by simp) (by (first | lia | omega)) k
theorem law_taker {sc : Addr} {xs : List Value} {ns : List Int} {P : Value → Heap → Prop}
    (S : St g L h l led) (G : Gd w g) (hA : Amb A 3) (hp : Pk [(547, tabObj #[])] led rest) (hB : BM g) (hC : CodeHd g 551 547) (hl : g.IsList sc xs.toArray) (hi : IntsAre xs ns) (hz : ns.length ≤ 1000)
    (k : ∀ h' f tl ps, Tk w f 200 tl → St g L h' l (tl ++ ((547, tabObj ps) :: rest)) → P (.ref f) h')
    : W w A (call (.ref 552) [.ref sc]) P h := by
  have hxl := hi.length
  refine w_ofC ?_
  refine' c_defCx (binds := [(Str.ofString "script", .ref sc)]) (bl := [(Str.ofString "script", .ref sc)]) (ns := [Str.ofString "place", Str.ofString "cells"]) S G hA hp ?ho ?hcd ?hbind ?hkind ?hnd ?hks ?hbl ?hl ?hns ?hm ?k ?hco ?hgen ?hk
  (case ho => k_is); (case hcd => k_is); (case hbind => (intro s hs; first | exact BindsTo.of_eq rfl | exact binds_K (hs ▸ G.X.keeps S.keep) rfl (by k_is) rfl rfl rfl)); (case hkind => rfl); (case hnd => decide +kernel); (case hks => (k_extra "nmap")); (case hbl => kernel_rfl); (case hl => (k_extra "nmap")); (case hns => kernel_rfl); (case hm => rfl); (case hco => exact rfl); (case hgen => exact rfl); (case hk => exact rfl)
  intro g L h env A cs cells hcode keepg X hA e S G Zq hZq
  have hB := hB.keeps keepg
  have hC := hC.keeps keepg
  have hl := hl.at fun o e => keepg _ o e
  obtain ⟨cc, cp, oc1, oc2, rfl, rfl, i1, i2⟩ := X.two
  rw [nm_place, nm_cells] at e
  have i1 := IsC.to i1 (v' := none) (by rfl)
  have i2 := IsC.to i2 (v' := none) (by rfl)
  clear X
  dsimp only [List.cons_append, List.nil_append] at S
  k_extra "SS"
  refine l_slice S (hl.at fun o e => S.keep _ o e) (by k_extra "mem") .none (.int _ _) (by (first | lia | omega)) ?_ (by with_unfolding_all exact rfl) (by intro _; with_unfolding_all exact rfl)
  clear S
  intro D h oD hD S
  have hms := slice_ints_uptoW hi (y := 40) (by (first | lia | omega))
  obtain ⟨ys, hys⟩ : ∃ ys, ys = (slicePick xs.toArray none (some 40) none).toList := ⟨_, rfl⟩
  obtain ⟨ms, hmsd⟩ : ∃ ms, ms = ns.take (40 : Int).toNat := ⟨_, rfl⟩
  rw [← hys] at hD hms
  rw [← hmsd] at hms
  have hml : ms.length ≤ 1000 := by rw [hmsd, List.length_take]; (first | lia | omega)
  have hyl := hms.length
  clear hys hmsd
  k_extra "SS"
  refine l_eqnil S (by k_extra "mem") hD (by k_extra "mem") ⟨0, rfl⟩ (by have := hA.units; (first | lia | omega)) ?_
  k_extra "SS"
  refine br_mid (fun h' => E5 fun la ola oc' ys ms => A6 (IsC (some (.ref la)) oc') (IsL ys ola) (IntsAre ys ms) (1 ≤ ys.length) (ys.length ≤ 1000) (St g L h' [([115, 99, 114, 105, 112, 116], Value.ref sc)] [(la, ola), (cc, oc1), (cp, oc'), (547, tabObj #[])])) ?_ ?_ ?_
  · intro q
    k_extra "NL"
    k_extra "SS"
    exact ⟨fl, _, _, [Value.int 1 t], [1], ‹IsC (some (.ref fl)) _›, ⟨0, rfl⟩, .cons _ _ .nil, Nat.le_refl _, Nat.le_of_ble_eq_true rfl, S.sel (by k_extra "pk")⟩
  · intro q
    have hy1 : 1 ≤ ys.length := by
      cases ys with
      | nil => cases q
      | cons y ys => exact Nat.succ_le_succ (Nat.zero_le _)
    k_extra "SS"
    exact ⟨D, _, _, ys, ms, ‹IsC (some (.ref D)) _›, hD, hms, hy1, by (first | lia | omega), S.sel (by k_extra "pk")⟩
  clear S hD hms hml hyl
  rintro h ⟨la, ola, oc', ys, ms, hcp, hla, hms, hy1, hy2, S⟩
  k_extra "SS"
  obtain ⟨pa, rfl⟩ : ∃ y, y = a := ⟨a, rfl⟩
  have hcc := ‹IsC (some (.ref pa)) _›
  have S := S.sel (fp := [(pa, _), (la, _), (cc, _), (cp, _), (547, _)]) (by k_extra "pk")
  refine w_fdef e S hB hcode hC (by k_extra "put") (by k_extra "cn") nm_take rfl rfl rfl rfl ?_
  clear S
  intro h f c' ocd ctv doc pm vs t ps hd hv S
  k_extra "SI"
  refine use6 (w := w) S ?_ ?_
  · clear S
    intro n
    induction n with
    | zero => intro k opa tk _ hpa; exact ⟨_, _, _, _, .head _⟩
    | succ n ih =>
      intro k opa tk hk hpa
      refine ⟨⟨_, _, _, _, .head _⟩, ?_⟩
      clear S e G
      intro g L h l led rest A S G hA hp lim tl P hlim hlim2 kk
      have S := S.pk hp
      refine c_defN (binds := [(Str.ofString "limit", .int lim tl)]) S G hA Pk.fam (by k_extra "mem") (by k_extra "mem") hd hv (fun s hs => BindsTo.of_eq rfl) (locs rfl) (by k_extra "nmap") (by k_extra "nmap") (by k_extra "nmap") ?_ (by decide) rfl rfl rfl
      clear S G
      intro g L h env A hA e S G Zq hZq
      k_extra "SS"
      refine d_set S (by k_extra "put") hpa (by (first | lia | omega)) (by simp) (by simp) ?_
      clear S
      intro h opa' hpa' S
      (try dsimp only at S)
      have hpa' : IsL [.int ((k : Int) + 1) _] opa' := hpa'
      k_extra "SS"
      refine d_fdiv (by (first | lia | omega)) (by (first | lia | omega)) fun t1 => ?_
      obtain ⟨lv, hlv⟩ : ∃ lv, lv = k / ys.length := ⟨_, rfl⟩
      have hlvk : lv ≤ k := by rw [hlv]; exact Nat.div_le_self _ _
      have e1 : (k : Int).fdiv (ys.length : Int) = (lv : Int) := by rw [Int.fdiv_eq_ediv_of_nonneg _ (by (first | lia | omega)), ← Int.natCast_ediv, ← hlv]
      rw [e1]
      k_extra "SS"
      refine d_mod (by (first | lia | omega)) fun t2 => ?_
      obtain ⟨ix, hix⟩ : ∃ ix, ix = k % ys.length := ⟨_, rfl⟩
      have hixl : ix < ys.length := by rw [hix]; exact Nat.mod_lt _ (by (first | lia | omega))
      have e2 : (k : Int).fmod (ys.length : Int) = (ix : Int) := by rw [Int.fmod_eq_emod_of_nonneg _ (by (first | lia | omega)), ← Int.natCast_emod, ← hix]
      rw [e2]
      obtain ⟨m, tm, hym, -⟩ := IntsAre.at hms ix _ (List.getElem?_eq_getElem hixl)
      refine d_item S (by k_extra "mem") hla (by (first | lia | omega)) (by (first | lia | omega)) (by rw [Int.toNat_natCast, List.getElem?_eq_getElem hixl, hym]) ?_ rfl
      k_extra "SS"
      refine d_pow (by (first | lia | omega)) (by (first | lia | omega)) (by decide) fun t3 => ?_
      rw [Int.toNat_natCast]
      refine d_fdivL (by have : (0 : Int) < 720720 ^ lv := Int.pow_pos (by (first | lia | omega)); (first | lia | omega)) ?_ fun t4 => ?_
      · have h2 : ((720720 : Int) ^ lv).natAbs = 720720 ^ lv := by rw [Int.natAbs_pow]; rfl
        rw [h2]
        have h3 : 720720 ^ lv ≤ (2 ^ 20) ^ lv := Nat.pow_le_pow_left (by decide) _
        have h4 : (2 ^ 20) ^ lv < 2 ^ 9000 := by rw [← Nat.pow_mul]; exact Nat.pow_lt_pow_right (by (first | lia | omega)) (by (first | lia | omega))
        exact (Nat.log2_lt (Nat.pos_iff_ne_zero.mp (Nat.pow_pos (by (first | lia | omega))))).mpr (by (first | lia | omega))
      k_extra "SS"
      refine d_mul (by decide) (by (first | lia | omega)) fun t5 => ?_
      k_extra "SS"
      refine d_mul (by (first | lia | omega)) (by (first | lia | omega)) fun t6 => ?_
      k_extra "SS"
      refine d_mod (by (first | lia | omega)) fun t7 => ?_
      k_extra "SS"
      have h0 : 0 ≤ (m.fdiv (720720 ^ lv) + (lv : Int) * (7 * (k : Int) + 3)).fmod lim := by rw [Int.fmod_eq_emod_of_nonneg _ (by (first | lia | omega))]; exact Int.emod_nonneg _ (by (first | lia | omega))
      have h1 : (m.fdiv (720720 ^ lv) + (lv : Int) * (7 * (k : Int) + 3)).fmod lim < lim := by rw [Int.fmod_eq_emod_of_nonneg _ (by (first | lia | omega))]; exact Int.emod_lt_of_pos _ (by (first | lia | omega))
      exact ⟨_, _, [(f, _), (c', _), (pa, opa'), (la, _), (cc, _), (cp, _)], S.sel (by k_extra "pk"), fun S => kk _ _ _ _ h0 h1 (ih (k + 1) opa' _ (by (first | lia | omega)) hpa') S⟩
  · intro hTk
    k_extra "SS"
    exact ⟨_, _, (f, _) :: (c', _) :: (pa, _) :: (la, _) :: (cc, _) :: (cp, _) :: [(547, _)], S.sel (by k_extra "pk"), fun S => k _ _ _ _ (hTk 200 0 _ _ (by (first | lia | omega)) ⟨0, rfl⟩) S⟩
end
end La0

section La2
theorem BV.perm {vs vs' : List Value} (p : vs'.Perm vs) : ∀ {R : RowsT}, BV vs R → ∃ R', BV vs' R' ∧ R'.Perm R := by
  induction p with
  | nil => intro R h; exact ⟨R, h, .refl _⟩
  | cons x _ ih =>
    intro R h
    cases h with
    | cons e h => obtain ⟨R', h1, h2⟩ := ih h; exact ⟨_, .cons e h1, h2.cons _⟩
  | swap x y l =>
    intro R h
    cases h with
    | cons e h => cases h with
      | cons e' h => exact ⟨_, .cons e' (.cons e h), .swap _ _ _⟩
  | trans _ _ ih1 ih2 =>
    intro R h
    obtain ⟨R2, h1, h2⟩ := ih2 h
    obtain ⟨R3, h3, h4⟩ := ih1 h1
    exact ⟨R3, h3, h4.trans h2⟩
theorem BV.bytes {vs R} (H : BV vs R) : ∀ v ∈ vs, ∃ b t, v = .bytes b t := by
  induction H with
  | nil => intro v hv; cases hv
  | cons h _ ih =>
    intro v hv
    rcases List.mem_cons.mp hv with rfl | hv
    · obtain ⟨t, rfl⟩ := h; exact ⟨_, _, rfl⟩
    · exact ih v hv
theorem BV.sortable {vs R} (H : BV vs R) : Sortable bytesO vs := by
  constructor
  · intro v hv
    obtain ⟨b, t, rfl⟩ := H.bytes v hv
    exact ⟨_, rfl⟩
  · refine ⟨"bytes", fun v hv => ?_⟩
    obtain ⟨b, t, rfl⟩ := H.bytes v hv
    exact ⟨rfl, rfl⟩
theorem BV.sorted {vs R} (H : BV vs R) (hs : SortedV bytesO vs) : R.Pairwise fun a b => ¬ nat8 b < nat8 a := by
  unfold SortedV at hs
  induction H with
  | nil => exact .nil
  | @cons v vs r rs h H ih =>
    rw [List.pairwise_cons] at hs
    refine List.pairwise_cons.mpr ⟨fun b hb => ?_, ih hs.2⟩
    obtain ⟨t, rfl⟩ := h
    obtain ⟨i, hi, e⟩ := List.getElem_of_mem hb
    obtain ⟨u, hu⟩ := H.get (List.getElem?_eq_getElem hi)
    have := hs.1 _ (List.mem_of_getElem? hu) (nat8 r) (nat8 b) rfl (by rw [e])
    have h2 : decide (nat8 b < nat8 r) = false := this
    simpa using h2
theorem nat8_lt {a b : Array UInt8} (ha : 1 ≤ a.size) (hb : 1 ≤ b.size) (h : hd1 a < hd1 b) : nat8 a < nat8 b := by
  cases a with | mk la =>
  cases b with | mk lb =>
  cases la with
  | nil => simp at ha
  | cons x r =>
    cases lb with
    | nil => simp at hb
    | cons y s =>
      have h : (x.toNat : Int) < (y.toNat : Int) := h
      show (x.toNat :: r.map UInt8.toNat) < (y.toNat :: s.map UInt8.toNat)
      rw [List.cons_lt_cons_iff]
      exact .inl (by (first | lia | omega))
theorem bytes_sortR {vs vs' : List Value} {R : RowsT} (hb : BV vs R) (hp : vs'.Perm vs) (hs : SortedV bytesO vs') (hn : (R.map hd1).Nodup) (hz : ∀ r ∈ R, 1 ≤ r.size) : BV vs' (sortR R) := by
  obtain ⟨R', h1, h2⟩ := hb.perm hp
  have h3 := h1.sorted hs
  have hn' : (R'.map hd1).Nodup := (h2.map hd1).nodup_iff.mpr hn
  have h4 : (R'.map hd1).Pairwise (· < ·) := by
    rw [List.pairwise_map]
    have hn2 := List.pairwise_map.mp (List.nodup_iff_pairwise_ne.mp hn')
    refine List.Pairwise.imp_of_mem (fun {a b} ha hb hh => ?_) (List.Pairwise.and h3 hn2)
    obtain ⟨x1, x2⟩ := hh
    refine Classical.byContradiction fun z => ?_
    exact x1 (nat8_lt (hz _ (h2.mem_iff.mp hb)) (hz _ (h2.mem_iff.mp ha)) (by (first | lia | omega)))
  rw [← sortR_of h2 h4]
  exact h1
section
variable {w : World} {A : Around} {h g : Heap} {env : Env} {L : Addr} {l : Loc} {led rest : Led}
theorem q_sortedB {c : Addr} {oc : Obj} {R : RowsT} (S : St g L h l led) (m : (c, oc) ∈ led) (hr : IsR R oc) (hz : R.length < 60) (hn : (R.map hd1).Nodup) (hs : ∀ r ∈ R, 1 ≤ r.size) {P : Value → Heap → Prop}
    (k : ∀ a h' o vs, IsL vs o → BV vs (sortR R) → St g L h' l ((a, o) :: led) → P (.ref a) h') : W w A (call (.builtin "sorted") [.ref c]) P h := by
  obtain ⟨vs, hl, hb⟩ := hr
  exact q_sorted S m hl bytesO_oneLt hb.sortable (by have := hb.length; (first | lia | omega)) fun a h' o vs' hl' hp hss S' => k a h' o vs' hl' (bytes_sortR hb hp hss hn hs) S'
theorem in_order_seq {ra : Addr} {ro : Obj} {R : RowsT} {y : Str} {ty : Tok} {P : Value → Heap → Prop}
    (S : St g L h l led) (G : Gd w g) (hA : Amb A 2) (hp : Pk [(ra, ro)] led rest) (hy : key y = kSeq) (hr : IsR R ro) (hz : R.length ≤ 1000)
    (k : ∀ h' a o, IsR R o → St g L h' l ([(a, o), (ra, ro)] ++ rest) → P (.ref a) h')
    : W w A (call (.ref 566) [.str y ty, .ref ra]) P h := by
  obtain ⟨vs, hl, hb⟩ := hr
  have hlb := hb.length
  refine' w_def (binds := [(Str.ofString "kind", .str y ty), (Str.ofString "rows", .ref ra)]) S G hA hp ?ho ?hcd ?hbind ?hloc ?hks ?hl ?k ?hcell ?hco ?hgen ?hk
  k_extra "DEF"
  k_extra "SS"
  exact ⟨_, _, [(_, _), (ra, _)], S.sel (by k_extra "pk"), fun S => k _ _ _ ⟨_, hc, hb⟩ S⟩
theorem in_order_key {ra : Addr} {ro : Obj} {R : RowsT} {y : Str} {ty : Tok} {kk : List Nat} {P : Value → Heap → Prop}
    (S : St g L h l led) (G : Gd w g) (hA : Amb A 2) (hp : Pk [(ra, ro)] led rest) (hy : key y = kk) (hk : kk ≠ kSeq) (hr : IsR R ro) (hz : R.length < 60) (hn : (R.map hd1).Nodup) (hs : ∀ r ∈ R, 1 ≤ r.size)
    (k : ∀ h' a o, IsR (sortR R) o → St g L h' l ([(a, o), (ra, ro)] ++ rest) → P (.ref a) h')
    : W w A (call (.ref 566) [.str y ty, .ref ra]) P h := by
  refine' w_def (binds := [(Str.ofString "kind", .str y ty), (Str.ofString "rows", .ref ra)]) S G hA hp ?ho ?hcd ?hbind ?hloc ?hks ?hl ?k ?hcell ?hco ?hgen ?hk
  k_extra "DEF"
  k_extra "SS"
  refine br_f (by simpa using hk) ?_
  k_extra "SS"
  refine q_sortedB S (by k_extra "mem") hr hz hn hs ?_
  clear S
  intro a h o vs hl hb S
  k_extra "SS"
  exact ⟨_, _, [(a, _), (ra, _)], S.sel (by k_extra "pk"), fun S => k _ _ _ ⟨_, hl, hb⟩ S⟩
theorem law_told {d : Addr} {f : FF} {sl : Led} {P : Value → Heap → Prop}
    (S : St g L h l led) (G : Gd w g) (hA : Amb A 2) (hp : Pk sl led rest) (H : Fs w d f sl) (hf : GoodF f) (h1 : ∀ kk R, f kk = some R → ∀ r ∈ R, 1 ≤ r.size)
    (k : ∀ h' a vs fam, LVs fam vs ((pl f).map (onePD f)) → St g L h' l ((a, tupO vs) :: fam ++ sl ++ rest) → P (.ref a) h')
    : W w A (call (.ref 571) [.ref d]) P h := by
  obtain ⟨od, kvs, fam0, hpe, hd, hg⟩ := H
  have hdm : (d, od) ∈ sl := hpe.mem_iff.mpr (.head _)
  have hkl := hg.len
  refine' w_def (binds := [(Str.ofString "files", .ref d)]) S G hA hp ?ho ?hcd ?hbind ?hloc ?hks ?hl ?k ?hcell ?hco ?hgen ?hk
  k_extra "DEF"
  k_extra "NL"
  have hfl : IsL [] (W.listOf #[] 0) := ⟨0, rfl⟩
  k_extra "SS"
  refine q_sortedD S hA.handled (by k_extra "mem") hd PyProof.Rows.strKind_oneLt (fun us hu => (keysAre_sv hu).sortable) (by (first | lia | omega)) ?_
  clear S
  intro a h o us vs hu hl hpp hs S
  have hsv := hg.sorted hu hpp hs
  have hvl : vs.length ≤ 3 := by
    have h1 := hsv.length
    have h2 : (pl f).length ≤ kinds3.length := List.length_filter_le _ _
    have h3 : kinds3.length = 3 := rfl
    (first | lia | omega)
  refine (it_list S hA.handled (by k_extra "pk") hl).mono fun it h2 hi2 => for_of hi2 (fun i l' led' => A2 (l' = [([102, 111, 117, 110, 100], Value.ref fl), ([102, 105, 108, 101, 115], Value.ref d)]) (E3 fun fam o tvs => A4 (led' = (fl, o) :: (fam ++ sl)) (IsL tvs o) (LVs fam tvs (((pl f).map (onePD f)).take i)) (tvs.length = i))) ⟨rfl, [], _, [], rfl, hfl, .nil, rfl⟩ ?_ ?_
  · clear S
    intro i v l1 led1 I oI h hin hv hj S
    obtain ⟨rfl, fam, o, tvs, rfl, ho, htv, hlen⟩ := hj
    obtain ⟨px, tp, kk, rfl, hkk, hpi⟩ := hsv.get hv
    obtain rfl := stO_of hkk
    have hmem := List.mem_of_getElem? hpi
    obtain ⟨R, hR⟩ := Option.isSome_iff_exists.mp (List.mem_filter.mp hmem).2
    obtain ⟨v, fe, fam', ⟨ca, ox, rfl, rfl, hcx⟩, hva, hpf, -⟩ := hg.at hR
    have hca : (ca, ox) ∈ sl := hpe.mem_iff.mpr (.tail _ (hpf.mem_iff.mpr (.head _)))
    have hRl := hf.len _ _ hR
    k_extra "SI"
    k_extra "SS"
    have hR1 := h1 _ _ hR
    have e1 : ∀ ds, rowsPD kk R = .tup ds → ((pl f).map (onePD f)).take (i + 1) = ((pl f).map (onePD f)).take i ++ [PD.tup [.str kk, .str kk, .tup ds]] := fun ds hds => by
      rw [List.take_add_one, List.getElem?_map, hpi]
      show _ ++ [onePD f kk] = _
      unfold onePD
      rw [hR, Option.getD_some, hds]
    refine ⟨fun q => ?_, fun q => ?_⟩
    · have hrel : kk = kRel := by simpa using q
      have hnd : (R.map hd1).Nodup := (hf.rel R (hrel ▸ hR)).1
      k_extra "SS"
      refine q_sortedB S (by k_extra "mem") hcx hRl hnd hR1 ?_
      clear S
      intro so h oso svs hsl hsb S
      have hsl' := hsb.length
      have hsR := (sortR_perm R).length_eq
      k_extra "SS"
      refine (it_list S hA.handled (by k_extra "pk") hsl).mono fun it h2 hi2 => comp_fam hi2 (by (first | lia | omega)) (fun i ys fam => NV fam ys ((sortR R).take i)) .nil ?_ ?_
      · intro j v ys fam2 I oI oL D oD C h env hj hv hy hjn e S
        have hjl : j < (sortR R).length := by (first | lia | omega)
        obtain ⟨tb, hvb⟩ := hsb.get (List.getElem?_eq_getElem hjl)
        rw [hv] at hvb
        obtain rfl := Option.some.inj hvb
        have hmm := (sortR_perm R).mem_iff.mp (List.getElem_mem hjl)
        obtain ⟨x, hx, hx1⟩ := hd1_of (hR1 _ hmm)
        have hbz := hf.size _ _ hR _ hmm
        k_extra "SIE"
        k_extra "SS"
        refine b_item (by (first | lia | omega)) (by (first | lia | omega)) hx (fun t1 => ?_) rfl
        rw [← hx1]
        k_extra "SS"
        refine ⟨[], _, ?_, fam2 ++ [(a, tupO [.int (hd1 (sortR R)[j]) t1, .bytes (sortR R)[j] tb])], rfl, by rw [take_succ hjl]; exact hjn.append⟩
        (try simp only [List.append_eq])
        k_extra "TE"
      · clear S
        intro ys fam2 D oD h hyl hjn hyo S
        rw [List.take_of_length_le (by (first | lia | omega))] at hjn
        k_extra "SI"
        k_extra "NT"
        obtain ⟨ra, rfl⟩ : ∃ y, y = a := ⟨a, rfl⟩
        k_extra "SS"
        refine ⟨_, _, (by k_extra "TE"), rfl, fam ++ ((ft, tupO [.str (stO kk) tp, .str (stO kk) tp, .ref ra]) :: (ra, _) :: fam2), oc, tvs ++ [.ref ft], rfl, hc, ?_, by simp [hlen]⟩
        rw [e1 (nvPD (sortR R)) (by unfold rowsPD; rw [if_pos hrel])]
        refine (htv.mono fun q hq => List.mem_append_left _ hq).append (.tup (List.mem_append_right _ (.head _)) (.cons (.str rfl) (.cons (.str rfl) (.cons (.tup (List.mem_append_right _ (.tail _ (.head _))) ?_) .nil))))
        exact hjn.lvs.mono fun q hq => List.mem_append_right _ (.tail _ (.tail _ hq))
    · have hrel : kk ≠ kRel := by simpa using q
      obtain ⟨cvs, hcl, hcb⟩ := hcx
      have hcbl := hcb.length
      k_extra "NT"
      obtain ⟨ra, rfl⟩ : ∃ y, y = a := ⟨a, rfl⟩
      k_extra "SS"
      refine ⟨_, _, (by k_extra "TE"), rfl, fam ++ ((ft, tupO [.str (stO kk) tp, .str (stO kk) tp, .ref ra]) :: (ra, _) :: []), oc, tvs ++ [.ref ft], rfl, hc, ?_, by simp [hlen]⟩
      rw [e1 (R.map PD.bytes) (by unfold rowsPD; rw [if_neg hrel])]
      refine (htv.mono fun q hq => List.mem_append_left _ hq).append (.tup (List.mem_append_right _ (.head _)) (.cons (.str rfl) (.cons (.str rfl) (.cons (.tup (List.mem_append_right _ (.tail _ (.head _))) ?_) .nil))))
      exact hcb.lvs
  · clear S
    intro l1 led1 h hj S
    obtain ⟨rfl, fam, o, tvs, rfl, ho, htv, hlen⟩ := hj
    rw [List.take_of_length_le (by rw [List.length_map, hsv.length]; exact Nat.le_refl _)] at htv
    k_extra "SI"
    k_extra "SS"
    exact ⟨_, _, (_, _) :: (fam ++ sl), S.sel (by k_extra "pk"), fun S => k _ _ _ fam htv (by simpa using S)⟩
end
end La2

section La3
def sz3 (R : RowsT) : Prop := ∀ r ∈ R, 1 ≤ r.size ∧ r.size ≤ 3
theorem sz3.snoc {R : RowsT} {b : Array UInt8} (H : sz3 R) (hb : 1 ≤ b.size ∧ b.size ≤ 3) : sz3 (R ++ [b]) := fun r hr => by
  rcases List.mem_append.mp hr with z | z
  · exact H r z
  · rw [List.mem_singleton.mp z]; exact hb
theorem sz3.set {R : RowsT} {b : Array UInt8} (H : sz3 R) (hb : 1 ≤ b.size ∧ b.size ≤ 3) (i : Nat) : sz3 (R.set i b) := fun r hr => by
  rcases List.mem_or_eq_of_mem_set hr with z | rfl
  · exact H r z
  · exact hb
theorem rev_size (b : Array UInt8) : b.toList.reverse.toArray.size = b.size := by simp
section
variable {w : World} {A : Around} {h g : Heap} {env : Env} {L : Addr} {l : Loc} {led rest : Led}
theorem rows_right {ra x dx c : Addr} {ro od oc : Obj} {mx : Str} {tm tb : Tok} {km : List Nat} {R : RowsT} {at_ last : Int} {v tu : Bool} {b : Array UInt8} {P : Value → Heap → Prop}
    (S : St g L h l led) (G : Gd w g) (hA : Amb A 5) (hp : Pk [(ra, ro), (x, instObj 540 dx), (dx, od), (c, oc)] led rest) (hmx : key mx = km) (hm : km = kOut ∨ km = kExt ∨ km = kIo)
    (hr : IsR R ro) (hC : IsR R oc) (hf : RowF c km at_ last v od) (h0 : 0 ≤ at_) (hv : v = false → (R.length : Int) ≤ at_) (hvw : km ≠ kIo → v = true) (hz : R.length ≤ 500) (hs : sz3 R) (hb : 1 ≤ b.size ∧ b.size ≤ 3)
    (k : ∀ R' h' ro' od' oc' at' last' v', R'.length ≤ R.length + 1 → sz3 R' → IsR R' ro' → IsR R' oc' → RowF c km at' last' v' od' → 0 ≤ at' → (v' = false → (R'.length : Int) ≤ at') → (km ≠ kIo → v' = true) →
      St g L h' l ([(ra, ro'), (x, instObj 540 dx), (dx, od'), (c, oc')] ++ rest) → P (.bool true) h')
    : W w A (call (.ref 592) [.str mx tm, .ref ra, .ref x, .bool tu, .bytes b tb]) P h := by
  obtain ⟨rvs, hrl, hrb⟩ := id hr
  have hrlen := hrb.length
  obtain ⟨mx2, tm2, t1, t2, hmx2, hF⟩ := id hf
  refine' w_def (binds := [(Str.ofString "mode", .str mx tm), (Str.ofString "rows", .ref ra), (Str.ofString "open_file", .ref x), (Str.ofString "is_turned", .bool tu), (Str.ofString "row", .bytes b tb)]) S G hA hp ?ho ?hcd ?hbind ?hloc ?hks ?hl ?k ?hcell ?hco ?hgen ?hk
  k_extra "DEF"
  k_extra "SS"
  refine ⟨fun q => ?_, fun q => ?_⟩
  · have hio : km ≠ kIo := by simpa using q
    have hm2 : km = kOut ∨ km = kExt := by
      rcases hm with z | z | z
      · exact .inl z
      · exact .inr z
      · exact absurd z hio
    k_extra "SS"
    refine row_write S G (hA.le (by decide)) (by k_extra "pk") hf hC (by (first | lia | omega)) hm2 ?_
    clear S
    intro h od oc2 sx tx hsx hf hC S
    k_extra "SI"
    k_extra "SS"
    simp only [decide_true]
    exact ⟨_, _, [(ra, _), (x, _), (dx, _), (c, _)], S.sel (by k_extra "pk"), fun S => k (R ++ [b]) _ _ _ _ _ _ _ (by simp) (hs.snoc hb) ⟨_, hc, hrb.append (.cons ⟨_, rfl⟩ .nil)⟩ hC hf h0 (fun z => by rw [hvw hio] at z; cases z) (fun _ => hvw hio) S⟩
  · have hio : km = kIo := by simpa using q
    k_extra "SS"
    refine row_told S G (hA.le (by decide)) (by k_extra "pk") hf hC (by (first | lia | omega)) ?_
    clear S
    intro h a b2 u v2 ta S
    k_extra "SI"
    k_extra "SS"
    refine row_next S G (hA.le (by decide)) (by k_extra "pk") hf hC (by (first | lia | omega)) (.inr hio) h0 ?_ ?_ ?_
    · clear S
      intro hvf h od a ot hot hf S
      have hle := hv hvf
      obtain ⟨sx, tx, ty, hsx, rfl⟩ := hot
      k_extra "SI"
      k_extra "SS"
      refine br_t (by simp; (first | lia | omega)) ?_
      k_extra "SS"
      simp only [decide_true]
      exact ⟨_, _, [(ra, _), (x, _), (dx, _), (c, _)], S.sel (by k_extra "pk"), fun S => k R _ _ _ _ _ _ _ (by (first | lia | omega)) hs hr hC hf h0 (fun _ => hle) (fun z => absurd hio z) S⟩
    · clear S
      intro hvt hle h od a ot hot hf S
      obtain ⟨sx, tx, ty, hsx, rfl⟩ := hot
      k_extra "SI"
      k_extra "SS"
      refine br_t (by simp; (first | lia | omega)) ?_
      k_extra "SS"
      simp only [decide_true]
      exact ⟨_, _, [(ra, _), (x, _), (dx, _), (c, _)], S.sel (by k_extra "pk"), fun S => k R _ _ _ _ _ _ _ (by (first | lia | omega)) hs hr hC hf h0 (fun _ => hle) (fun z => absurd hio z) S⟩
    · clear S
      intro r hvt hri h od a ot hot hf S
      obtain ⟨sx, tx, ty, hsx, rfl⟩ := hot
      have hil : at_.toNat < R.length := by
        rcases Nat.lt_or_ge at_.toNat R.length with z | z
        · exact z
        · rw [List.getElem?_eq_none z] at hri; cases hri
      obtain ⟨tr, hvr⟩ := hrb.get hri
      obtain ⟨mx3, tm3, t13, t23, hmx3, hF⟩ := id hf
      k_extra "SI"
      k_extra "SS"
      refine br_f (by simp; (first | lia | omega)) ?_
      k_extra "SS"
      refine d_item S (by k_extra "mem") hrl h0 (by (first | lia | omega)) hvr ?_ rfl
      k_extra "SS"
      refine br_f (by simp) ?_
      k_extra "SS"
      cases tu with
      | false =>
        k_extra "SS"
        exact ⟨_, _, [(ra, _), (x, _), (dx, _), (c, _)], S.sel (by k_extra "pk"), fun S => k R _ _ _ _ _ _ _ (by (first | lia | omega)) hs hr hC hf (by (first | lia | omega)) (fun z => by cases z) (fun z => absurd hio z) S⟩
      | true =>
        k_extra "SS"
        refine d_item S (by k_extra "mem") hrl h0 (by (first | lia | omega)) hvr ?_ rfl
        have hrz := hs r (List.mem_of_getElem? hri)
        have hrev := rev_size r
        k_extra "SS"
        refine d_set S (by k_extra "put") hrl h0 (by (first | lia | omega)) (by (first | lia | omega)) ?_
        clear S
        intro h ro2 hrl2 S
        (try dsimp only at S)
        k_extra "SS"
        refine d_item S (by k_extra "mem") hrl2 h0 (by (first | lia | omega)) (by rw [List.getElem?_set_self (by (first | lia | omega))]) ?_ rfl
        k_extra "SS"
        subst hio
        refine row_rewrite S G (hA.le (by decide)) (by k_extra "pk") hf hC (by (first | lia | omega)) h0 hri hrev (by (first | lia | omega)) ?_
        clear S
        intro h od oc2 sx2 tx2 hsx2 hf hC S
        k_extra "SI"
        k_extra "SS"
        simp only [decide_true]
        exact ⟨_, _, [(ra, _), (x, _), (dx, _), (c, _)], S.sel (by k_extra "pk"), fun S => k (R.set at_.toNat r.toList.reverse.toArray) _ _ _ _ _ _ _ (by simp) (hs.set (by (first | lia | omega)) _) ⟨_, hrl2, hrb.set _ _ _⟩ hC hf (by (first | lia | omega)) (fun z => by cases z) (fun z => absurd rfl z) S⟩
end
end La3

section La4
abbrev kWr : List Nat := [119, 114, 105, 116, 101]
abbrev kRw : List Nat := [114, 101, 119, 114, 105, 116, 101]
abbrev kDl : List Nat := [100, 101, 108, 101, 116, 101]
def five (k : Int) : Prop := ∃ j : Nat, j < 5 ∧ k = 1 + 50 * (j : Int)
structure KG (R : RowsT) : Prop where
  s : sz3 R
  n : (R.map hd1).Nodup
  f : ∀ r ∈ R, five (hd1 r)
theorem five_pos {k : Int} (h : five k) : 0 < k := by obtain ⟨j, _, rfl⟩ := h; (first | lia | omega)
theorem KG.snoc {R : RowsT} {b : Array UInt8} (H : KG R) (hb : 1 ≤ b.size ∧ b.size ≤ 3) (hf : five (hd1 b)) (hn : ∀ r ∈ R, hd1 r ≠ hd1 b) : KG (R ++ [b]) :=
  ⟨H.s.snoc hb, by
    rw [List.map_append, List.nodup_append]
    refine ⟨H.n, by simp, fun a ha c hc => ?_⟩
    obtain ⟨r, hr, rfl⟩ := List.mem_map.mp ha
    rw [List.map_cons, List.map_nil, List.mem_singleton] at hc
    rw [hc]; exact hn r hr, fun r hr => by
    rcases List.mem_append.mp hr with z | z
    · exact H.f r z
    · rw [List.mem_singleton.mp z]; exact hf⟩
theorem KG.erase {R : RowsT} (H : KG R) (i : Nat) : KG (R.eraseIdx i) :=
  ⟨fun r hr => H.s r (List.mem_of_mem_eraseIdx hr), by
    have := H.n
    exact List.Sublist.nodup ((List.eraseIdx_sublist R i).map hd1) this, fun r hr => H.f r (List.mem_of_mem_eraseIdx hr)⟩
theorem map_set_same {R : RowsT} {b : Array UInt8} {i : Nat} (hi : i < R.length) (e : hd1 R[i] = hd1 b) : (R.set i b).map hd1 = R.map hd1 := by
  rw [List.map_set]
  apply List.ext_getElem?
  intro j
  rw [List.getElem?_set]
  split
  · next h => subst h; simp [hi, e]
  · rfl
theorem KG.set {R : RowsT} {b : Array UInt8} (H : KG R) (hb : 1 ≤ b.size ∧ b.size ≤ 3) {i : Nat} (hi : i < R.length) (e : hd1 R[i] = hd1 b) : KG (R.set i b) :=
  ⟨H.s.set hb i, by rw [map_set_same hi e]; exact H.n, fun r hr => by
    rcases List.mem_or_eq_of_mem_set hr with z | rfl
    · exact H.f r z
    · rw [← e]; exact H.f _ (List.getElem_mem hi)⟩
theorem nodup_len : ∀ {l m : List Int}, l.Nodup → (∀ x ∈ l, x ∈ m) → l.length ≤ m.length
  | [], _, _, _ => Nat.zero_le _
  | x :: l, m, hn, h => by
    rw [List.nodup_cons] at hn
    have hx := h x (.head _)
    have := nodup_len (l := l) (m := m.erase x) hn.2 fun y hy => (List.mem_erase_of_ne (fun (z : y = x) => hn.1 (z ▸ hy))).mpr (h y (.tail _ hy))
    rw [List.length_erase_of_mem hx] at this
    have hpos := List.length_pos_of_mem hx
    rw [List.length_cons]; (first | lia | omega)
theorem KG.len {R : RowsT} (H : KG R) : R.length ≤ 5 := by
  have h1 : ∀ k ∈ R.map hd1, k ∈ [(1 : Int), 51, 101, 151, 201] := fun k hk => by
    obtain ⟨r, hr, rfl⟩ := List.mem_map.mp hk
    obtain ⟨j, hj, e⟩ := H.f r hr
    rw [e]
    match j, hj with
    | 0, _ => simp
    | 1, _ => simp
    | 2, _ => simp
    | 3, _ => simp
    | 4, _ => simp
  have := nodup_len H.n h1
  simpa using this
theorem erase_filter : ∀ {R : RowsT} {i : Nat}, (R.map hd1).Nodup → ∀ (hi : i < R.length), R.eraseIdx i = R.filter fun r => decide (hd1 r ≠ hd1 R[i])
  | [], i, _, hi => by simp at hi
  | r :: R, 0, hn, hi => by
    rw [List.map_cons, List.nodup_cons] at hn
    rw [List.eraseIdx_cons_zero, List.filter_cons]
    simp only [List.getElem_cons_zero, ne_eq, not_true_eq_false, decide_false, Bool.false_eq_true, if_false]
    refine (List.filter_eq_self.mpr fun x hx => ?_).symm
    have : hd1 x ≠ hd1 r := fun z => hn.1 (z ▸ List.mem_map_of_mem hx)
    simpa using this
  | r :: R, i + 1, hn, hi => by
    rw [List.map_cons, List.nodup_cons] at hn
    have hi' : i < R.length := by simpa using hi
    rw [List.eraseIdx_cons_succ, List.filter_cons]
    have : hd1 r ≠ hd1 R[i] := fun z => hn.1 (z ▸ List.mem_map_of_mem (List.getElem_mem hi'))
    simp only [List.getElem_cons_succ, ne_eq, this, not_false_eq_true, decide_true, if_true]
    rw [erase_filter hn.2 hi']
theorem set_map : ∀ {R : RowsT} {i : Nat} {b : Array UInt8}, (R.map hd1).Nodup → ∀ (hi : i < R.length), R.set i b = R.map fun r => if hd1 r = hd1 R[i] then b else r
  | [], i, _, _, hi => by simp at hi
  | r :: R, 0, b, hn, hi => by
    rw [List.map_cons, List.nodup_cons] at hn
    rw [List.set_cons_zero, List.map_cons]
    simp only [List.getElem_cons_zero, if_true]
    congr 1
    symm
    conv => rhs; rw [← List.map_id R]
    refine List.map_congr_left fun x hx => ?_
    have : hd1 x ≠ hd1 r := fun z => hn.1 (z ▸ List.mem_map_of_mem hx)
    simp [this]
  | r :: R, i + 1, b, hn, hi => by
    rw [List.map_cons, List.nodup_cons] at hn
    have hi' : i < R.length := by simpa using hi
    rw [List.set_cons_succ, List.map_cons]
    have : hd1 r ≠ hd1 R[i] := fun z => hn.1 (z ▸ List.mem_map_of_mem (List.getElem_mem hi'))
    simp only [List.getElem_cons_succ, this, if_false]
    rw [set_map hn.2 hi']
theorem relRows_filter (d : RowsT) (k : Int) : (relRows d).filter (fun kv => decide (kv.1 ≠ k)) = relRows (d.filter fun b => decide (hd1 b ≠ k)) := by
  unfold relRows
  rw [List.filter_map]
  rfl
theorem relRows_set (d : RowsT) (b : Array UInt8) : (relRows d).map (fun kv => if kv.1 = hd1 b then (kv.1, b) else kv) = relRows (d.map fun r => if hd1 r = hd1 b then b else r) := by
  unfold relRows
  rw [List.map_map, List.map_map]
  refine List.map_congr_left fun r _ => ?_
  simp only [Function.comp_apply]
  by_cases e : hd1 r = hd1 b
  · rw [if_pos e, if_pos e, e]
  · rw [if_neg e, if_neg e]
theorem rel_mem {d R : RowsT} {k : Int} (hp : d.Perm R) : k ∈ (relRows d).map (·.1) ↔ k ∈ R.map hd1 := by
  rw [relRows_keys]
  exact (hp.map hd1).mem_iff

section
variable {w : World} {A : Around} {h g : Heap} {env : Env} {L : Addr} {l : Loc} {led rest : Led}
theorem rel_w {ra x dx c : Addr} {ro od oc : Obj} {y mx wx : Str} {ty tm tw tb : Tok} {km : List Nat} {R d : RowsT} {la nu : Int} {b : Array UInt8} {P : Value → Heap → Prop}
    (S : St g L h l led) (G : Gd w g) (hA : Amb A 6) (hp : Pk [(ra, ro), (x, instObj 489 dx), (dx, od), (c, oc)] led rest) (hy : key y = kRel) (hmx : key mx = km) (hm : km = kOut ∨ km = kIo) (hwx : key wx = kWr)
    (hr : IsR R ro) (hf : RelF c km 1 false true la nu od) (hC : RelC w (relRows d) c oc) (hpd : d.Perm R) (hK : KG R) (hb : 1 ≤ b.size ∧ b.size ≤ 3) (hb5 : five (hd1 b))
    (k : ∀ R' d' h' ro' od' oc' la' nu', KG R' → d'.Perm R' → IsR R' ro' → RelC w (relRows d') c oc' → RelF c km 1 false true la' nu' od' → St g L h' l ([(ra, ro'), (x, instObj 489 dx), (dx, od'), (c, oc')] ++ rest) → P (.bool true) h')
    : W w A (call (.ref 585) [.str y ty, .str mx tm, .ref ra, .ref x, .str wx tw, .bytes b tb]) P h := by
  obtain ⟨rvs, hrl, hrb⟩ := id hr
  have hrlen := hrb.length
  have hR5 := hK.len
  have hd5 := hpd.length_eq
  obtain ⟨bx, hbx, hbx1⟩ := hd1_of hb.1
  have ls_w := nm_write
  have ls_d := nm_delete
  obtain ⟨mx2, tm2, ax2, ta2, t0, t1, t2, t3, hmx2, hax2, hF⟩ := id hf
  have hpl := lpl_cases R (hd1 b)
  refine' w_def (binds := [(Str.ofString "kind", .str y ty), (Str.ofString "mode", .str mx tm), (Str.ofString "rows", .ref ra), (Str.ofString "open_file", .ref x), (Str.ofString "word", .str wx tw), (Str.ofString "row", .bytes b tb)]) S G hA hp ?ho ?hcd ?hbind ?hloc ?hks ?hl ?k ?hcell ?hco ?hgen ?hk
  k_extra "DEF"
  k_extra "SS"
  refine b_item (by (first | lia | omega)) (by (first | lia | omega)) hbx (fun tt => ?_) rfl
  rw [← hbx1]
  k_extra "SS"
  refine law_place S G (hA.le (by decide)) (by k_extra "pk") hr (by (first | lia | omega)) (fun r hr => by have := hK.s r hr; (first | lia | omega)) ?_
  clear S
  intro h tp S
  k_extra "SI"
  k_extra "SS"
  refine b_item (by (first | lia | omega)) (by (first | lia | omega)) hbx (fun tt2 => ?_) rfl
  rw [← hbx1]
  k_extra "SS"
  refine rel_write S G (hA.le (by decide)) (by k_extra "pk") hf hC (by unfold relRows; simp; (first | lia | omega)) hm (five_pos hb5) ?_ ?_
  · clear S
    intro hin h od sx tx hsx hf S
    have hin' := (rel_mem hpd).mp hin
    obtain ⟨i, hi, he, hie, -⟩ : ∃ i, ∃ h : i < R.length, lpl R (hd1 b) = (i : Nat) ∧ hd1 R[i] = hd1 b ∧ ∀ j (h : j < R.length), j < i → hd1 R[j] ≠ hd1 b := by
      rcases hpl with ⟨_, z⟩ | z
      · obtain ⟨r, hr, e⟩ := List.mem_map.mp hin'
        exact absurd e (z r hr)
      · exact z
    k_extra "SI"
    k_extra "SS"
    refine br_f (by rw [he]; simp) ?_
    k_extra "SS"
    refine br_f (by rw [he]; simp) ?_
    k_extra "SS"
    simp only [decide_true]
    exact ⟨_, _, [(ra, _), (x, _), (dx, _), (c, _)], S.sel (by k_extra "pk"), fun S => k R d _ _ _ _ _ _ hK hpd hr hC hf S⟩
  · clear S
    intro hin h od oc2 sx tx hsx hf hC2 S
    have hin' : hd1 b ∉ R.map hd1 := fun z => hin ((rel_mem hpd).mpr z)
    have hno : ∀ r ∈ R, hd1 r ≠ hd1 b := fun r hr e => hin' (e ▸ List.mem_map_of_mem hr)
    have he := lpl_none hno
    k_extra "SI"
    k_extra "SS"
    refine br_t (by rw [he]; simp) ?_
    k_extra "SS"
    refine br_t (by rw [he]; simp) ?_
    k_extra "SS"
    simp only [decide_true]
    exact ⟨_, _, [(ra, _), (x, _), (dx, _), (c, _)], S.sel (by k_extra "pk"), fun S => k (R ++ [b]) (d ++ [b]) _ _ _ _ _ _ (hK.snoc hb hb5 hno) (hpd.append_right _) ⟨_, hc, hrb.append (.cons ⟨_, rfl⟩ .nil)⟩ (by unfold relRows at *; rw [List.map_append]; exact hC2) hf S⟩
theorem rel_dl {ra x dx c : Addr} {ro od oc : Obj} {y mx wx : Str} {ty tm tw tb : Tok} {km : List Nat} {R d : RowsT} {la nu : Int} {b : Array UInt8} {P : Value → Heap → Prop}
    (S : St g L h l led) (G : Gd w g) (hA : Amb A 6) (hp : Pk [(ra, ro), (x, instObj 489 dx), (dx, od), (c, oc)] led rest) (hy : key y = kRel) (hmx : key mx = km) (hwx : key wx = kDl)
    (hr : IsR R ro) (hf : RelF c km 1 false true la nu od) (hC : RelC w (relRows d) c oc) (hpd : d.Perm R) (hK : KG R) (hb : 1 ≤ b.size ∧ b.size ≤ 3) (hb5 : five (hd1 b))
    (k : ∀ R' d' h' ro' od' oc' la' nu', KG R' → d'.Perm R' → IsR R' ro' → RelC w (relRows d') c oc' → RelF c km 1 false true la' nu' od' → St g L h' l ([(ra, ro'), (x, instObj 489 dx), (dx, od'), (c, oc')] ++ rest) → P (.bool true) h')
    : W w A (call (.ref 585) [.str y ty, .str mx tm, .ref ra, .ref x, .str wx tw, .bytes b tb]) P h := by
  obtain ⟨rvs, hrl, hrb⟩ := id hr
  have hrlen := hrb.length
  have hR5 := hK.len
  have hd5 := hpd.length_eq
  obtain ⟨bx, hbx, hbx1⟩ := hd1_of hb.1
  have ls_w := nm_write
  have ls_d := nm_delete
  obtain ⟨mx2, tm2, ax2, ta2, t0, t1, t2, t3, hmx2, hax2, hF⟩ := id hf
  have hpl := lpl_cases R (hd1 b)
  refine' w_def (binds := [(Str.ofString "kind", .str y ty), (Str.ofString "mode", .str mx tm), (Str.ofString "rows", .ref ra), (Str.ofString "open_file", .ref x), (Str.ofString "word", .str wx tw), (Str.ofString "row", .bytes b tb)]) S G hA hp ?ho ?hcd ?hbind ?hloc ?hks ?hl ?k ?hcell ?hco ?hgen ?hk
  k_extra "DEF"
  k_extra "SS"
  refine b_item (by (first | lia | omega)) (by (first | lia | omega)) hbx (fun tt => ?_) rfl
  rw [← hbx1]
  k_extra "SS"
  refine law_place S G (hA.le (by decide)) (by k_extra "pk") hr (by (first | lia | omega)) (fun r hr => by have := hK.s r hr; (first | lia | omega)) ?_
  clear S
  intro h tp S
  k_extra "SI"
  k_extra "SS"
  refine b_item (by (first | lia | omega)) (by (first | lia | omega)) hbx (fun tt2 => ?_) rfl
  rw [← hbx1]
  k_extra "SS"
  refine rel_delete S G (hA.le (by decide)) (by k_extra "pk") hf hC (by unfold relRows; simp; (first | lia | omega)) ?_ ?_ ?_
  · clear S
    intro hio h od sx tx hsx hf S
    k_extra "SI"
    k_extra "SS"
    refine br_t (by simpa using hio) ?_
    k_extra "SS"
    refine br_t (by simpa using hio) ?_
    k_extra "SS"
    simp only [decide_true]
    exact ⟨_, _, [(ra, _), (x, _), (dx, _), (c, _)], S.sel (by k_extra "pk"), fun S => k R d _ _ _ _ _ _ hK hpd hr hC hf S⟩
  · clear S
    intro hio hin h od oc2 sx tx hsx hf hC2 S
    have hin' := (rel_mem hpd).mp hin
    obtain ⟨i, hi, he, hie, -⟩ : ∃ i, ∃ h : i < R.length, lpl R (hd1 b) = (i : Nat) ∧ hd1 R[i] = hd1 b ∧ ∀ j (h : j < R.length), j < i → hd1 R[j] ≠ hd1 b := by
      rcases hpl with ⟨_, z⟩ | z
      · obtain ⟨r, hr, e⟩ := List.mem_map.mp hin'
        exact absurd e (z r hr)
      · exact z
    rw [he] at S
    k_extra "SI"
    k_extra "SS"
    refine br_f (by simp [hio]) ?_
    k_extra "SS"
    refine br_f (by simp) ?_
    k_extra "SS"
    obtain ⟨tv, hvi⟩ := hrb.get (List.getElem?_eq_getElem hi)
    refine d_pop S (by k_extra "put") hrl (by (first | lia | omega)) (by rw [Int.toNat_natCast]; exact hvi) (by (first | lia | omega)) ?_
    clear S
    intro h ro2 hrl2 S
    (try dsimp only at S)
    rw [Int.toNat_natCast] at hrl2
    k_extra "SS"
    simp only [decide_true]
    exact ⟨_, _, [(ra, _), (x, _), (dx, _), (c, _)], S.sel (by k_extra "pk"), fun S => k (R.eraseIdx i) (d.filter fun r => decide (hd1 r ≠ hd1 b)) _ _ _ _ _ _ (hK.erase i) (by rw [erase_filter hK.n hi, hie]; exact hpd.filter _) ⟨_, hrl2, hrb.erase i⟩ (by rw [← relRows_filter]; exact hC2) hf S⟩
  · clear S
    intro hio hin h od sx tx hsx hf S
    have hin' : hd1 b ∉ R.map hd1 := fun z => hin ((rel_mem hpd).mpr z)
    have hno : ∀ r ∈ R, hd1 r ≠ hd1 b := fun r hr e => hin' (e ▸ List.mem_map_of_mem hr)
    have he := lpl_none hno
    rw [he] at S
    k_extra "SI"
    k_extra "SS"
    refine br_f (by simp [hio]) ?_
    k_extra "SS"
    refine br_f (by simp [hio]) ?_
    k_extra "SS"
    simp only [decide_true]
    exact ⟨_, _, [(ra, _), (x, _), (dx, _), (c, _)], S.sel (by k_extra "pk"), fun S => k R d _ _ _ _ _ _ hK hpd hr hC hf S⟩
theorem rel_rw {ra x dx c : Addr} {ro od oc : Obj} {y mx wx : Str} {ty tm tw tb : Tok} {km : List Nat} {R d : RowsT} {la nu : Int} {b : Array UInt8} {P : Value → Heap → Prop}
    (S : St g L h l led) (G : Gd w g) (hA : Amb A 6) (hp : Pk [(ra, ro), (x, instObj 489 dx), (dx, od), (c, oc)] led rest) (hy : key y = kRel) (hmx : key mx = km) (hwx : key wx = kRw)
    (hr : IsR R ro) (hf : RelF c km 1 false true la nu od) (hC : RelC w (relRows d) c oc) (hpd : d.Perm R) (hK : KG R) (hb : 1 ≤ b.size ∧ b.size ≤ 3) (hb5 : five (hd1 b))
    (k : ∀ R' d' h' ro' od' oc' la' nu', KG R' → d'.Perm R' → IsR R' ro' → RelC w (relRows d') c oc' → RelF c km 1 false true la' nu' od' → St g L h' l ([(ra, ro'), (x, instObj 489 dx), (dx, od'), (c, oc')] ++ rest) → P (.bool true) h')
    : W w A (call (.ref 585) [.str y ty, .str mx tm, .ref ra, .ref x, .str wx tw, .bytes b tb]) P h := by
  obtain ⟨rvs, hrl, hrb⟩ := id hr
  have hrlen := hrb.length
  have hR5 := hK.len
  have hd5 := hpd.length_eq
  obtain ⟨bx, hbx, hbx1⟩ := hd1_of hb.1
  have ls_w := nm_write
  have ls_d := nm_delete
  obtain ⟨mx2, tm2, ax2, ta2, t0, t1, t2, t3, hmx2, hax2, hF⟩ := id hf
  have hpl := lpl_cases R (hd1 b)
  refine' w_def (binds := [(Str.ofString "kind", .str y ty), (Str.ofString "mode", .str mx tm), (Str.ofString "rows", .ref ra), (Str.ofString "open_file", .ref x), (Str.ofString "word", .str wx tw), (Str.ofString "row", .bytes b tb)]) S G hA hp ?ho ?hcd ?hbind ?hloc ?hks ?hl ?k ?hcell ?hco ?hgen ?hk
  k_extra "DEF"
  k_extra "SS"
  refine b_item (by (first | lia | omega)) (by (first | lia | omega)) hbx (fun tt => ?_) rfl
  rw [← hbx1]
  k_extra "SS"
  refine law_place S G (hA.le (by decide)) (by k_extra "pk") hr (by (first | lia | omega)) (fun r hr => by have := hK.s r hr; (first | lia | omega)) ?_
  clear S
  intro h tp S
  k_extra "SI"
  k_extra "SS"
  refine b_item (by (first | lia | omega)) (by (first | lia | omega)) hbx (fun tt2 => ?_) rfl
  rw [← hbx1]
  k_extra "SS"
  refine rel_rewrite S G (hA.le (by decide)) (by k_extra "pk") hf hC (by unfold relRows; simp; (first | lia | omega)) ?_ ?_ ?_
  · clear S
    intro hio h od sx tx hsx hf S
    k_extra "SI"
    k_extra "SS"
    refine br_t (by simpa using hio) ?_
    k_extra "SS"
    refine br_t (by simpa using hio) ?_
    k_extra "SS"
    simp only [decide_true]
    exact ⟨_, _, [(ra, _), (x, _), (dx, _), (c, _)], S.sel (by k_extra "pk"), fun S => k R d _ _ _ _ _ _ hK hpd hr hC hf S⟩
  · clear S
    intro hio hin h od oc2 sx tx hsx hf hC2 S
    have hin' := (rel_mem hpd).mp hin
    obtain ⟨i, hi, he, hie, -⟩ : ∃ i, ∃ h : i < R.length, lpl R (hd1 b) = (i : Nat) ∧ hd1 R[i] = hd1 b ∧ ∀ j (h : j < R.length), j < i → hd1 R[j] ≠ hd1 b := by
      rcases hpl with ⟨_, z⟩ | z
      · obtain ⟨r, hr, e⟩ := List.mem_map.mp hin'
        exact absurd e (z r hr)
      · exact z
    rw [he] at S
    k_extra "SI"
    k_extra "SS"
    refine br_f (by simp [hio]) ?_
    k_extra "SS"
    refine br_f (by simp) ?_
    k_extra "SS"
    refine d_set S (by k_extra "put") hrl (by (first | lia | omega)) (by (first | lia | omega)) (by (first | lia | omega)) ?_
    clear S
    intro h ro2 hrl2 S
    (try dsimp only at S)
    rw [Int.toNat_natCast] at hrl2
    k_extra "SS"
    simp only [decide_true]
    exact ⟨_, _, [(ra, _), (x, _), (dx, _), (c, _)], S.sel (by k_extra "pk"), fun S => k (R.set i b) (d.map fun r => if hd1 r = hd1 b then b else r) _ _ _ _ _ _ (hK.set hb hi hie) (by rw [set_map hK.n hi, hie]; exact hpd.map _) ⟨_, hrl2, hrb.set _ _ _⟩ (by rw [← relRows_set]; exact hC2) hf S⟩
  · clear S
    intro hio hin h od sx tx hsx hf S
    have hin' : hd1 b ∉ R.map hd1 := fun z => hin ((rel_mem hpd).mpr z)
    have hno : ∀ r ∈ R, hd1 r ≠ hd1 b := fun r hr e => hin' (e ▸ List.mem_map_of_mem hr)
    have he := lpl_none hno
    rw [he] at S
    k_extra "SI"
    k_extra "SS"
    refine br_f (by simp [hio]) ?_
    k_extra "SS"
    refine br_f (by simp [hio]) ?_
    k_extra "SS"
    simp only [decide_true]
    exact ⟨_, _, [(ra, _), (x, _), (dx, _), (c, _)], S.sel (by k_extra "pk"), fun S => k R d _ _ _ _ _ _ hK hpd hr hC hf S⟩
end
end La4

section La5
theorem b1_iff {r b : Array UInt8} (hr : 1 ≤ r.size) (hb : 1 ≤ b.size) : b1 r = b1 b ↔ hd1 r = hd1 b := by
  cases r with | mk l =>
  cases b with | mk m =>
  cases l with
  | nil => simp at hr
  | cons x l =>
    cases m with
    | nil => simp at hb
    | cons y m =>
      have e1 : b1 ⟨x :: l⟩ = #[x] := rfl
      have e2 : b1 ⟨y :: m⟩ = #[y] := rfl
      have e3 : hd1 ⟨x :: l⟩ = (x.toNat : Int) := rfl
      have e4 : hd1 ⟨y :: m⟩ = (y.toNat : Int) := rfl
      rw [e1, e2, e3, e4]
      constructor
      · intro h; simp at h; rw [h]
      · intro h; have h : x.toNat = y.toNat := by (first | lia | omega)
        rw [UInt8.toNat_inj.mp h]
theorem findIdx_congr {p q : Array UInt8 → Bool} : ∀ {R : RowsT}, (∀ r ∈ R, p r = q r) → R.findIdx? p = R.findIdx? q
  | [], _ => rfl
  | r :: R, h => by
    rw [List.findIdx?_cons, List.findIdx?_cons, h r (.head _), findIdx_congr fun x hx => h x (.tail _ hx)]
theorem placeI_lpl {R : RowsT} {b : Array UInt8} (hs : sz3 R) (hb : 1 ≤ b.size) : placeI R (b1 b) = lpl R (hd1 b) := by
  unfold placeI lpl
  rw [findIdx_congr (q := fun r => decide (hd1 r = hd1 b)) fun r hr => decide_eq_decide.mpr (b1_iff (hs r hr).1 hb)]
  all_goals (cases R.findIdx? (fun r => decide (hd1 r = hd1 b)) <;> rfl)
theorem picked_b1n (b : Array UInt8) : KBy.picked b none (some 1) = b1 b := by
  rw [KBc.picked_eq]
  have h1 : clipAt b.size 1 = min 1 b.size := by have := clipAt_nat b.size 1; simpa using this
  simp only [Option.elim, h1, List.drop_zero, Nat.sub_zero]
  unfold b1
  congr 1
  rcases Nat.lt_or_ge 0 b.size with h | h
  · rw [Nat.min_eq_left h]
  · have : b.toList = [] := List.length_eq_zero_iff.mp (by rw [Array.length_toList]; (first | lia | omega))
    simp [this]
section
variable {w : World} {A : Around} {h g : Heap} {env : Env} {L : Addr} {l : Loc} {led rest : Led}
theorem idx_w {ra x dx c kl kt sl at_ : Addr} {ro od oc okl okt osl oat : Obj} {fam : Led} {y mx wx : Str} {ty tm tw tb : Tok} {km : List Nat} {R : RowsT} {b : Array UInt8} {P : Value → Heap → Prop}
    (S : St g L h l led) (G : Gd w g) (hA : Amb A 6) (hp : Pk ((ra, ro) :: ksL x dx c kl kt sl at_ od oc okl okt osl oat fam) led rest) (hy : key y = kIdx) (hmx : key mx = km) (hm : km = kOut ∨ km = kIo) (hwx : key wx = kWr)
    (hr : IsR R ro) (H : KS c kl kt sl at_ km #[] false R od oc okl okt osl oat fam) (hK : KG R) (hb : 1 ≤ b.size ∧ b.size ≤ 3) (hb5 : five (hd1 b))
    (k : ∀ R' h' ro' od' oc' osl' fam', KG R' → IsR R' ro' → KS c kl kt sl at_ km #[] false R' od' oc' okl okt osl' oat fam' → St g L h' l ((ra, ro') :: ksL x dx c kl kt sl at_ od' oc' okl okt osl' oat fam' ++ rest) → P (.bool true) h')
    : W w A (call (.ref 585) [.str y ty, .str mx tm, .ref ra, .ref x, .str wx tw, .bytes b tb]) P h := by
  obtain ⟨rvs, hrl, hrb⟩ := id hr
  have hrlen := hrb.length
  have hR5 := hK.len
  have hRz : ∀ r ∈ R, r.size ≤ 1000 := fun r hr => by have := hK.s r hr; (first | lia | omega)
  obtain ⟨bx, hbx, hbx1⟩ := hd1_of hb.1
  have ls_w := nm_write
  have ls_d := nm_delete
  obtain ⟨mx2, tm2, ax2, ta2, ns2, t1, wt2, rl2, t2, hi2', t3, hmx2, hax2, hF⟩ := id H.f
  have hpl := lpl_cases R (hd1 b)
  have hPl := placeI_lpl (b := b) hK.s hb.1
  unfold ksL at hp
  refine' w_def (binds := [(Str.ofString "kind", .str y ty), (Str.ofString "mode", .str mx tm), (Str.ofString "rows", .ref ra), (Str.ofString "open_file", .ref x), (Str.ofString "word", .str wx tw), (Str.ofString "row", .bytes b tb)]) S G hA hp ?ho ?hcd ?hbind ?hloc ?hks ?hl ?k ?hcell ?hco ?hgen ?hk
  k_extra "DEF"
  k_extra "SS"
  refine b_item (by (first | lia | omega)) (by (first | lia | omega)) hbx (fun tt => ?_) rfl
  rw [← hbx1]
  k_extra "SS"
  refine law_place S G (hA.le (by decide)) (by k_extra "pk") hr (by (first | lia | omega)) (fun r hr => by have := hK.s r hr; (first | lia | omega)) ?_
  clear S
  intro h tp S
  k_extra "SI"
  k_extra "SS"
  (try rw [picked_b1n])
  (try rw [picked_b1n] at S)
  k_extra "SS"
  refine key_write S G (hA.le (by decide)) (by k_extra "pk") H hm hR5 hRz (by (first | lia | omega)) ?_ ?_
  · clear S
    intro hin h od sx tx hsx H S
    obtain ⟨i, hi, he, hie, -⟩ : ∃ i, ∃ h : i < R.length, lpl R (hd1 b) = (i : Nat) ∧ hd1 R[i] = hd1 b ∧ ∀ j (h : j < R.length), j < i → hd1 R[j] ≠ hd1 b := by
      rcases hpl with ⟨_, z⟩ | z
      · obtain ⟨r, hr, e⟩ := hin
        exact absurd ((b1_iff (hK.s r hr).1 hb.1).mp e) (z r hr)
      · exact z
    k_extra "SI"
    k_extra "SS"
    refine br_f (by rw [he]; simp) ?_
    k_extra "SS"
    refine br_f (by rw [he]; simp) ?_
    k_extra "SS"
    simp only [decide_true]
    exact ⟨_, _, (ra, _) :: ksL x dx c kl kt sl at_ _ _ _ _ _ _ fam, S.sel (by k_extra "pk"), fun S => k R _ _ _ _ _ _ hK hr H S⟩
  · clear S
    intro hin h od oc2 osl2 fam2 sx tx hsx H S
    have hno : ∀ r ∈ R, hd1 r ≠ hd1 b := fun r hr e => hin r hr ((b1_iff (hK.s r hr).1 hb.1).mpr e)
    have he := lpl_none hno
    k_extra "SI"
    k_extra "SS"
    refine br_t (by rw [he]; simp) ?_
    k_extra "SS"
    refine br_t (by rw [he]; simp) ?_
    k_extra "SS"
    simp only [decide_true]
    exact ⟨_, _, (ra, _) :: ksL x dx c kl kt sl at_ _ _ _ _ _ _ fam2, S.sel (by k_extra "pk"), fun S => k (R ++ [b]) _ _ _ _ _ _ (hK.snoc hb hb5 hno) ⟨_, hc, hrb.append (.cons ⟨_, rfl⟩ .nil)⟩ H S⟩
theorem idx_dl {ra x dx c kl kt sl at_ : Addr} {ro od oc okl okt osl oat : Obj} {fam : Led} {y mx wx : Str} {ty tm tw tb : Tok} {km : List Nat} {R : RowsT} {b : Array UInt8} {P : Value → Heap → Prop}
    (S : St g L h l led) (G : Gd w g) (hA : Amb A 6) (hp : Pk ((ra, ro) :: ksL x dx c kl kt sl at_ od oc okl okt osl oat fam) led rest) (hy : key y = kIdx) (hmx : key mx = km) (hwx : key wx = kDl)
    (hr : IsR R ro) (H : KS c kl kt sl at_ km #[] false R od oc okl okt osl oat fam) (hK : KG R) (hb : 1 ≤ b.size ∧ b.size ≤ 3) (hb5 : five (hd1 b))
    (k : ∀ R' h' ro' od' oc' osl' fam', KG R' → IsR R' ro' → KS c kl kt sl at_ km #[] false R' od' oc' okl okt osl' oat fam' → St g L h' l ((ra, ro') :: ksL x dx c kl kt sl at_ od' oc' okl okt osl' oat fam' ++ rest) → P (.bool true) h')
    : W w A (call (.ref 585) [.str y ty, .str mx tm, .ref ra, .ref x, .str wx tw, .bytes b tb]) P h := by
  obtain ⟨rvs, hrl, hrb⟩ := id hr
  have hrlen := hrb.length
  have hR5 := hK.len
  have hRz : ∀ r ∈ R, r.size ≤ 1000 := fun r hr => by have := hK.s r hr; (first | lia | omega)
  obtain ⟨bx, hbx, hbx1⟩ := hd1_of hb.1
  have ls_w := nm_write
  have ls_d := nm_delete
  obtain ⟨mx2, tm2, ax2, ta2, ns2, t1, wt2, rl2, t2, hi2', t3, hmx2, hax2, hF⟩ := id H.f
  have hpl := lpl_cases R (hd1 b)
  have hPl := placeI_lpl (b := b) hK.s hb.1
  unfold ksL at hp
  refine' w_def (binds := [(Str.ofString "kind", .str y ty), (Str.ofString "mode", .str mx tm), (Str.ofString "rows", .ref ra), (Str.ofString "open_file", .ref x), (Str.ofString "word", .str wx tw), (Str.ofString "row", .bytes b tb)]) S G hA hp ?ho ?hcd ?hbind ?hloc ?hks ?hl ?k ?hcell ?hco ?hgen ?hk
  k_extra "DEF"
  k_extra "SS"
  refine b_item (by (first | lia | omega)) (by (first | lia | omega)) hbx (fun tt => ?_) rfl
  rw [← hbx1]
  k_extra "SS"
  refine law_place S G (hA.le (by decide)) (by k_extra "pk") hr (by (first | lia | omega)) (fun r hr => by have := hK.s r hr; (first | lia | omega)) ?_
  clear S
  intro h tp S
  k_extra "SI"
  k_extra "SS"
  (try rw [picked_b1n])
  (try rw [picked_b1n] at S)
  k_extra "SS"
  refine key_delete S G (hA.le (by decide)) (by k_extra "pk") H hR5 hRz ?_ ?_ ?_
  · clear S
    intro hio h od sx tx hsx H S
    k_extra "SI"
    k_extra "SS"
    refine br_t (by simpa using hio) ?_
    k_extra "SS"
    refine br_t (by simpa using hio) ?_
    k_extra "SS"
    simp only [decide_true]
    exact ⟨_, _, (ra, _) :: ksL x dx c kl kt sl at_ _ _ _ _ _ _ fam, S.sel (by k_extra "pk"), fun S => k R _ _ _ _ _ _ hK hr H S⟩
  · clear S
    intro hio hin h od sx tx hsx H S
    have hno : ∀ r ∈ R, hd1 r ≠ hd1 b := fun r hr e => hin r hr ((b1_iff (hK.s r hr).1 hb.1).mpr e)
    have he := lpl_none hno
    rw [he] at S
    k_extra "SI"
    k_extra "SS"
    refine br_f (by simp [hio]) ?_
    k_extra "SS"
    refine br_f (by simp [hio]) ?_
    k_extra "SS"
    simp only [decide_true]
    exact ⟨_, _, (ra, _) :: ksL x dx c kl kt sl at_ _ _ _ _ _ _ fam, S.sel (by k_extra "pk"), fun S => k R _ _ _ _ _ _ hK hr H S⟩
  · clear S
    intro hio i hpi hi h od oc2 osl2 sx tx hsx H S
    rw [hPl] at hpi
    have hie : hd1 R[i] = hd1 b := by
      rcases hpl with ⟨z, _⟩ | ⟨j, hj, z1, z2, _⟩
      · (first | lia | omega)
      · have : j = i := by (first | lia | omega)
        subst this; exact z2
    rw [hpi] at S
    k_extra "SI"
    k_extra "SS"
    refine br_f (by simp [hio]) ?_
    k_extra "SS"
    refine br_f (by simp) ?_
    k_extra "SS"
    obtain ⟨tv, hvi⟩ := hrb.get (List.getElem?_eq_getElem hi)
    refine d_pop S (by k_extra "put") hrl (by (first | lia | omega)) (by rw [Int.toNat_natCast]; exact hvi) (by (first | lia | omega)) ?_
    clear S
    intro h ro2 hrl2 S
    (try dsimp only at S)
    rw [Int.toNat_natCast] at hrl2
    k_extra "SS"
    simp only [decide_true]
    exact ⟨_, _, (ra, _) :: ksL x dx c kl kt sl at_ _ _ _ _ _ _ (fam.eraseIdx i), S.sel (by k_extra "pk"), fun S => k (R.eraseIdx i) _ _ _ _ _ _ (hK.erase i) ⟨_, hrl2, hrb.erase i⟩ H S⟩
theorem idx_rw {ra x dx c kl kt sl at_ : Addr} {ro od oc okl okt osl oat : Obj} {fam : Led} {y mx wx : Str} {ty tm tw tb : Tok} {km : List Nat} {R : RowsT} {b : Array UInt8} {P : Value → Heap → Prop}
    (S : St g L h l led) (G : Gd w g) (hA : Amb A 6) (hp : Pk ((ra, ro) :: ksL x dx c kl kt sl at_ od oc okl okt osl oat fam) led rest) (hy : key y = kIdx) (hmx : key mx = km) (hwx : key wx = kRw)
    (hr : IsR R ro) (H : KS c kl kt sl at_ km #[] false R od oc okl okt osl oat fam) (hK : KG R) (hb : 1 ≤ b.size ∧ b.size ≤ 3) (hb5 : five (hd1 b))
    (k : ∀ R' h' ro' od' oc' osl' fam', KG R' → IsR R' ro' → KS c kl kt sl at_ km #[] false R' od' oc' okl okt osl' oat fam' → St g L h' l ((ra, ro') :: ksL x dx c kl kt sl at_ od' oc' okl okt osl' oat fam' ++ rest) → P (.bool true) h')
    : W w A (call (.ref 585) [.str y ty, .str mx tm, .ref ra, .ref x, .str wx tw, .bytes b tb]) P h := by
  obtain ⟨rvs, hrl, hrb⟩ := id hr
  have hrlen := hrb.length
  have hR5 := hK.len
  have hRz : ∀ r ∈ R, r.size ≤ 1000 := fun r hr => by have := hK.s r hr; (first | lia | omega)
  obtain ⟨bx, hbx, hbx1⟩ := hd1_of hb.1
  have ls_w := nm_write
  have ls_d := nm_delete
  obtain ⟨mx2, tm2, ax2, ta2, ns2, t1, wt2, rl2, t2, hi2', t3, hmx2, hax2, hF⟩ := id H.f
  have hpl := lpl_cases R (hd1 b)
  have hPl := placeI_lpl (b := b) hK.s hb.1
  unfold ksL at hp
  refine' w_def (binds := [(Str.ofString "kind", .str y ty), (Str.ofString "mode", .str mx tm), (Str.ofString "rows", .ref ra), (Str.ofString "open_file", .ref x), (Str.ofString "word", .str wx tw), (Str.ofString "row", .bytes b tb)]) S G hA hp ?ho ?hcd ?hbind ?hloc ?hks ?hl ?k ?hcell ?hco ?hgen ?hk
  k_extra "DEF"
  k_extra "SS"
  refine b_item (by (first | lia | omega)) (by (first | lia | omega)) hbx (fun tt => ?_) rfl
  rw [← hbx1]
  k_extra "SS"
  refine law_place S G (hA.le (by decide)) (by k_extra "pk") hr (by (first | lia | omega)) (fun r hr => by have := hK.s r hr; (first | lia | omega)) ?_
  clear S
  intro h tp S
  k_extra "SI"
  k_extra "SS"
  (try rw [picked_b1n])
  (try rw [picked_b1n] at S)
  k_extra "SS"
  refine key_rewrite S G (hA.le (by decide)) (by k_extra "pk") H hR5 hRz (by (first | lia | omega)) ?_ ?_ ?_
  · clear S
    intro hio h od sx tx hsx H S
    k_extra "SI"
    k_extra "SS"
    refine br_t (by simpa using hio) ?_
    k_extra "SS"
    refine br_t (by simpa using hio) ?_
    k_extra "SS"
    simp only [decide_true]
    exact ⟨_, _, (ra, _) :: ksL x dx c kl kt sl at_ _ _ _ _ _ _ fam, S.sel (by k_extra "pk"), fun S => k R _ _ _ _ _ _ hK hr H S⟩
  · clear S
    intro hio hin h od sx tx hsx H S
    have hno : ∀ r ∈ R, hd1 r ≠ hd1 b := fun r hr e => hin r hr ((b1_iff (hK.s r hr).1 hb.1).mpr e)
    have he := lpl_none hno
    rw [he] at S
    k_extra "SI"
    k_extra "SS"
    refine br_f (by simp [hio]) ?_
    k_extra "SS"
    refine br_f (by simp [hio]) ?_
    k_extra "SS"
    simp only [decide_true]
    exact ⟨_, _, (ra, _) :: ksL x dx c kl kt sl at_ _ _ _ _ _ _ fam, S.sel (by k_extra "pk"), fun S => k R _ _ _ _ _ _ hK hr H S⟩
  · clear S
    intro hio i hpi hi h od oc2 sx tx hsx H S
    rw [hPl] at hpi
    have hie : hd1 R[i] = hd1 b := by
      rcases hpl with ⟨z, _⟩ | ⟨j, hj, z1, z2, _⟩
      · (first | lia | omega)
      · have : j = i := by (first | lia | omega)
        subst this; exact z2
    rw [hpi] at S
    k_extra "SI"
    k_extra "SS"
    refine br_f (by simp [hio]) ?_
    k_extra "SS"
    refine br_f (by simp) ?_
    k_extra "SS"
    refine d_set S (by k_extra "put") hrl (by (first | lia | omega)) (by (first | lia | omega)) (by (first | lia | omega)) ?_
    clear S
    intro h ro2 hrl2 S
    (try dsimp only at S)
    rw [Int.toNat_natCast] at hrl2
    k_extra "SS"
    simp only [decide_true]
    exact ⟨_, _, (ra, _) :: ksL x dx c kl kt sl at_ _ _ _ _ _ _ fam, S.sel (by k_extra "pk"), fun S => k (R.set i b) _ _ _ _ _ _ (hK.set hb hi hie) ⟨_, hrl2, hrb.set _ _ _⟩ H S⟩
end
end La5

section La6
theorem kIn_kOut : kIn ≠ kOut := by decide
theorem kIn_kExt : kIn ≠ kExt := by decide
theorem ls_10' : key (Str.ofString "10") = [49, 48] := ls_10
section
variable {w : World} {A : Around} {h g : Heap} {env : Env} {L : Addr} {l : Loc} {led rest : Led}
theorem is_read_seq {ra c : Addr} {ro oc : Obj} {y : Str} {ty : Tok} {R : RowsT} {P : Value → Heap → Prop}
    (S : St g L h l led) (G : Gd w g) (hA : Amb A 7) (hp : Pk [(ra, ro), (c, oc)] led rest) (hy : key y = kSeq) (hr : IsR R ro) (hC : IsR R oc) (hz : R.length < 60)
    (k : ∀ h' oc', IsR R oc' → St g L h' l ([(ra, ro), (c, oc')] ++ rest) → P (.bool true) h')
    : W w A (call (.ref 599) [.str y ty, .ref ra, .ref c]) P h := by
  refine' w_def (binds := [(Str.ofString "kind", .str y ty), (Str.ofString "rows", .ref ra), (Str.ofString "content", .ref c)]) S G hA hp ?ho ?hcd ?hbind ?hloc ?hks ?hl ?k ?hcell ?hco ?hgen ?hk
  k_extra "DEF"
  k_extra "SS"
  refine open_seq S G (hA.le (by decide)) (by k_extra "pk") hy ls_input hC (by (first | lia | omega)) ?_
  clear S
  intro R' h x dx od oc' e1 e2 hf hC2 S
  obtain rfl := e2 kIn_kOut
  k_extra "SI"
  k_extra "SS"
  refine in_order_seq S G (hA.le (by decide)) (by k_extra "pk") hy hr (by (first | lia | omega)) ?_
  clear S
  intro h oa oo ho S
  obtain ⟨ovs, hol, hob⟩ := ho
  have hovl := hob.length
  k_extra "SI"
  refine (it_list S hA.handled (by k_extra "pk") hol).mono fun it h2 hi2 => for_of hi2 (fun i l' led' => E2 fun last od => A3 (l' = [([111, 112, 101, 110, 95, 102, 105, 108, 101], Value.ref x), ([99, 111, 110, 116, 101, 110, 116], Value.ref c), ([114, 111, 119, 115], Value.ref ra), ([107, 105, 110, 100], Value.str y ty)]) (led' = [(ra, ro), (x, instObj 540 dx), (dx, od), (c, oc')]) (RowF c kIn (i : Nat) last true od)) ⟨_, od, rfl, rfl, hf⟩ ?_ ?_
  · clear S hf
    intro i v l1 led1 I oI h hin hv hj S
    obtain ⟨last, od, rfl, rfl, hf⟩ := hj
    have hi : i < R'.length := by (first | lia | omega)
    obtain ⟨tv, hvb⟩ := hob.get (List.getElem?_eq_getElem hi)
    rw [hv] at hvb
    obtain rfl := Option.some.inj hvb
    obtain ⟨mx3, tm3, t13, t23, hmx3, hF⟩ := id hf
    k_extra "SI"
    k_extra "SS"
    refine row_next S G (hA.le (by decide)) (by k_extra "pk") hf hC2 (by (first | lia | omega)) (.inl rfl) (by (first | lia | omega)) (fun z => by cases z) (fun _ z => by (first | lia | omega)) ?_
    clear S
    intro r _ hri h od a ot hot hf S
    rw [Int.toNat_natCast, List.getElem?_eq_getElem hi] at hri
    obtain rfl := Option.some.inj hri
    obtain ⟨sx, tx, tr, hsx, rfl⟩ := hot
    obtain ⟨fa, rfl⟩ : ∃ z, z = a := ⟨a, rfl⟩
    k_extra "SI"
    k_extra "SS"
    refine d_tne (ds := [.str [48, 48], .bytes R'[i]]) (vs := [.str sx tx, .bytes R'[i] tr]) (us := [.str (Str.ofString "00") _, .bytes R'[i] _]) (tupO_at (S.get (by k_extra "mem"))) (tupO_at (S.get (by k_extra "mem"))) (.cons (.str hsx) (.cons .bytes .nil)) (.cons (.str ls_00) (.cons .bytes .nil)) (by have := hA.units; show A.units + 0 + 2 < 9900; (first | lia | omega)) ?_
    k_extra "SS"
    refine ⟨_, _, (by k_extra "TE"), ⟨_, od, rfl, rfl, hf⟩⟩
  · clear S hf
    intro l1 led1 h hj S
    obtain ⟨last, od, rfl, rfl, hf⟩ := hj
    obtain ⟨mx3, tm3, t13, t23, hmx3, hF⟩ := id hf
    k_extra "SI"
    k_extra "SS"
    refine row_next S G (hA.le (by decide)) (by k_extra "pk") hf hC2 (by (first | lia | omega)) (.inl rfl) (by (first | lia | omega)) (fun z => by cases z) ?_ (fun r _ hri => by rw [Int.toNat_natCast, List.getElem?_eq_none (by (first | lia | omega))] at hri; cases hri)
    clear S hf
    intro _ _ h od a1 ot1 hot1 hf S
    obtain ⟨sx1, tx1, tr1, hsx1, rfl⟩ := hot1
    obtain ⟨mx3, tm3, t13, t23, hmx3, hF⟩ := id hf
    k_extra "SI"
    k_extra "SS"
    refine row_next S G (hA.le (by decide)) (by k_extra "pk") hf hC2 (by (first | lia | omega)) (.inl rfl) (by (first | lia | omega)) ?_ (fun z => by cases z) (fun r z => by cases z)
    clear S hf
    intro _ h od a2 ot2 hot2 hf S
    obtain ⟨sx2, tx2, tr2, hsx2, rfl⟩ := hot2
    k_extra "SI"
    k_extra "NL"
    obtain ⟨f1, rfl⟩ : ∃ z, z = fl := ⟨fl, rfl⟩
    k_extra "NT"
    obtain ⟨p1, rfl⟩ : ∃ z, z = ft := ⟨ft, rfl⟩
    k_extra "NT"
    obtain ⟨p2, rfl⟩ : ∃ z, z = ft := ⟨ft, rfl⟩
    k_extra "NL"
    refine d_leq (ds := [.tup [.str [49, 48], .bytes #[]], .tup [.str [52, 54], .bytes #[]]]) (vs := [.ref a1, .ref a2]) (us := [.ref p1, .ref p2]) ((IsL.new (n := 0)).ints (S.get (by k_extra "mem"))) ((IsL.new (n := 0)).ints (S.get (by k_extra "mem")))
      (.cons (.tup (tupO_at (S.get (by k_extra "mem"))) (.cons (.str hsx1) (.cons .bytes .nil))) (.cons (.tup (tupO_at (S.get (by k_extra "mem"))) (.cons (.str hsx2) (.cons .bytes .nil))) .nil))
      (.cons (.tup (tupO_at (S.get (by k_extra "mem"))) (.cons (.str ls_10) (.cons .bytes .nil))) (.cons (.tup (tupO_at (S.get (by k_extra "mem"))) (.cons (.str ls_46) (.cons .bytes .nil))) .nil)) (by have := hA.units; show A.units + 1 + 2 < 9900; (first | lia | omega)) ?_
    k_extra "SS"
    exact ⟨_, _, [(ra, _), (c, _)], S.sel (by k_extra "pk"), fun S => k _ _ hC2 S⟩
end
end La6

section La7
def asc (s : RowsT) : Prop := (s.map hd1).Pairwise (· < ·)
theorem asc_lt {s : RowsT} (h : asc s) {i j : Nat} (hi : i < s.length) (hj : j < s.length) : hd1 s[i] < hd1 s[j] ↔ i < j := by
  unfold asc at h
  rw [List.pairwise_map, List.pairwise_iff_getElem] at h
  rcases Nat.lt_trichotomy i j with z | z | z
  · have := h i j hi hj z; (first | lia | omega)
  · subst z; (first | lia | omega)
  · have := h j i hj hi z; (first | lia | omega)
def Pos (s : RowsT) (low : Int) (i : Nat) : Prop := ∀ m (h : m < s.length), low ≤ hd1 s[m] ↔ i ≤ m
theorem pos_next {s : RowsT} (h : asc s) {i : Nat} (hi : i < s.length) : Pos s (hd1 s[i] + 1) (i + 1) := fun m hm => by
  have := asc_lt h hi hm
  (first | lia | omega)
theorem pos_pick {s : RowsT} (ha : asc s) {low : Int} {i : Nat} (h : Pos s low i) (hi : i < s.length) {b : Array UInt8} (hb : b ∈ s) (h1 : low ≤ hd1 b) (h2 : ∀ q ∈ s, low ≤ hd1 q → hd1 b ≤ hd1 q) : b = s[i] := by
  obtain ⟨m, hm, rfl⟩ := List.getElem_of_mem hb
  have h3 := (h m hm).mp h1
  have h4 := h2 s[i] (List.getElem_mem hi) ((h i hi).mpr (Nat.le_refl _))
  have h5 := asc_lt ha hi hm
  have : m = i := by (first | lia | omega)
  subst this; rfl
theorem pos_end {s : RowsT} {low : Int} (h : Pos s low s.length) {b : Array UInt8} (hb : b ∈ s) : ¬ low ≤ hd1 b := by
  obtain ⟨m, hm, rfl⟩ := List.getElem_of_mem hb
  intro z
  have := (h m hm).mp z
  (first | lia | omega)
theorem mem_relRows {d : RowsT} {r : Int} {b : Array UInt8} (h : (r, b) ∈ relRows d) : r = hd1 b ∧ b ∈ d := by
  obtain ⟨x, hx, e⟩ := List.mem_map.mp h
  cases e
  exact ⟨rfl, hx⟩
def PosB (s : RowsT) (ab : Array UInt8) (i : Nat) : Prop := ∀ m (h : m < s.length), nat8 ab < nat8 (b1 s[m]) ↔ i ≤ m
theorem nat8_b1 {b : Array UInt8} (h : 1 ≤ b.size) : nat8 (b1 b) = [hdN b] := by
  cases b with | mk l =>
  cases l with
  | nil => simp at h
  | cons x l => rfl
theorem b1_size {b : Array UInt8} (h : 1 ≤ b.size) : (b1 b).size = 1 := by
  have := congrArg List.length (nat8_b1 h)
  simpa using this
theorem posB_nil (s : RowsT) (hs : ∀ r ∈ s, 1 ≤ r.size) : PosB s #[] 0 := fun m hm => by
  rw [nat8_b1 (hs _ (List.getElem_mem hm))]
  show ([] : List Nat) < [hdN s[m]] ↔ 0 ≤ m
  simp
theorem nat8_app (a b : Array UInt8) : nat8 (a ++ b) = nat8 a ++ nat8 b := by
  show (a ++ b).toList.map _ = _
  rw [Array.toList_append, List.map_append]
theorem posB_next {s : RowsT} (h : asc s) (hs : ∀ r ∈ s, 1 ≤ r.size) {i : Nat} (hi : i < s.length) : PosB s (b1 s[i] ++ #[0]) (i + 1) := fun m hm => by
  have h1 := asc_lt h hi hm
  rw [nat8_app, nat8_b1 (hs _ (List.getElem_mem hi)), nat8_b1 (hs _ (List.getElem_mem hm))]
  have e : nat8 #[0] = [0] := rfl
  rw [e]
  rw [hd1_eq, hd1_eq] at h1
  show [hdN s[i], 0] < [hdN s[m]] ↔ _
  rw [List.cons_lt_cons_iff]
  simp
  (first | lia | omega)
theorem posB_pick {s : RowsT} (ha : asc s) (hs : ∀ r ∈ s, 1 ≤ r.size) {ab : Array UInt8} {i : Nat} (h : PosB s ab i) (hi : i < s.length) {b : Array UInt8} (hb : b ∈ s) (h1 : nat8 ab < nat8 (b1 b)) (h2 : ∀ q ∈ s, nat8 ab < nat8 (b1 q) → nat8 (b1 b) ≤ nat8 (b1 q)) : b = s[i] := by
  obtain ⟨m, hm, rfl⟩ := List.getElem_of_mem hb
  have h3 := (h m hm).mp h1
  have h4 := h2 s[i] (List.getElem_mem hi) ((h i hi).mpr (Nat.le_refl _))
  have h5 := asc_lt ha hi hm
  rw [nat8_b1 (hs _ (List.getElem_mem hi)), nat8_b1 (hs _ (List.getElem_mem hm))] at h4
  rw [hd1_eq, hd1_eq] at h5
  have h6 : hdN s[m] ≤ hdN s[i] := by
    refine Nat.not_lt.mp fun z => ?_
    have : [hdN s[i]] < [hdN s[m]] := by rw [List.cons_lt_cons_iff]; exact .inl z
    exact List.not_lt.mpr h4 this
  have : m = i := by (first | lia | omega)
  subst this; rfl
theorem posB_end {s : RowsT} {ab : Array UInt8} (h : PosB s ab s.length) {b : Array UInt8} (hb : b ∈ s) : ¬ nat8 ab < nat8 (b1 b) := by
  obtain ⟨m, hm, rfl⟩ := List.getElem_of_mem hb
  intro z
  have := (h m hm).mp z
  (first | lia | omega)
section
variable {w : World} {A : Around} {h g : Heap} {env : Env} {L : Addr} {l : Loc} {led rest : Led}
theorem is_read_rel {ra c : Addr} {ro oc : Obj} {y : Str} {ty : Tok} {R d : RowsT} {P : Value → Heap → Prop}
    (S : St g L h l led) (G : Gd w g) (hA : Amb A 7) (hp : Pk [(ra, ro), (c, oc)] led rest) (hy : key y = kRel) (hr : IsR R ro) (hC : RelC w (relRows d) c oc) (hpd : d.Perm R) (hK : KG R)
    (k : ∀ h' oc', RelC w (relRows d) c oc' → St g L h' l ([(ra, ro), (c, oc')] ++ rest) → P (.bool true) h')
    : W w A (call (.ref 599) [.str y ty, .ref ra, .ref c]) P h := by
  have hR5 := hK.len
  have hd5 := hpd.length_eq
  have hsz : ∀ r ∈ R, 1 ≤ r.size := fun r hr => (hK.s r hr).1
  obtain ⟨s, hs⟩ : ∃ s, s = sortR R := ⟨_, rfl⟩
  have hsp : s.Perm R := hs ▸ sortR_perm R
  have hasc : asc s := by rw [hs]; exact sortR_strict hK.n
  have hsl := hsp.length_eq
  have hmd : ∀ b, b ∈ d ↔ b ∈ s := fun b => hpd.mem_iff.trans hsp.mem_iff.symm
  have hpos1 : ∀ b ∈ s, 1 ≤ hd1 b := fun b hb => by have := five_pos (hK.f b (hsp.mem_iff.mp hb)); (first | lia | omega)
  have hposk : ∀ q ∈ relRows d, 0 < q.1 := fun q hq => by
    obtain ⟨e, hb⟩ := mem_relRows (r := q.1) (b := q.2) hq
    have := hpos1 q.2 ((hmd _).mp hb); (first | lia | omega)
  have hz : (relRows d).length < 60 := by unfold relRows; simp; (first | lia | omega)
  refine' w_def (binds := [(Str.ofString "kind", .str y ty), (Str.ofString "rows", .ref ra), (Str.ofString "content", .ref c)]) S G hA hp ?ho ?hcd ?hbind ?hloc ?hks ?hl ?k ?hcell ?hco ?hgen ?hk
  k_extra "DEF"
  k_extra "SS"
  refine open_rel S G (hA.le (by decide)) (by k_extra "pk") hy ls_input hC (by (first | lia | omega)) kIn_kExt ?_
  clear S
  intro d' h x dx od oc' e1 e2 hf hC2 S
  have e2 := e2 kIn_kOut
  rw [e2] at hC2
  k_extra "SI"
  k_extra "SS"
  refine in_order_key S G (hA.le (by decide)) (by k_extra "pk") hy (by decide) hr (by (first | lia | omega)) hK.n hsz ?_
  clear S
  intro h oa oo ho S
  rw [← hs] at ho
  obtain ⟨ovs, hol, hob⟩ := ho
  have hovl := hob.length
  k_extra "SI"
  refine (it_list S hA.handled (by k_extra "pk") hol).mono fun it h2 hi2 => for_of hi2 (fun i l' led' => E5 fun place bh last nu od => A4 (l' = [([111, 112, 101, 110, 95, 102, 105, 108, 101], Value.ref x), ([99, 111, 110, 116, 101, 110, 116], Value.ref c), ([114, 111, 119, 115], Value.ref ra), ([107, 105, 110, 100], Value.str y ty)]) (led' = [(ra, ro), (x, instObj 489 dx), (dx, od), (c, oc')]) (RelF c kIn place bh true last nu od) (Pos s (if bh then place + 1 else place) i)) ⟨_, _, _, _, od, rfl, rfl, hf, fun m hm => by have := hpos1 _ (List.getElem_mem hm); simp; (first | lia | omega)⟩ ?_ ?_
  · clear S hf
    intro i v l1 led1 I oI h hin hv hj S
    obtain ⟨place, bh, last, nu, od, rfl, rfl, hf, hPos⟩ := hj
    have hi : i < s.length := by (first | lia | omega)
    obtain ⟨tv, hvb⟩ := hob.get (List.getElem?_eq_getElem hi)
    rw [hv] at hvb
    obtain rfl := Option.some.inj hvb
    obtain ⟨mx2, tm2, ax2, ta2, t0, t1, t2, t3, hmx2, hax2, hF⟩ := id hf
    k_extra "SI"
    k_extra "SS"
    refine rel_next S G (hA.le (by decide)) (by k_extra "pk") hf hC2 hz (.inl rfl) hposk (fun z => by cases z) (fun _ z => by
      have h1 := z _ (relRows_mem ((hmd _).mpr (List.getElem_mem hi)))
      have h2 := (hPos i hi).mpr (Nat.le_refl _)
      dsimp only at h1
      (first | lia | omega)) ?_
    clear S
    intro _ r b hmem hlow hmin h od a ot hot hf S
    obtain ⟨rfl, hbd⟩ := mem_relRows hmem
    obtain rfl := pos_pick hasc hPos hi ((hmd _).mp hbd) hlow fun q hq hl => hmin (hd1 q, q) (relRows_mem ((hmd _).mpr hq)) hl
    obtain ⟨sx, tx, tr, hsx, rfl⟩ := hot
    obtain ⟨fa, rfl⟩ : ∃ z, z = a := ⟨a, rfl⟩
    k_extra "SI"
    k_extra "SS"
    refine d_tne (ds := [.str [48, 48], .bytes s[i]]) (vs := [.str sx tx, .bytes s[i] tr]) (us := [.str (Str.ofString "00") _, .bytes s[i] _]) (tupO_at (S.get (by k_extra "mem"))) (tupO_at (S.get (by k_extra "mem"))) (.cons (.str hsx) (.cons .bytes .nil)) (.cons (.str ls_00) (.cons .bytes .nil)) (by have := hA.units; show A.units + 0 + 2 < 9900; (first | lia | omega)) ?_
    k_extra "SS"
    refine ⟨_, _, (by k_extra "TE"), ⟨_, _, _, _, od, rfl, rfl, hf, ?_⟩⟩
    simpa using pos_next hasc hi
  · clear S hf
    intro l1 led1 h hj S
    obtain ⟨place, bh, last, nu, od, rfl, rfl, hf, hPos⟩ := hj
    rw [hovl] at hPos
    obtain ⟨mx2, tm2, ax2, ta2, t0, t1, t2, t3, hmx2, hax2, hF⟩ := id hf
    k_extra "SI"
    k_extra "SS"
    refine rel_next S G (hA.le (by decide)) (by k_extra "pk") hf hC2 hz (.inl rfl) hposk (fun z => by cases z) ?_ (fun _ r b hmem hlow _ => by
      obtain ⟨rfl, hbd⟩ := mem_relRows hmem
      exact absurd hlow (pos_end hPos ((hmd _).mp hbd)))
    clear S hf
    intro _ _ h od a1 ot1 hot1 hf S
    obtain ⟨sx1, tx1, tr1, hsx1, rfl⟩ := hot1
    obtain ⟨mx2, tm2, ax2, ta2, t0, t1, t2, t3, hmx2, hax2, hF⟩ := id hf
    k_extra "SI"
    k_extra "SS"
    refine rel_next S G (hA.le (by decide)) (by k_extra "pk") hf hC2 hz (.inl rfl) hposk ?_ (fun z => by cases z) (fun z => by cases z)
    clear S hf
    intro _ h od a2 ot2 hot2 hf S
    obtain ⟨sx2, tx2, tr2, hsx2, rfl⟩ := hot2
    k_extra "SI"
    k_extra "NL"
    obtain ⟨f1, rfl⟩ : ∃ z, z = fl := ⟨fl, rfl⟩
    k_extra "NT"
    obtain ⟨p1, rfl⟩ : ∃ z, z = ft := ⟨ft, rfl⟩
    k_extra "NT"
    obtain ⟨p2, rfl⟩ : ∃ z, z = ft := ⟨ft, rfl⟩
    k_extra "NL"
    refine d_leq (ds := [.tup [.str [49, 48], .bytes #[]], .tup [.str [52, 54], .bytes #[]]]) (vs := [.ref a1, .ref a2]) (us := [.ref p1, .ref p2]) ((IsL.new (n := 0)).ints (S.get (by k_extra "mem"))) ((IsL.new (n := 0)).ints (S.get (by k_extra "mem")))
      (.cons (.tup (tupO_at (S.get (by k_extra "mem"))) (.cons (.str hsx1) (.cons .bytes .nil))) (.cons (.tup (tupO_at (S.get (by k_extra "mem"))) (.cons (.str hsx2) (.cons .bytes .nil))) .nil))
      (.cons (.tup (tupO_at (S.get (by k_extra "mem"))) (.cons (.str ls_10) (.cons .bytes .nil))) (.cons (.tup (tupO_at (S.get (by k_extra "mem"))) (.cons (.str ls_46) (.cons .bytes .nil))) .nil)) (by have := hA.units; show A.units + 1 + 2 < 9900; (first | lia | omega)) ?_
    k_extra "SS"
    exact ⟨_, _, [(ra, _), (c, _)], S.sel (by k_extra "pk"), fun S => k _ _ hC2 S⟩
theorem is_read_idx {ra c : Addr} {ro oc : Obj} {y : Str} {ty : Tok} {R : RowsT} {P : Value → Heap → Prop}
    (S : St g L h l led) (G : Gd w g) (hA : Amb A 7) (hp : Pk [(ra, ro), (c, oc)] led rest) (hy : key y = kIdx) (hr : IsR R ro) (hC : IsR R oc) (hK : KG R)
    (k : ∀ h' oc', IsR R oc' → St g L h' l ([(ra, ro), (c, oc')] ++ rest) → P (.bool true) h')
    : W w A (call (.ref 599) [.str y ty, .ref ra, .ref c]) P h := by
  have hR5 := hK.len
  have hsz : ∀ r ∈ R, 1 ≤ r.size := fun r hr => (hK.s r hr).1
  have hRz : ∀ r ∈ R, r.size ≤ 1000 := fun r hr => by have := hK.s r hr; (first | lia | omega)
  obtain ⟨s, hs⟩ : ∃ s, s = sortR R := ⟨_, rfl⟩
  have hsp : s.Perm R := hs ▸ sortR_perm R
  have hasc : asc s := by rw [hs]; exact sortR_strict hK.n
  have hsl := hsp.length_eq
  have hssz : ∀ r ∈ s, 1 ≤ r.size := fun r hr => hsz r (hsp.mem_iff.mp hr)
  have hndb : (R.map fun r => nat8 (b1 r)).Nodup := by
    have h1 := List.pairwise_map.mp (List.nodup_iff_pairwise_ne.mp hK.n)
    refine List.nodup_iff_pairwise_ne.mpr (List.pairwise_map.mpr (List.Pairwise.imp_of_mem (fun {a b} ha hb h => ?_) h1))
    rw [nat8_b1 (hsz a ha), nat8_b1 (hsz b hb)]
    intro z
    simp at z
    rw [hd1_eq, hd1_eq] at h
    (first | lia | omega)
  refine' w_def (binds := [(Str.ofString "kind", .str y ty), (Str.ofString "rows", .ref ra), (Str.ofString "content", .ref c)]) S G hA hp ?ho ?hcd ?hbind ?hloc ?hks ?hl ?k ?hcell ?hco ?hgen ?hk
  k_extra "DEF"
  k_extra "SS"
  refine open_idx S G (hA.le (by decide)) (by k_extra "pk") hy ls_input hC hR5 kIn_kExt ?_
  clear S
  intro R' h x dx od oc' kl okl kt okt sl osl at_ oat fam e1 e2 H S
  have e2 := e2 kIn_kOut
  rw [e2] at H
  k_extra "SI"
  k_extra "SS"
  refine in_order_key S G (hA.le (by decide)) (by k_extra "pk") hy (by decide) hr (by (first | lia | omega)) hK.n hsz ?_
  clear S
  intro h oa oo ho S
  rw [← hs] at ho
  obtain ⟨ovs, hol, hob⟩ := ho
  have hovl := hob.length
  k_extra "SI"
  have S := S.sel (fp := (oa, oo) :: (ra, ro) :: ksL x dx c kl kt sl at_ od oc' okl okt osl oat fam) (by k_extra "pk")
  refine (it_list S hA.handled (by k_extra "pk") hol).mono fun it h2 hi2 => for_of hi2 (fun i l' led' => E4 fun at_ ab od oat => A5 (l' = [([111, 112, 101, 110, 95, 102, 105, 108, 101], Value.ref x), ([99, 111, 110, 116, 101, 110, 116], Value.ref c), ([114, 111, 119, 115], Value.ref ra), ([107, 105, 110, 100], Value.str y ty)]) (led' = (ra, ro) :: ksL x dx c kl kt sl at_ od oc' okl okt osl oat fam) (KS c kl kt sl at_ kIn ab false R od oc' okl okt osl oat fam) (ab.size ≠ 1) (PosB s ab i)) ⟨at_, _, od, oat, rfl, rfl, H, by decide, posB_nil s hssz⟩ ?_ ?_
  · clear S H
    intro i v l1 led1 I oI h hin hv hj S
    obtain ⟨at_, ab, od, oat, rfl, rfl, H, hab, hPos⟩ := hj
    have hi : i < s.length := by (first | lia | omega)
    obtain ⟨tv, hvb⟩ := hob.get (List.getElem?_eq_getElem hi)
    rw [hv] at hvb
    obtain rfl := Option.some.inj hvb
    obtain ⟨mx2, tm2, ax2, ta2, ns2, t1, wt2, rl2, t2, hi2', t3, hmx2, hax2, hF⟩ := id H.f
    k_extra "SI"
    k_extra "SS"
    refine key_next S G (hA.le (by decide)) (by k_extra "pk") H (.inl rfl) hR5 hRz hndb (fun r hr e => hab (by rw [← e]; exact b1_size (hsz r hr))) (fun z => by cases z) (fun _ z => by
      exact absurd ((hPos i hi).mpr (Nat.le_refl _)) (z _ (hsp.mem_iff.mp (List.getElem_mem hi)))) ?_
    clear S
    intro r _ hmem hlow hmin h od a ot at2 oat2 hot H S
    obtain rfl := posB_pick hasc hssz hPos hi (hsp.mem_iff.mpr hmem) hlow fun q hq hl => hmin q (hsp.mem_iff.mp hq) hl
    obtain ⟨sx, tx, tr, hsx, rfl⟩ := hot
    obtain ⟨fa, rfl⟩ : ∃ z, z = a := ⟨a, rfl⟩
    k_extra "SI"
    k_extra "SS"
    refine d_tne (ds := [.str [48, 48], .bytes s[i]]) (vs := [.str sx tx, .bytes s[i] tr]) (us := [.str (Str.ofString "00") _, .bytes s[i] _]) (tupO_at (S.get (by k_extra "mem"))) (tupO_at (S.get (by k_extra "mem"))) (.cons (.str hsx) (.cons .bytes .nil)) (.cons (.str ls_00) (.cons .bytes .nil)) (by have := hA.units; show A.units + 0 + 2 < 9900; (first | lia | omega)) ?_
    k_extra "SS"
    refine ⟨_, _, (by k_extra "TE"), ⟨at2, _, od, oat2, rfl, rfl, H, ?_, posB_next hasc hssz hi⟩⟩
    rw [Array.size_append, b1_size (hssz _ (List.getElem_mem hi))]
    decide
  · clear S H
    intro l1 led1 h hj S
    obtain ⟨at_, ab, od, oat, rfl, rfl, H, hab, hPos⟩ := hj
    rw [hovl] at hPos
    have hneb : ∀ r ∈ R, b1 r ≠ ab := fun r hr e => hab (by rw [← e]; exact b1_size (hsz r hr))
    obtain ⟨mx2, tm2, ax2, ta2, ns2, t1, wt2, rl2, t2, hi2', t3, hmx2, hax2, hF⟩ := id H.f
    k_extra "SI"
    k_extra "SS"
    refine key_next S G (hA.le (by decide)) (by k_extra "pk") H (.inl rfl) hR5 hRz hndb hneb (fun z => by cases z) ?_ (fun r _ hmem hlow _ => absurd hlow (posB_end hPos (hsp.mem_iff.mpr hmem)))
    clear S H
    intro _ _ h od a1 ot1 hot1 H S
    obtain ⟨sx1, tx1, tr1, hsx1, rfl⟩ := hot1
    obtain ⟨mx2, tm2, ax2, ta2, ns2, t1, wt2, rl2, t2, hi2', t3, hmx2, hax2, hF⟩ := id H.f
    k_extra "SI"
    k_extra "SS"
    refine key_next S G (hA.le (by decide)) (by k_extra "pk") H (.inl rfl) hR5 hRz hndb hneb ?_ (fun z => by cases z) (fun r z => by cases z)
    clear S
    intro _ h od a2 ot2 hot2 H S
    obtain ⟨sx2, tx2, tr2, hsx2, rfl⟩ := hot2
    k_extra "SI"
    k_extra "NL"
    obtain ⟨f1, rfl⟩ : ∃ z, z = fl := ⟨fl, rfl⟩
    k_extra "NT"
    obtain ⟨p1, rfl⟩ : ∃ z, z = ft := ⟨ft, rfl⟩
    k_extra "NT"
    obtain ⟨p2, rfl⟩ : ∃ z, z = ft := ⟨ft, rfl⟩
    k_extra "NL"
    refine d_leq (ds := [.tup [.str [49, 48], .bytes #[]], .tup [.str [52, 54], .bytes #[]]]) (vs := [.ref a1, .ref a2]) (us := [.ref p1, .ref p2]) ((IsL.new (n := 0)).ints (S.get (by k_extra "mem"))) ((IsL.new (n := 0)).ints (S.get (by k_extra "mem")))
      (.cons (.tup (tupO_at (S.get (by k_extra "mem"))) (.cons (.str hsx1) (.cons .bytes .nil))) (.cons (.tup (tupO_at (S.get (by k_extra "mem"))) (.cons (.str hsx2) (.cons .bytes .nil))) .nil))
      (.cons (.tup (tupO_at (S.get (by k_extra "mem"))) (.cons (.str ls_10) (.cons .bytes .nil))) (.cons (.tup (tupO_at (S.get (by k_extra "mem"))) (.cons (.str ls_46) (.cons .bytes .nil))) .nil)) (by have := hA.units; show A.units + 1 + 2 < 9900; (first | lia | omega)) ?_
    k_extra "SS"
    exact ⟨_, _, [(ra, _), (c, _)], S.sel (by k_extra "pk"), fun S => k _ _ H.c S⟩
end
end La7

section La8
theorem FnL.mono {f : Addr} {tl led : Led} (H : FnL f tl) (h : ∀ q ∈ tl, q ∈ led) : FnL f led := by
  obtain ⟨oc, od, fd, sl, m⟩ := H
  exact ⟨oc, od, fd, sl, h _ m⟩
theorem Tk.call {w : World} {f : Addr} {n : Nat} {tl : Led} (H : Tk w f (n + 1) tl) {g : Heap} {L : Addr} {h : Heap} {l : Loc} {led rest : Led} {A : Around} (S : St g L h l led) (G : Gd w g) (hA : Amb A 2) (hp : Pk tl led rest) {lim : Int} {t : Tok} {P : Value → Heap → Prop} (h0 : 0 < lim) (h1 : lim ≤ 1000)
    (k : ∀ h' r t' tl', 0 ≤ r → r < lim → Tk w f n tl' → St g L h' l (tl' ++ rest) → P (.int r t') h') : W w A (call (.ref f) [.int lim t]) P h := H.2 S G hA hp lim t P h0 h1 k
theorem Tk.pred {w : World} {f : Addr} : ∀ {n : Nat} {tl : Led}, Tk w f (n + 1) tl → Tk w f n tl
  | 0, _, H => H.1
  | n + 1, _, H => ⟨H.1, fun S G hA hp lim t P h0 h1 k => H.2 S G hA hp lim t P h0 h1 fun h' r t' tl' a b c d => k h' r t' tl' a b (Tk.pred c) d⟩
theorem Tk.le {w : World} {f : Addr} {m : Nat} : ∀ {n : Nat} {tl : Led}, Tk w f n tl → m ≤ n → Tk w f m tl
  | 0, _, H, h => by obtain rfl : m = 0 := by (first | lia | omega)
                     exact H
  | n + 1, _, H, h => by
    rcases Nat.lt_or_ge m (n + 1) with z | z
    · exact Tk.le (Tk.pred H) (by (first | lia | omega))
    · obtain rfl : m = n + 1 := by (first | lia | omega)
      exact H
theorem valueAt_stored {kvs : List (Str × Value)} {x : Str} {v : Value} : valueAt (stored kvs x v) x = some v := by
  unfold stored
  split
  · next h =>
    obtain ⟨p, hp, e⟩ := List.any_eq_true.mp h
    have e : p.1 = x := of_decide_eq_true e
    unfold valueAt
    clear h
    induction kvs with
    | nil => cases hp
    | cons q kvs ih =>
      rw [List.map_cons, List.find?_cons]
      by_cases hq : q.1 = x
      · simp [hq]
      · rcases List.mem_cons.mp hp with rfl | hp
        · exact absurd e hq
        · simp only [hq, if_false, decide_false]
          exact ih hp
  · next h =>
    unfold valueAt
    rw [List.find?_append]
    have : kvs.find? (fun kv => decide (kv.1 = x)) = none := by
      rw [List.find?_eq_none]
      intro p hp hz
      exact h (List.any_eq_true.mpr ⟨p, hp, hz⟩)
    rw [this]
    simp
def RD (kk : List Nat) (d R : RowsT) : Prop := (kk = kRel → d.Perm R) ∧ (kk ≠ kRel → d = R)
def RG (kk : List Nat) (m : Nat) (R : RowsT) : Prop := (kk = kSeq → sz3 R ∧ R.length ≤ m) ∧ (kk ≠ kSeq → KG R)
theorem RG.sz {kk : List Nat} {m : Nat} {R : RowsT} (H : RG kk m R) : sz3 R := by
  by_cases h : kk = kSeq
  · exact (H.1 h).1
  · exact (H.2 h).s
theorem RG.len {kk : List Nat} {m : Nat} {R : RowsT} (H : RG kk m R) : R.length ≤ m + 5 := by
  by_cases h : kk = kSeq
  · have := (H.1 h).2; (first | lia | omega)
  · have := (H.2 h).len; (first | lia | omega)
theorem RG.mono {kk : List Nat} {m m' : Nat} {R : RowsT} (H : RG kk m R) (h : m ≤ m') : RG kk m' R := ⟨fun z => ⟨(H.1 z).1, by have := (H.1 z).2; (first | lia | omega)⟩, H.2⟩
theorem RG.nil (kk : List Nat) (m : Nat) : RG kk m [] := ⟨fun _ => ⟨fun r hr => (by cases hr), Nat.zero_le _⟩, fun _ => ⟨fun r hr => (by cases hr), List.nodup_nil, fun r hr => (by cases hr)⟩⟩
structure LR (m : Nat) (F Q : FF) : Prop where
  none : ∀ k, F k = none ↔ Q k = none
  some : ∀ k R, Q k = some R → RG k m R ∧ ∃ d, F k = some d ∧ RD k d R
theorem LR.upd {m m' : Nat} {F Q : FF} (H : LR m F Q) (hm : m ≤ m') {k : List Nat} {d R : RowsT} (h1 : RG k m' R) (h2 : RD k d R) : LR m' (upd F k d) (upd Q k R) := by
  refine ⟨fun k' => ?_, fun k' R' h => ?_⟩
  · unfold Mine.upd
    by_cases e : k' = k
    · rw [if_pos e, if_pos e]; simp
    · rw [if_neg e, if_neg e]; exact H.none k'
  · unfold Mine.upd at h ⊢
    by_cases e : k' = k
    · subst e
      rw [if_pos rfl] at h ⊢
      cases h
      exact ⟨h1, d, rfl, h2⟩
    · rw [if_neg e] at h ⊢
      obtain ⟨h3, d', h4, h5⟩ := H.some k' R' h
      exact ⟨h3.mono hm, d', h4, h5⟩
theorem LR.mono {m m' : Nat} {F Q : FF} (H : LR m F Q) (hm : m ≤ m') : LR m' F Q := ⟨H.none, fun k R h => let ⟨a, b⟩ := H.some k R h; ⟨a.mono hm, b⟩⟩
theorem LR.goodQ {m : Nat} {F Q : FF} (H : LR m F Q) (h3 : ∀ k, Q k ≠ .none → k ∈ kinds3) (hm : m ≤ 50) : GoodF Q where
  three := h3
  len := fun kk d h => by have := (H.some kk d h).1.len; (first | lia | omega)
  size := fun kk d h b hb => by have := (H.some kk d h).1.sz b hb; (first | lia | omega)
  rel := fun d h => by
    have hK := (H.some kRel d h).1.2 (by decide)
    exact ⟨hK.n, fun b hb => by have := five_pos (hK.f b hb); (first | lia | omega)⟩
theorem LR.of {m : Nat} {F Q : FF} (H : LR m F Q) {k : List Nat} {d : RowsT} (h : F k = Option.some d) : ∃ R, Q k = Option.some R ∧ RG k m R ∧ RD k d R := by
  cases e : Q k with
  | none => rw [(H.none k).mpr e] at h; cases h
  | some R =>
    obtain ⟨h1, d', h2, h3⟩ := H.some k R e
    rw [h] at h2; cases h2
    exact ⟨R, rfl, h1, h3⟩
theorem RD.mem {kk : List Nat} {d R : RowsT} (H : RD kk d R) {b : Array UInt8} : b ∈ d ↔ b ∈ R := by
  by_cases h : kk = kRel
  · exact (H.1 h).mem_iff
  · rw [H.2 h]
theorem RD.len {kk : List Nat} {d R : RowsT} (H : RD kk d R) : d.length = R.length := by
  by_cases h : kk = kRel
  · exact (H.1 h).length_eq
  · rw [H.2 h]
theorem LR.goodF {m : Nat} {F Q : FF} (H : LR m F Q) (h3 : ∀ k, F k ≠ .none → k ∈ kinds3) (hm : m ≤ 50) : GoodF F where
  three := h3
  len := fun kk d h => by obtain ⟨R, h1, h2, h4⟩ := H.of h; have := h2.len; have := h4.len; (first | lia | omega)
  size := fun kk d h b hb => by obtain ⟨R, h1, h2, h4⟩ := H.of h; have := h2.sz b (h4.mem.mp hb); (first | lia | omega)
  rel := fun d h => by
    obtain ⟨R, h1, h2, h4⟩ := H.of h
    have hK := h2.2 (by decide)
    exact ⟨(((h4.1 rfl).map hd1).nodup_iff).mpr hK.n, fun b hb => by have := five_pos (hK.f b (h4.mem.mp hb)); (first | lia | omega)⟩
theorem LR.pl {m : Nat} {F Q : FF} (H : LR m F Q) : pl F = pl Q := by
  unfold Mine.pl
  refine List.filter_congr fun k _ => ?_
  have := H.none k
  cases e1 : F k <;> cases e2 : Q k <;> simp_all
theorem LR.told {m : Nat} {F Q : FF} (H : LR m F Q) : (Mine.pl F).map (onePD F) = (Mine.pl Q).map (onePD Q) := by
  rw [H.pl]
  refine List.map_congr_left fun k hk => ?_
  obtain ⟨R, hR⟩ := Option.isSome_iff_exists.mp (List.mem_filter.mp hk).2
  obtain ⟨h1, d, h2, h3⟩ := H.some k R hR
  unfold onePD
  rw [hR, h2, Option.getD_some, Option.getD_some]
  have : rowsPD k d = rowsPD k R := by
    unfold rowsPD
    by_cases e : k = kRel
    · have hK := h1.2 (by rw [e]; decide)
      rw [if_pos e, if_pos e, sortR_congr (h3.1 e) ((((h3.1 e).map hd1).nodup_iff).mpr hK.n)]
    · rw [if_neg e, if_neg e, h3.2 e]
  rw [this]
theorem LR.norm {m : Nat} {F Q : FF} (H : LR m F Q) : LR m (normF F) Q := by
  refine ⟨fun k => ?_, fun k R h => ?_⟩
  · unfold normF
    rw [Option.map_eq_none_iff]
    exact H.none k
  · obtain ⟨h1, d, h2, h3⟩ := H.some k R h
    refine ⟨h1, ordR k d, ?_, fun e => ?_, fun e => ?_⟩
    · unfold normF; rw [h2]; rfl
    · unfold ordR; rw [if_pos e]; exact (sortR_perm d).trans (h3.1 e)
    · unfold ordR; rw [if_neg e]; exact h3.2 e
section
variable {w : World} {A : Around} {h g : Heap} {env : Env} {L : Addr} {l : Loc} {led rest : Led}
end
inductive OF (w : World) (km : List Nat) (R : RowsT) (ca x : Addr) : List Nat → Led → Prop
  | seq {dx od oc at_ last v} : RowF ca km at_ last v od → IsR R oc → 0 ≤ at_ → (v = false → (R.length : Int) ≤ at_) → (km ≠ kIo → v = true) → OF w km R ca x kSeq [(x, instObj 540 dx), (dx, od), (ca, oc)]
  | rel {dx od oc d la nu} : RelF ca km 1 false true la nu od → RelC w (relRows d) ca oc → d.Perm R → km ≠ kExt → OF w km R ca x kRel [(x, instObj 489 dx), (dx, od), (ca, oc)]
  | idx {dx od oc kl okl kt okt sl osl at_ oat fam} : KS ca kl kt sl at_ km #[] false R od oc okl okt osl oat fam → km ≠ kExt → OF w km R ca x kIdx (ksL x dx ca kl kt sl at_ od oc okl okt osl oat fam)
theorem OF.close {w : World} {km kk : List Nat} {R : RowsT} {ca x : Addr} {ol : Led} (H : OF w km R ca x kk ol) : ∃ d oc ol', ol.Perm ((ca, oc) :: ol') ∧ ContOK w kk d ca oc ∧ RD kk d R := by
  cases H with
  | @seq dx od oc at_ last v hf hC _ _ _ => exact ⟨R, oc, [(x, instObj 540 dx), (dx, od)], List.perm_append_comm (l₁ := [(x, instObj 540 dx), (dx, od)]) (l₂ := [(ca, oc)]), ⟨fun z => (by cases z), fun _ => hC⟩, fun z => (by cases z), fun _ => rfl⟩
  | @rel dx od oc d la nu hf hC hp _ => exact ⟨d, oc, [(x, instObj 489 dx), (dx, od)], List.perm_append_comm (l₁ := [(x, instObj 489 dx), (dx, od)]) (l₂ := [(ca, oc)]), ⟨fun _ => hC, fun z => absurd rfl z⟩, fun _ => hp, fun z => absurd rfl z⟩
  | @idx dx od oc kl okl kt okt sl osl at_ oat fam H _ => exact ⟨R, oc, (x, instObj 381 dx) :: (dx, od) :: (kl, okl) :: (kt, okt) :: (sl, osl) :: (at_, oat) :: fam, List.perm_middle (l₁ := [(x, instObj 381 dx), (dx, od)]), ⟨fun z => (by cases z), fun _ => H.c⟩, fun z => (by cases z), fun _ => rfl⟩
section
variable {w : World} {A : Around} {h g : Heap} {env : Env} {L : Addr} {l : Loc} {led rest : Led}
theorem opened_any {x : Addr} {f : FF} {sl : Led} {kk km : List Nat} {tp tk tm : Tok} {y mx : Str} {P : Value → Heap → Prop}
    (S : St g L h l led) (G : Gd w g) (hA : Amb A 3) (hp : Pk sl led rest) (H : Sh w x f sl) (hk : kk ∈ kinds3) (hy : key y = kk) (hmx : key mx = km)
    (k1 : km ≠ kOut → f kk = none → ∀ h' a sx t, key sx = [51, 53] → St g L h' l ((a, tupO [.str sx t, .none]) :: (sl ++ rest)) → P (.ref a) h')
    (k2 : ∀ d h' a ca oc sl' sx t, (km = kOut → d = []) → (km ≠ kOut → f kk = some d) → key sx = [48, 48] → ContOK w kk d ca oc → Hole w x kk f ca sl' → St g L h' l ((a, tupO [.str sx t, .ref ca]) :: (ca, oc) :: (sl' ++ rest)) → P (.ref a) h')
    : W w A (call (.ref 117) [.ref x, .str (stO kk) tp, .str y tk, .str mx tm]) P h := by
  by_cases hm : km = kOut
  · exact shelf_opened1 S G hA hp H hk hy hmx hm fun _ h' a ca oc sl' sx t hsx hc hh S => k2 [] h' a ca oc sl' sx t (fun _ => rfl) (fun z => absurd hm z) hsx hc hh (by simpa using S)
  · exact shelf_opened2 S G hA hp H hk hy hmx hm (fun a b h' a' sx t hsx S => k1 a b h' a' sx t hsx (by simpa using S)) fun a d hd h' a' ca oc sl' sx t hsx hc hh S => k2 d h' a' ca oc sl' sx t (fun z => absurd z hm) (fun _ => hd) hsx hc hh (by simpa using S)
theorem open_any {c : Addr} {oc : Obj} {y mx : Str} {ty tm : Tok} {kk km : List Nat} {d R : RowsT} {m : Nat} {P : Value → Heap → Prop}
    (S : St g L h l led) (G : Gd w g) (hA : Amb A 5) (hp : Pk [(c, oc)] led rest) (hk : kk ∈ kinds3) (hy : key y = kk) (hmx : key mx = km) (hC : ContOK w kk d c oc) (hR : RD kk d R) (hG : RG kk m R) (hm : m ≤ 50) (hke : kk ≠ kSeq → km ≠ kExt) (hout : km = kOut → R = [])
    (k : ∀ h' x ol, OF w km R c x kk ol → St g L h' l (ol ++ rest) → P (.ref x) h')
    : W w A (call (.ref 559) [.str y ty, .ref c, .str mx tm]) P h := by
  have hRl := hG.len
  have hdl := hR.len
  have same : ∀ {Q Q' : RowsT}, (km = kOut → Q' = []) → (km ≠ kOut → Q' = Q) → Q = R → Q' = R := fun {Q Q'} e1 e2 e => by
    by_cases z : km = kOut
    · rw [e1 z, hout z]
    · rw [e2 z, e]
  rcases kinds3_cases hk with rfl | rfl | rfl
  · have hdR := hR.2 (by decide)
    exact open_idx S G hA hp hy hmx (hC.row (by decide)) (by rw [hdR]; exact (hG.2 (by decide)).len) (hke (by decide)) fun R' h' x dx od oc' kl okl kt okt sl osl at_ oat fam e1 e2 H S => by
      obtain rfl := same e1 e2 hdR
      exact k _ _ _ (.idx H (hke (by decide))) S
  · exact open_rel S G hA hp hy hmx (hC.rel rfl) (by (first | lia | omega)) (hke (by decide)) fun d' h' x dx od oc' e1 e2 hf hC' S => by
      refine k _ _ _ (.rel (d := d') hf hC' ?_ (hke (by decide))) S
      by_cases z : km = kOut
      · rw [e1 z, hout z]
      · rw [e2 z]; exact hR.1 rfl
  · have hdR := hR.2 (by decide)
    exact open_seq S G hA hp hy hmx (hC.row (by decide)) (by (first | lia | omega)) fun R' h' x dx od oc' e1 e2 hf hC' S => by
      obtain rfl := same e1 e2 hdR
      exact k _ _ _ (.seq hf hC' (by (first | lia | omega)) (fun z => by cases z) (fun _ => rfl)) S
theorem rows_any {ra ca x : Addr} {ro : Obj} {ol : Led} {mx : Str} {tm tb : Tok} {km : List Nat} {R : RowsT} {tu : Bool} {b : Array UInt8} {m : Nat} {P : Value → Heap → Prop}
    (S : St g L h l led) (G : Gd w g) (hA : Amb A 5) (hp : Pk ((ra, ro) :: ol) led rest) (hmx : key mx = km) (hm : km = kOut ∨ km = kExt ∨ km = kIo)
    (hr : IsR R ro) (H : OF w km R ca x kSeq ol) (hG : RG kSeq m R) (hm2 : m ≤ 50) (hb : 1 ≤ b.size ∧ b.size ≤ 3)
    (k : ∀ R' h' ro' ol', RG kSeq (m + 1) R' → IsR R' ro' → OF w km R' ca x kSeq ol' → St g L h' l ((ra, ro') :: (ol' ++ rest)) → P (.bool true) h')
    : W w A (call (.ref 592) [.str mx tm, .ref ra, .ref x, .bool tu, .bytes b tb]) P h := by
  have h1 := hG.1 rfl
  cases H with
  | seq hf hC h0 hv hvw =>
    exact rows_right S G hA hp hmx hm hr hC hf h0 hv hvw (by (first | lia | omega)) h1.1 hb fun R' h' ro' od' oc' at' last' v' hl hs hr' hC' hf' h0' hv' hvw' S =>
      k R' h' ro' _ ⟨fun _ => ⟨hs, by (first | lia | omega)⟩, fun z => absurd rfl z⟩ hr' (.seq hf' hC' h0' hv' hvw') (by simpa using S)
theorem keyed_any {ra ca x : Addr} {ro : Obj} {ol : Led} {y mx wx : Str} {ty tm tw tb : Tok} {kk km kw : List Nat} {R : RowsT} {b : Array UInt8} {m : Nat} {P : Value → Heap → Prop}
    (S : St g L h l led) (G : Gd w g) (hA : Amb A 6) (hp : Pk ((ra, ro) :: ol) led rest) (hy : key y = kk) (hks : kk ≠ kSeq) (hmx : key mx = km) (hm : km = kOut ∨ km = kExt ∨ km = kIo) (hwx : key wx = kw) (hw : kw = kWr ∨ kw = kRw ∨ kw = kDl)
    (hr : IsR R ro) (H : OF w km R ca x kk ol) (hG : RG kk m R) (hb : 1 ≤ b.size ∧ b.size ≤ 3) (hb5 : five (hd1 b))
    (k : ∀ R' h' ro' ol', RG kk (m + 1) R' → IsR R' ro' → OF w km R' ca x kk ol' → St g L h' l ((ra, ro') :: (ol' ++ rest)) → P (.bool true) h')
    : W w A (call (.ref 585) [.str y ty, .str mx tm, .ref ra, .ref x, .str wx tw, .bytes b tb]) P h := by
  have hK := hG.2 hks
  cases H with
  | seq => exact absurd rfl hks
  | @rel dx od oc d la nu hf hC hpd hne =>
    have hm' : km = kOut ∨ km = kIo := by
      rcases hm with z | z | z
      · exact .inl z
      · exact absurd z hne
      · exact .inr z
    have kk' : ∀ R' d' h' ro' od' oc' la' nu', KG R' → d'.Perm R' → IsR R' ro' → RelC w (relRows d') ca oc' → RelF ca km 1 false true la' nu' od' → St g L h' l ([(ra, ro'), (x, instObj 489 dx), (dx, od'), (ca, oc')] ++ rest) → P (.bool true) h' :=
      fun R' d' h' ro' od' oc' la' nu' hK' hp' hr' hC' hf' S => k R' h' ro' _ ⟨fun z => (by cases z), fun _ => hK'⟩ hr' (.rel hf' hC' hp' hne) (by simpa using S)
    rcases hw with rfl | rfl | rfl
    · exact rel_w S G hA hp hy hmx hm' hwx hr hf hC hpd hK hb hb5 kk'
    · exact rel_rw S G hA hp hy hmx hwx hr hf hC hpd hK hb hb5 kk'
    · exact rel_dl S G hA hp hy hmx hwx hr hf hC hpd hK hb hb5 kk'
  | idx H hne =>
    have hm' : km = kOut ∨ km = kIo := by
      rcases hm with z | z | z
      · exact .inl z
      · exact absurd z hne
      · exact .inr z
    rcases hw with rfl | rfl | rfl
    · exact idx_w S G hA hp hy hmx hm' hwx hr H hK hb hb5 fun R' h' ro' od' oc' osl' fam' hK' hr' H' S => k R' h' ro' _ ⟨fun z => (by cases z), fun _ => hK'⟩ hr' (.idx H' hne) (by simpa using S)
    · exact idx_rw S G hA hp hy hmx hwx hr H hK hb hb5 fun R' h' ro' od' oc' osl' fam' hK' hr' H' S => k R' h' ro' _ ⟨fun z => (by cases z), fun _ => hK'⟩ hr' (.idx H' hne) (by simpa using S)
    · exact idx_dl S G hA hp hy hmx hwx hr H hK hb hb5 fun R' h' ro' od' oc' osl' fam' hK' hr' H' S => k R' h' ro' _ ⟨fun z => (by cases z), fun _ => hK'⟩ hr' (.idx H' hne) (by simpa using S)
theorem is_read_any {ra c : Addr} {ro oc : Obj} {y : Str} {ty : Tok} {kk : List Nat} {d R : RowsT} {m : Nat} {P : Value → Heap → Prop}
    (S : St g L h l led) (G : Gd w g) (hA : Amb A 7) (hp : Pk [(ra, ro), (c, oc)] led rest) (hk : kk ∈ kinds3) (hy : key y = kk) (hr : IsR R ro) (hC : ContOK w kk d c oc) (hR : RD kk d R) (hG : RG kk m R) (hm : m ≤ 50)
    (k : ∀ h' oc', ContOK w kk d c oc' → St g L h' l ([(ra, ro), (c, oc')] ++ rest) → P (.bool true) h')
    : W w A (call (.ref 599) [.str y ty, .ref ra, .ref c]) P h := by
  have hRl := hG.len
  rcases kinds3_cases hk with rfl | rfl | rfl
  · obtain rfl := hR.2 (by decide)
    exact is_read_idx S G hA hp hy hr (hC.row (by decide)) (hG.2 (by decide)) fun h' oc' hC' S => k h' oc' ⟨fun z => (by cases z), fun _ => hC'⟩ S
  · exact is_read_rel S G hA hp hy hr (hC.rel rfl) (hR.1 rfl) (hG.2 (by decide)) fun h' oc' hC' S => k h' oc' ⟨fun _ => hC', fun z => absurd rfl z⟩ S
  · obtain rfl := hR.2 (by decide)
    exact is_read_seq S G hA hp hy hr (hC.row (by decide)) (by (first | lia | omega)) fun h' oc' hC' S => k h' oc' ⟨fun z => (by cases z), fun _ => hC'⟩ S
end
end La8

section La9
theorem wordsLa91 : True := by
  (k_with "TK" => (
  refine s_callF S (FnL.mono hTk.fn (fun q hq => by k_extra "mem")) ?_ (by with_unfolding_all exact rfl) (by with_unfolding_all exact rfl)
  k_extra "SS"
  refine fnAt_of S (FnL.mono hTk.fn (fun q hq => by k_extra "mem")) ?_
  refine hTk.call S G (hA.le (by decide)) (by k_extra "pk") (by (first | lia | omega)) (by (first | lia | omega)) ?_
  clear S hTk
  intro h r tr tl hr0 hr1 hTk S
  k_extra "SI"))
  trivial
theorem kindOf3 {P : Params} {r : Int} (h0 : 0 ≤ r) (h1 : r < 3) : ∃ t0 t1 t2 y t kk, (Mine.hd.heap_39 P).lookup 545 = some (tupO [.str (Str.ofString "sequential") t0, .str (Str.ofString "relative") t1, .str (Str.ofString "indexed") t2]) ∧
    [Value.str (Str.ofString "sequential") t0, .str (Str.ofString "relative") t1, .str (Str.ofString "indexed") t2][r.toNat]? = some (.str y t) ∧ key y = kk ∧ kk ∈ kinds3 := by
  obtain ⟨t0, t1, t2, e⟩ := kt_545 P
  have : r.toNat = 0 ∨ r.toNat = 1 ∨ r.toNat = 2 := by (first | lia | omega)
  rcases this with z | z | z
  · exact ⟨t0, t1, t2, _, _, _, e, by rw [z]; rfl, ls_sequential, by simp⟩
  · exact ⟨t0, t1, t2, _, _, _, e, by rw [z]; rfl, ls_relative, by simp⟩
  · exact ⟨t0, t1, t2, _, _, _, e, by rw [z]; rfl, ls_indexed, by simp⟩
section
variable {w : World} {A : Around} {h g : Heap} {env : Env} {L : Addr} {l : Loc} {led rest : Led}
theorem Pk.mid {X fam Y old fam' led rest : Led} (H : Pk (X ++ (fam ++ Y)) led rest) (p : fam.Perm (old ++ fam')) : Pk (X ++ (fam' ++ Y)) led (old ++ rest) := by
  unfold Pk at *
  refine H.trans ?_
  simp only [List.append_assoc]
  refine List.Perm.append_left X ((p.append_right _).trans ?_)
  have : ((old ++ (fam' ++ Y)) ++ rest).Perm (((fam' ++ Y) ++ old) ++ rest) := List.perm_append_comm.append_right rest
  simp only [List.append_assoc] at this ⊢
  exact this
theorem St.famAs {p q : Addr × Obj} {sl sl2 r : Led} (S : St g L h l (p :: q :: (sl ++ r))) (e : sl2 = q :: sl) : St g L h l (p :: (sl2 ++ r)) := by rw [e]; exact S
theorem t_mode (S : St g L h l led) {a : Addr} {t0 t1 t2 t3 : Tok} (m : (a, tupO [.str (Str.ofString "output") t0, .str (Str.ofString "i-o") t1, .str (Str.ofString "extend") t2, .str (Str.ofString "i-o") t3]) ∈ led) {value slice : Expr} {r : Int} {u : Tok} {P : Value → Heap → Prop} (h0 : 0 ≤ r) (h1 : r < 4)
    (k : ∀ mx tm km, key mx = km → (km = kOut ∨ km = kExt ∨ km = kIo) → P (.str mx tm) h)
    (hs : subscripted slice false (.ref a) (.int r u) = operate [.ref a, .int r u] (getItem (.ref a) (.int r u))) : W w A (subscriptTail value slice (.ref a) (.int r u)) P h := by
  have : r.toNat = 0 ∨ r.toNat = 1 ∨ r.toNat = 2 ∨ r.toNat = 3 := by (first | lia | omega)
  rcases this with z | z | z | z
  · exact t_item S m h0 (by (first | lia | omega)) (by rw [z]; rfl) (k _ _ _ ls_output (.inl rfl)) hs
  · exact t_item S m h0 (by (first | lia | omega)) (by rw [z]; rfl) (k _ _ _ ls_i_o (.inr (.inr rfl))) hs
  · exact t_item S m h0 (by (first | lia | omega)) (by rw [z]; rfl) (k _ _ _ ls_extend (.inr (.inl rfl))) hs
  · exact t_item S m h0 (by (first | lia | omega)) (by rw [z]; rfl) (k _ _ _ ls_i_o (.inr (.inr rfl))) hs
theorem t_word (S : St g L h l led) {a : Addr} {t0 t1 t2 t3 t4 : Tok} (m : (a, tupO [.str (Str.ofString "write") t0, .str (Str.ofString "write") t1, .str (Str.ofString "rewrite") t2, .str (Str.ofString "delete") t3, .str (Str.ofString "write") t4]) ∈ led) {value slice : Expr} {r : Int} {u : Tok} {P : Value → Heap → Prop} (h0 : 0 ≤ r) (h1 : r < 5)
    (k : ∀ wx tm kw, key wx = kw → (kw = kWr ∨ kw = kRw ∨ kw = kDl) → P (.str wx tm) h)
    (hs : subscripted slice false (.ref a) (.int r u) = operate [.ref a, .int r u] (getItem (.ref a) (.int r u))) : W w A (subscriptTail value slice (.ref a) (.int r u)) P h := by
  have : r.toNat = 0 ∨ r.toNat = 1 ∨ r.toNat = 2 ∨ r.toNat = 3 ∨ r.toNat = 4 := by (first | lia | omega)
  rcases this with z | z | z | z | z
  · exact t_item S m h0 (by (first | lia | omega)) (by rw [z]; rfl) (k _ _ _ nm_write (.inl rfl)) hs
  · exact t_item S m h0 (by (first | lia | omega)) (by rw [z]; rfl) (k _ _ _ nm_write (.inl rfl)) hs
  · exact t_item S m h0 (by (first | lia | omega)) (by rw [z]; rfl) (k _ _ _ nm_rewrite (.inr (.inl rfl))) hs
  · exact t_item S m h0 (by (first | lia | omega)) (by rw [z]; rfl) (k _ _ _ nm_delete (.inr (.inr rfl))) hs
  · exact t_item S m h0 (by (first | lia | omega)) (by rw [z]; rfl) (k _ _ _ nm_write (.inl rfl)) hs
theorem and_mid (Mid : Heap → Prop) {b : Bool} {X : Expr} {whole : Sem Value} {body orelse : List Stmt} {K : Heap → Prop} {P : Flow → Heap → Prop}
    (h1 : b = true → W w A (isTrue X env whole) (fun c h1 => (c = true → W w A (execs body env) (Then Mid P) h1) ∧ (c = false → W w A (execs orelse env) (Then Mid P) h1)) h)
    (h2 : b = false → W w A (execs orelse env) (Then Mid P) h) (k : ∀ h', Mid h' → K h') :
    (b = true → W w A (isTrue X env whole) (fun c h1 => (c = true → W w A (execs body env) (Then K P) h1) ∧ (c = false → W w A (execs orelse env) (Then K P) h1)) h) ∧
    (b = false → ((false = true → W w A (execs body env) (Then K P) h) ∧ (false = false → W w A (execs orelse env) (Then K P) h))) := by
  have mm : ∀ f h', Then Mid P f h' → Then K P f h' := fun f h' x => by
    cases f with
    | next => exact k _ x
    | brk => exact x
    | cont => exact x
    | ret v => exact x
  exact ⟨fun e => (h1 e).mono fun c h1 x => ⟨fun z => (x.1 z).mono mm, fun z => (x.2 z).mono mm⟩, fun e => ⟨fun z => (by cases z), fun _ => (h2 e).mono mm⟩⟩
theorem session {f x d : Addr} {n m : Nat} {F Q : FF} {tl sl fl : Led} {P : Value → Heap → Prop}
    (S : St g L h l led) (G : Gd w g) (hA : Amb A 9) (hp : Pk (tl ++ (sl ++ fl)) led rest) (hTk : Tk w f (n + 28) tl) (hS : Sh w x F sl) (hF : Fs w d Q fl) (hL : LR m F Q) (hm : m ≤ 40)
    (k : ∀ h' tl' sl' fl' F' Q', Tk w f n tl' → Sh w x F' sl' → Fs w d Q' fl' → LR (m + 5) F' Q' → St g L h' l (tl' ++ (sl' ++ (fl' ++ rest))) → P (.bool true) h')
    : W w A (call (.ref 604) [.ref f, .ref x, .ref d]) P h := by
  obtain ⟨dx, od, fs, hx, hdx, hxf⟩ := hS.mem
  have three := hS.three
  refine w_ofC ?_
  refine' c_defC (binds := [(Str.ofString "take", .ref f), (Str.ofString "shelf", .ref x), (Str.ofString "files", .ref d)]) (bl := [(Str.ofString "shelf", .ref x), (Str.ofString "files", .ref d)]) (ns := [Str.ofString "take"]) S G hA hp ?ho ?hcd ?hbind ?hkind ?hnd ?hks ?hbl ?hl ?hns ?hm ?k ?hco ?hgen ?hk
  k_extra "DEFC"
  obtain ⟨cf, of, rfl, rfl, i1⟩ := X.one
  rw [nm_take] at e
  have i1 := IsC.to i1 (v' := some (.ref f)) (by rfl)
  clear X
  dsimp only [List.cons_append, List.nil_append] at S
  k_extra "SS"
  refine s_callF S (FnL.mono hTk.fn (fun q hq => by k_extra "mem")) ?_ (by with_unfolding_all exact rfl) (by with_unfolding_all exact rfl)
  k_extra "SS"
  refine fnAt_of S (FnL.mono hTk.fn (fun q hq => by k_extra "mem")) ?_
  refine hTk.call S G (hA.le (by decide)) (by k_extra "pk") (by (first | lia | omega)) (by (first | lia | omega)) ?_
  clear S hTk
  intro h r tr tl hr0 hr1 hTk S
  k_extra "SI"
  obtain ⟨t0, t1, t2, y, ty, kk, hT, hv, hy, hk⟩ := kindOf3 (P := w.params) hr0 hr1
  obtain rfl := stO_of hy
  clear hy
  have hy := key_stO kk
  refine t_itemK S G hT hr0 (by (first | lia | omega)) hv ?_ rfl
  k_extra "SS"
  refine s_callF S (FnL.mono hTk.fn (fun q hq => by k_extra "mem")) ?_ (by with_unfolding_all exact rfl) (by with_unfolding_all exact rfl)
  k_extra "SS"
  refine fnAt_of S (FnL.mono hTk.fn (fun q hq => by k_extra "mem")) ?_
  refine hTk.call S G (hA.le (by decide)) (by k_extra "pk") (by (first | lia | omega)) (by (first | lia | omega)) ?_
  clear S hTk
  intro h r tr tl hr0 hr1 hTk S
  k_extra "SI"
  refine t_mode S (by k_extra "mem") hr0 hr1 ?_ rfl
  intro mx tm km hmx hkm
  k_extra "SS"
  refine and_mid (fun h' => E3 fun mx tm km => A4 (key mx = km) ((km = kOut ∨ km = kExt ∨ km = kIo)) ((kk ≠ kSeq → km ≠ kExt)) (St g L h' [([109, 111, 100, 101], .str mx tm), ([107, 105, 110, 100], .str (stO kk) ty), ([102, 105, 108, 101, 115], Value.ref d), ([115, 104, 101, 108, 102], Value.ref x)] (tl ++ (cf, of) :: (sl ++ fl)))) ?_ ?_ ?_
  · intro q
    have hks : kk ≠ kSeq := by simpa using q
    k_extra "SS"
    refine ⟨fun q => ?_, fun q => ?_⟩
    · k_extra "SS"
      exact ⟨_, _, _, ls_i_o, .inr (.inr rfl), fun _ => by decide, (S.sel (by k_extra "pk")).locs (by k_extra "lsub")⟩
    · have hke : km ≠ kExt := by simpa using q
      k_extra "SS"
      exact ⟨_, _, _, hmx, hkm, fun _ => hke, (S.sel (by k_extra "pk")).locs (by k_extra "lsub")⟩
  · intro q
    have hks : kk = kSeq := by simpa using q
    k_extra "SS"
    exact ⟨_, _, _, hmx, hkm, fun z => absurd hks z, (S.sel (by k_extra "pk")).locs (by k_extra "lsub")⟩
  clear S hmx hkm
  rintro h ⟨mx, tm, km, hmx, hkm, hke, S⟩
  k_extra "SS"
  obtain ⟨odd, kvs, fam, hpe, hD, hg⟩ := id hF
  have hdm : (d, odd) ∈ fl := hpe.mem_iff.mpr (.head _)
  refine opened_any S G (hA.le (by decide)) (by k_extra "pk") hS hk hy hmx ?_ ?_
  · clear S
    intro hno hFn h a sx ts hsx S
    have hQn := (hL.none kk).mp hFn
    have hhas := hg.has kk
    rw [hQn] at hhas
    k_extra "SI"
    k_extra "SS"
    refine br_f (by simpa using hno) ?_
    k_extra "SS"
    refine br_t (by rw [hhas]; rfl) ?_
    k_extra "SS"
    rw [show (Value.none == Value.none) = true from rfl]
    exact ⟨_, _, tl ++ (sl ++ fl), S.sel (by k_extra "pk"), fun S => k _ tl sl fl F Q (hTk.le (by (first | lia | omega))) hS hF (hL.mono (by (first | lia | omega))) (by simpa using S)⟩
  · clear S
    intro dd h a ca ox sl' sx ts hd0 hd1' hsx hcx hh S
    have S := S.sel (fp := (a, tupO [.str sx ts, .ref ca]) :: (ca, ox) :: (d, odd) :: (fam ++ (sl' ++ (tl ++ [(cf, of)])))) (Pk.re (fp := (a, tupO [.str sx ts, .ref ca]) :: (ca, ox) :: (fl ++ (sl' ++ (tl ++ [(cf, of)])))) (((hpe.append_right _).symm.cons _).cons _) (by k_extra "pk"))
    k_extra "SS"
    refine br_mid (fun h' => E6 fun la lo odd kvs fam R => A8 (IsR R lo) (IsD (PySem.strKind PG w) kvs d odd) (valueAt kvs (stO kk) = some (.ref la)) (FHole w d kk Q la ((d, odd) :: fam)) (RD kk dd R) (RG kk m R) ((km = kOut → R = [])) (St g L h' [([99, 111, 110, 116, 101, 110, 116], .ref ca), ([115, 116, 97, 116, 117, 115], .str sx ts), ([109, 111, 100, 101], .str mx tm), ([107, 105, 110, 100], .str (stO kk) ty), ([102, 105, 108, 101, 115], Value.ref d), ([115, 104, 101, 108, 102], Value.ref x)]
        ((ca, ox) :: (la, lo) :: (d, odd) :: (fam ++ (sl' ++ (tl ++ [(cf, of)])))))) ?_ ?_ ?_
    · intro q
      have ho : km = kOut := by simpa using q
      have hkl := hg.len
      k_extra "SS"
      obtain ⟨old, fam', hpf, hs⟩ := hg.set hk (isD_nodup hc)
      have S := (S.sel (fp := (ca, ox) :: (a, _) :: (d, oc) :: (fam' ++ (sl' ++ (tl ++ [(cf, of)])))) (Pk.mid (X := [(ca, ox), (a, _), (d, oc)]) (by simp only [List.cons_append, List.nil_append]; k_extra "pk") hpf)).locs (l' := [([99, 111, 110, 116, 101, 110, 116], .ref ca), ([115, 116, 97, 116, 117, 115], .str sx ts), ([109, 111, 100, 101], .str mx tm), ([107, 105, 110, 100], .str (stO kk) ty), ([102, 105, 108, 101, 115], Value.ref d), ([115, 104, 101, 108, 102], Value.ref x)]) (by k_extra "lsub")
      have hdd := hd0 ho
      refine ⟨a, _, oc, _, fam', [], ⟨[], ⟨0, rfl⟩, .nil⟩, hc, valueAt_stored, fun rows oc' hr => ⟨oc, _, _, .swap _ _ _, hc, hs rows _ ⟨a, oc', rfl, rfl, hr⟩⟩, ⟨fun _ => by rw [hdd], fun _ => hdd⟩, RG.nil kk m, fun _ => rfl, S⟩
    · intro q
      have ho : km ≠ kOut := by simpa using q
      obtain ⟨R, hQ, hG, hR⟩ := hL.of (hd1' ho)
      obtain ⟨v, fe, fam', ⟨la, lo, rfl, rfl, hcl⟩, hva, hpf, hs⟩ := hg.at hQ
      k_extra "SS"
      have S := (S.sel (fp := (ca, ox) :: (la, lo) :: (d, odd) :: (fam' ++ (sl' ++ (tl ++ [(cf, of)])))) (Pk.re (fp := (ca, ox) :: (d, odd) :: (fam ++ (sl' ++ (tl ++ [(cf, of)])))) ?_ (by k_extra "pk"))).locs (l' := [([99, 111, 110, 116, 101, 110, 116], .ref ca), ([115, 116, 97, 116, 117, 115], .str sx ts), ([109, 111, 100, 101], .str mx tm), ([107, 105, 110, 100], .str (stO kk) ty), ([102, 105, 108, 101, 115], Value.ref d), ([115, 104, 101, 108, 102], Value.ref x)]) (by k_extra "lsub")
      · exact ⟨la, lo, odd, kvs, fam', R, hcl, hD, hva, fun rows oc hr => ⟨odd, kvs, _, .swap _ _ _, hD, hs rows _ ⟨la, oc, rfl, rfl, hr⟩⟩, hR, hG, fun z => absurd z ho, S⟩
      · exact ((List.Perm.swap _ _ _).trans ((hpf.append_right _).symm.cons _)).cons _
    clear S hD hg hdm hpe
    rintro h ⟨la, lo, odd, kvs, fam, R, hlo, hD, hva, hFH, hR, hG, hRo, S⟩
    k_extra "SS"
    refine br_f (by rw [hva]; rfl) ?_
    k_extra "SS"
    refine open_any S G (hA.le (by decide)) (by k_extra "pk") hk hy hmx hcx hR hG (by (first | lia | omega)) hke hRo ?_
    clear S
    intro h xo ol hOF S
    k_extra "SI"
    k_extra "SS"
    refine s_callF S (FnL.mono hTk.fn (fun q hq => by k_extra "mem")) ?_ (by with_unfolding_all exact rfl) (by with_unfolding_all exact rfl)
    k_extra "SS"
    refine fnAt_of S (FnL.mono hTk.fn (fun q hq => by k_extra "mem")) ?_
    refine hTk.call S G (hA.le (by decide)) (by k_extra "pk") (by (first | lia | omega)) (by (first | lia | omega)) ?_
    clear S hTk
    intro h r tr tl hr0 hr1 hTk S
    k_extra "SI"
    obtain ⟨rn, rfl⟩ := Int.eq_ofNat_of_zero_le hr0
    k_extra "SS"
    have ha2 : IsRg 0 ((1 + rn : Nat) : Int) 1 oa := by rw [Int.natCast_add]; exact ha
    obtain ⟨rg, rfl⟩ : ∃ z, z = a := ⟨a, rfl⟩
    obtain ⟨og, rfl⟩ : ∃ z, z = oa := ⟨oa, rfl⟩
    have S := S.sel (fp := (rg, og) :: (la, lo) :: (ol ++ (tl ++ ((d, odd) :: (fam ++ (sl' ++ [(cf, of)])))))) (by k_extra "pk")
    refine (it_range1 S hA.handled (by k_extra "mem") ha2 (by (first | lia | omega))).mono fun it h2 hi2 => for_of hi2 (fun i l' led' => E4 fun R lo tl ol => A6 (l' = [([111, 112, 101, 110, 95, 102, 105, 108, 101], Value.ref xo), ([114, 111, 119, 115], Value.ref la), ([99, 111, 110, 116, 101, 110, 116], Value.ref ca), ([115, 116, 97, 116, 117, 115], Value.str sx ts), ([109, 111, 100, 101], Value.str mx tm), ([107, 105, 110, 100], Value.str (stO kk) ty), ([102, 105, 108, 101, 115], Value.ref d), ([115, 104, 101, 108, 102], Value.ref x)]) (led' = (rg, og) :: (la, lo) :: (ol ++ (tl ++ ((d, odd) :: (fam ++ (sl' ++ [(cf, of)])))))) (IsR R lo) (OF w km R ca xo kk ol) (RG kk (m + i) R) (Tk w f (n + (25 - 5 * i)) tl)) ⟨R, lo, tl, ol, rfl, rfl, hlo, hOF, hG, hTk⟩ ?_ ?_
    · clear S hTk hlo hR hcx hG hOF hva hRo
      intro i v l1 led1 I oI h hin hv2 hj S
      obtain ⟨tv, rfl⟩ := hv2
      obtain ⟨R, lo, tl, ol, rfl, rfl, hlo, hOF, hG, hTk⟩ := hj
      rw [show n + (25 - 5 * i) = (n + (20 - 5 * i)) + 5 by (first | lia | omega)] at hTk
      k_extra "SI"
      k_extra "SS"
      refine s_callF S (FnL.mono hTk.fn (fun q hq => by k_extra "mem")) ?_ (by with_unfolding_all exact rfl) (by with_unfolding_all exact rfl)
      k_extra "SS"
      refine fnAt_of S (FnL.mono hTk.fn (fun q hq => by k_extra "mem")) ?_
      refine hTk.call S G (hA.le (by decide)) (by k_extra "pk") (by (first | lia | omega)) (by (first | lia | omega)) ?_
      clear S hTk
      intro h r tr tl hr0 hr1 hTk S
      k_extra "SI"
      obtain ⟨r1, rfl⟩ := Int.eq_ofNat_of_zero_le hr0
      refine d_mul (by decide) (by (first | lia | omega)) fun t1 => ?_
      k_extra "NL"
      obtain ⟨c1, rfl⟩ : ∃ z, z = fl := ⟨fl, rfl⟩
      have hc1 : IsL [.int (1 + 50 * (r1 : Int)) t] (W.listOf #[.int (1 + 50 * (r1 : Int)) t] 0) := ⟨0, rfl⟩
      k_extra "SS"
      refine s_callF S (FnL.mono hTk.fn (fun q hq => by k_extra "mem")) ?_ (by with_unfolding_all exact rfl) (by with_unfolding_all exact rfl)
      k_extra "SS"
      refine fnAt_of S (FnL.mono hTk.fn (fun q hq => by k_extra "mem")) ?_
      refine hTk.call S G (hA.le (by decide)) (by k_extra "pk") (by (first | lia | omega)) (by (first | lia | omega)) ?_
      clear S hTk
      intro h r tr tl hr0 hr1 hTk S
      k_extra "SI"
      obtain ⟨n2, rfl⟩ := Int.eq_ofNat_of_zero_le hr0
      k_extra "SS"
      have ha3 : IsRg 0 (n2 : Int) 1 oa := ha
      have S := S.sel (fp := tl ++ ((a, oa) :: (c1, _) :: (I, oI) :: (rg, og) :: (la, lo) :: (ol ++ ((d, odd) :: (fam ++ (sl' ++ [(cf, of)])))))) (by k_extra "pk")
      refine (it_range1 S hA.handled (by k_extra "mem") ha3 (by (first | lia | omega))).mono fun it h2 hi2 => ⟨n2, _, _, _, _, fun j ys led' => ∃ tl ns, led' = tl ++ _ ∧ Tk w f (n + (20 - 5 * i) + (3 - j)) tl ∧ IntsAre ys ns ∧ ns.length = j ∧ ∀ v ∈ ns, 0 ≤ v ∧ v < 256, hi2, by (first | lia | omega), ⟨tl, [], rfl, hTk, .nil, rfl, fun v hv => by cases hv⟩, ?_, ?_⟩
      · clear S hTk
        intro j v ys led1 I2 oI2 oL D oD C h env hj hv hy2 hjn e S
        obtain ⟨tv2, rfl⟩ := hv
        obtain ⟨tl, ns, rfl, hTk, hys, hnl, hns⟩ := hjn
        rw [show n + (20 - 5 * i) + (3 - j) = (n + (20 - 5 * i) + (2 - j)) + 1 by (first | lia | omega)] at hTk
        k_extra "SIE"
        k_extra "SS"
        refine s_callF S (FnL.mono hTk.fn (fun q hq => by k_extra "mem")) ?_ (by with_unfolding_all exact rfl) (by with_unfolding_all exact rfl)
        k_extra "SS"
        refine fnAt_of S (FnL.mono hTk.fn (fun q hq => by k_extra "mem")) ?_
        refine hTk.call S G (hA.le (by decide)) (by k_extra "pk") (by (first | lia | omega)) (by (first | lia | omega)) ?_
        clear S hTk
        intro h r tr tl hr0 hr1 hTk S
        k_extra "SI"
        exact ⟨[], _, (by k_extra "TE"), tl, ns ++ [r], rfl, by rw [show 3 - (j + 1) = 2 - j by (first | lia | omega)]; exact hTk, hys.append (.cons _ _ .nil), by simp [hnl], fun v hv => by
          rcases List.mem_append.mp hv with z | z
          · exact hns v z
          · rw [List.mem_singleton.mp z]; exact ⟨hr0, hr1⟩⟩
      · clear S hTk
        intro ys led1 D oD h hyl hjn hyo S
        obtain ⟨tl, ns, rfl, hTk, hys, hnl, hns⟩ := hjn
        have hyln := hys.length
        k_extra "SI"
        k_extra "SS"
        have hrange : ∀ v ∈ (1 + 50 * (r1 : Int)) :: ns, 0 ≤ v ∧ v < 256 := fun v hv => by
          rcases List.mem_cons.mp hv with rfl | z
          · (first | lia | omega)
          · exact hns v z
        refine b_ofints S hA.handled (by k_extra "mem") hc (ns := (1 + 50 * (r1 : Int)) :: ns) (.cons _ _ hys) hrange (by simp; (first | lia | omega)) ?_
        clear S
        intro tb h S
        obtain ⟨b, hbd⟩ : ∃ b, b = byteArr ((1 + 50 * (r1 : Int)) :: ns) := ⟨_, rfl⟩
        have hbz : 1 ≤ b.size ∧ b.size ≤ 3 := by rw [hbd, byteArr_size]; simp; (first | lia | omega)
        have hb5 : five (hd1 b) := by
          refine ⟨r1, by (first | lia | omega), ?_⟩
          rw [hbd]
          show (((1 + 50 * (r1 : Int)).toNat.toUInt8.toNat : Nat) : Int) = _
          have : (1 + 50 * (r1 : Int)).toNat = 1 + 50 * r1 := by (first | lia | omega)
          rw [this]
          show (((UInt8.ofNat (1 + 50 * r1)).toNat : Nat) : Int) = _
          rw [UInt8.toNat_ofNat']
          (first | lia | omega)
        rw [← hbd]
        rw [show n + (20 - 5 * i) + (3 - n2) = (n + (20 - 5 * i) + (2 - n2)) + 1 by (first | lia | omega)] at hTk
        k_extra "SS"
        refine s_callF S (FnL.mono hTk.fn (fun q hq => by k_extra "mem")) ?_ (by with_unfolding_all exact rfl) (by with_unfolding_all exact rfl)
        k_extra "SS"
        refine fnAt_of S (FnL.mono hTk.fn (fun q hq => by k_extra "mem")) ?_
        refine hTk.call S G (hA.le (by decide)) (by k_extra "pk") (by (first | lia | omega)) (by (first | lia | omega)) ?_
        clear S hTk
        intro h r tr tl hr0 hr1 hTk S
        k_extra "SI"
        refine t_word S (by k_extra "mem") hr0 hr1 ?_ rfl
        intro wx tw kw hwx hkw
        have hTk2 : Tk w f (n + (25 - 5 * (i + 1))) tl := hTk.le (by (first | lia | omega))
        have ls_d := nm_delete
        k_extra "SS"
        refine ⟨fun q => ?_, fun q => ?_⟩
        · have hseq : kk = kSeq := by simpa using q
          rw [hseq] at hOF hG
          k_extra "SS"
          refine rows_any S G (hA.le (by decide)) (by k_extra "pk") hmx hkm hlo hOF hG (by (first | lia | omega)) hbz ?_
          clear S
          intro R' h lo' ol' hG' hlo' hOF' S
          k_extra "SI"
          k_extra "SS"
          refine br_f (by simp [hseq]) ?_
          k_extra "SS"
          exact ⟨_, _, (by k_extra "TE"), R', lo', tl, ol', rfl, rfl, hlo', by rw [hseq]; exact hOF', by rw [hseq]; exact hG', hTk2⟩
        · have hseq : kk ≠ kSeq := by simpa using q
          k_extra "SS"
          refine br_t (by simpa using hseq) ?_
          k_extra "SS"
          refine keyed_any S G (hA.le (by decide)) (by k_extra "pk") hy hseq hmx hkm hwx hkw hlo hOF hG hbz hb5 ?_
          clear S
          intro R' h lo' ol' hG' hlo' hOF' S
          k_extra "SI"
          k_extra "SS"
          exact ⟨_, _, (by k_extra "TE"), R', lo', tl, ol', rfl, rfl, hlo', hOF', hG', hTk2⟩
    · clear S hTk hlo hR hcx hG hOF hva hRo
      intro l1 led1 h hj S
      obtain ⟨R, lo, tl, ol, rfl, rfl, hlo, hOF, hG, hTk⟩ := hj
      obtain ⟨d', oc, ol', hpo, hcc, hRD⟩ := hOF.close
      have hS2 := hh d' oc hcc
      k_extra "SI"
      have S := S.sel (fp := (la, lo) :: (ol ++ (tl ++ ((d, odd) :: (fam ++ (sl' ++ [(cf, of)])))))) (by k_extra "pk")
      have S := S.perm ((hpo.append_right _).cons _)
      k_extra "SI"
      have S2 := S.sel (fp := (la, lo) :: (ca, oc) :: (sl' ++ (tl ++ ((d, odd) :: (fam ++ [(cf, of)]))))) (by k_extra "pk")
      clear S
      obtain ⟨sl2, hsl2⟩ : ∃ z, z = (ca, oc) :: sl' := ⟨_, rfl⟩
      rw [← hsl2] at hS2
      have S := S2.famAs hsl2
      clear S2
      obtain ⟨dx2, od2, fs2, hx2, hdx2, hxf2⟩ := hS2.mem
      k_extra "SS"
      refine shelf_content S G (hA.le (by decide)) (by k_extra "pk") hS2 (upd_at F kk d') ?_
      clear S
      intro h ca2 oc2 sl3 hp3 hC2 hH2 S
      k_extra "SI"
      k_extra "SS"
      refine is_read_any S G (hA.le (by decide)) (by k_extra "pk") hk hy hlo hC2 hRD hG (by (first | lia | omega)) ?_
      clear S
      intro h oc3 hC3 S
      k_extra "SI"
      k_extra "SS"
      have hS3 := hH2 d' oc3 hC3
      rw [upd_upd] at hS3
      exact ⟨_, _, tl ++ (((ca2, oc3) :: sl3) ++ ((la, lo) :: (d, odd) :: fam)), S.sel (by (try simp only [List.cons_append, List.append_assoc]); k_extra "pk"), fun S => k _ tl _ _ _ _ (hTk.le (by (first | lia | omega))) hS3 (hFH R lo hlo) (hL.upd (by (first | lia | omega)) (hG.mono (by (first | lia | omega))) hRD) (by simpa using S)⟩
end
end La9

section Fin1
theorem Fs.three {w : World} {d : Addr} {f : FF} {sl : Led} (H : Fs w d f sl) : ∀ k, f k ≠ none → k ∈ kinds3 := by
  obtain ⟨o, kvs, fam, hp, hd, hg⟩ := H
  exact hg.three
theorem SV.dvs {h : Heap} {vs ks} (H : SV vs ks) : DVs h vs (ks.map PD.str) := by
  induction H with
  | nil => exact .nil
  | cons e _ ih => exact .cons (.str e) ih
theorem depths_le {n : Nat} : ∀ {ds : List PD}, (∀ d ∈ ds, d.depth ≤ n) → PD.depths ds ≤ n
  | [], _ => Nat.zero_le _
  | d :: ds, h => by
    have h1 := h d (.head _)
    have h2 := depths_le (ds := ds) fun x hx => h x (.tail _ hx)
    show max d.depth (PD.depths ds) ≤ n
    (first | lia | omega)
theorem onePD_depth (f : FF) (k : List Nat) : (onePD f k).depth ≤ 3 := by
  unfold onePD
  have h1 : (rowsPD k ((f k).getD [])).depth ≤ 2 := by
    unfold rowsPD
    split
    · show PD.depths _ + 1 ≤ 2
      have := depths_le (n := 1) (ds := nvPD (sortR ((f k).getD []))) fun d hd => by
        obtain ⟨b, _, rfl⟩ := List.mem_map.mp hd
        exact Nat.le_refl _
      (first | lia | omega)
    · show PD.depths _ + 1 ≤ 2
      have := depths_le (n := 1) (ds := ((f k).getD []).map PD.bytes) fun d hd => by
        obtain ⟨b, _, rfl⟩ := List.mem_map.mp hd
        exact Nat.zero_le _
      (first | lia | omega)
  show max 0 (max 0 (max (rowsPD k ((f k).getD [])).depth 0)) + 1 ≤ 3
  (first | lia | omega)
theorem told_depth (f : FF) : PD.depths ((pl f).map (onePD f)) ≤ 3 := depths_le fun d hd => by
  obtain ⟨k, _, rfl⟩ := List.mem_map.mp hd
  exact onePD_depth f k
theorem strs_depth (ks : List (List Nat)) : PD.depths (ks.map PD.str) ≤ 0 := depths_le fun d hd => by
  obtain ⟨k, _, rfl⟩ := List.mem_map.mp hd
  exact Nat.le_refl _
theorem wordsFin11 : True := by
  (k_with "TK" => (
  refine s_callF S (FnL.mono hTk.fn (fun q hq => by k_extra "mem")) ?_ (by with_unfolding_all exact rfl) (by with_unfolding_all exact rfl)
  k_extra "SS"
  refine fnAt_of S (FnL.mono hTk.fn (fun q hq => by k_extra "mem")) ?_
  refine hTk.call S G (hA.le (by decide)) (by k_extra "pk") (by (first | lia | omega)) (by (first | lia | omega)) ?_
  clear S hTk
  intro h r tr tl hr0 hr1 hTk S
  k_extra "SI"))
  trivial
theorem runE {w : World} {A : Around} {env : Env} {body : List Stmt} {P : Flow → Heap → Prop} {h : Heap} {L : Addr} {ks : List (List Nat × NameKind)} (h0 : env.scope.kind = .function) (h1 : env.locals = L) (h2 : env.globals = mainGlobals) (h3 : env.builtins = builtinsNs)
    (h4 : env.scope.names.map (fun p => (key p.1, p.2)) = ks) (h5 : env.cells = []) (hA : Amb A 12) (k : EnvF env L ks [] → Amb A 12 → W w A (execs body env) P h) : W w A (execs body env) P h := k ⟨h0, h1, h2, h3, h4, by rw [h5]; rfl⟩ hA
namespace law_holds
theorem tw11223184984439025696 : True := ⟨⟩
theorem tw13190408463805328480 : True := ⟨⟩
theorem tw12153922251378674784 : True := ⟨⟩
theorem tw1377309892636839040 : True := ⟨⟩
theorem tw10108825076125807744 : True := ⟨⟩
theorem tw2152083551845799040 : True := ⟨⟩
theorem tw18090433342136740992 : True := ⟨⟩
theorem tw1099259369241382048 : True := ⟨⟩
theorem tw4370086069003782432 : True := ⟨⟩
theorem tw11908462264488224128 : True := ⟨⟩
theorem tw8806649888931605024 : True := ⟨⟩
theorem tw10028117763298573888 : True := ⟨⟩
theorem tw17974257514489008736 : True := ⟨⟩
theorem tw18430954121086234272 : True := ⟨⟩
theorem tw6260460797876433568 : True := ⟨⟩
theorem tw17598101756349436640 : True := ⟨⟩
theorem tw1031057903888850656 : True := ⟨⟩
theorem tw545109181885906688 : True := ⟨⟩
theorem tw241883133165282080 : True := ⟨⟩
theorem tw10458381655096516384 : True := ⟨⟩
theorem tw13709617746848070560 : True := ⟨⟩
theorem tw5898729028444588960 : True := ⟨⟩
theorem tw14521376392698553312 : True := ⟨⟩
theorem tw13840902789983287329 : True := ⟨⟩
theorem tw16765433158599729185 : True := ⟨⟩
theorem tw1762888911704233025 : True := ⟨⟩
theorem tw10465528174321978529 : True := ⟨⟩
theorem tw11289095316329951393 : True := ⟨⟩
theorem tw2124134355350193313 : True := ⟨⟩
theorem tw18006792725990754497 : True := ⟨⟩
theorem tw12296726922439171297 : True := ⟨⟩
theorem tw3882201998751590657 : True := ⟨⟩
theorem tw3672438013989251361 : True := ⟨⟩
theorem tw9502071092897418529 : True := ⟨⟩
theorem tw16614716721108272449 : True := ⟨⟩
theorem tw11881114122080957857 : True := ⟨⟩
theorem tw981846192996546977 : True := ⟨⟩
theorem tw1724926542741425601 : True := ⟨⟩
theorem tw2558664710541493025 : True := ⟨⟩
theorem tw367903286550418209 : True := ⟨⟩
theorem tw12481875629721207810 : True := ⟨⟩
theorem tw8652346329174877282 : True := ⟨⟩
theorem tw16771549258648962210 : True := ⟨⟩
theorem tw18221428039690301666 : True := ⟨⟩
theorem tw8330938851228082562 : True := ⟨⟩
theorem tw4963573110770748834 : True := ⟨⟩
theorem tw2269544990204364226 : True := ⟨⟩
theorem tw4524032621918665186 : True := ⟨⟩
theorem tw14354538779393863138 : True := ⟨⟩
theorem tw8266603773606604290 : True := ⟨⟩
theorem tw10726639523019406850 : True := ⟨⟩
theorem tw15154110283740273250 : True := ⟨⟩
theorem tw5769158387606399586 : True := ⟨⟩
theorem tw11067727234611919522 : True := ⟨⟩
theorem tw10079444305495103266 : True := ⟨⟩
theorem tw1242418559920758562 : True := ⟨⟩
theorem tw6896717019858035522 : True := ⟨⟩
theorem tw8386679336120195906 : True := ⟨⟩
theorem tw4593294709026258786 : True := ⟨⟩
theorem tw445335354869643106 : True := ⟨⟩
theorem tw7544913113114293122 : True := ⟨⟩
theorem tw16020798645402251202 : True := ⟨⟩
theorem tw10812634152524527747 : True := ⟨⟩
theorem tw5045712524691215523 : True := ⟨⟩
theorem tw8369274380968253667 : True := ⟨⟩
theorem tw8035577848987061507 : True := ⟨⟩
theorem tw17027635718292003107 : True := ⟨⟩
theorem tw16836969012518115619 : True := ⟨⟩
theorem tw6674817763981286723 : True := ⟨⟩
theorem tw14828999820898988419 : True := ⟨⟩
theorem tw12149405283708829123 : True := ⟨⟩
theorem tw7311554392007033315 : True := ⟨⟩
theorem tw8857742495270377987 : True := ⟨⟩
theorem tw15837452725152343555 : True := ⟨⟩
theorem tw13180863664520854083 : True := ⟨⟩
theorem tw14351635765420936899 : True := ⟨⟩
theorem tw3979707639553702691 : True := ⟨⟩
theorem tw13958071646730322851 : True := ⟨⟩
theorem tw9432226000188453795 : True := ⟨⟩
theorem tw12342728606916771844 : True := ⟨⟩
theorem tw447027507633508388 : True := ⟨⟩
theorem tw9317688335297629284 : True := ⟨⟩
theorem tw5994716906283268228 : True := ⟨⟩
theorem tw18116031599527039140 : True := ⟨⟩
theorem tw4146061822495498468 : True := ⟨⟩
theorem tw9606376775287448836 : True := ⟨⟩
theorem tw2788888992717563140 : True := ⟨⟩
theorem tw11169275537108399364 : True := ⟨⟩
theorem tw12459966957829302596 : True := ⟨⟩
theorem tw1053317679998426468 : True := ⟨⟩
theorem tw4037582482628031876 : True := ⟨⟩
theorem tw5640673133297012132 : True := ⟨⟩
theorem tw18326849912455186884 : True := ⟨⟩
theorem tw14872900085578418628 : True := ⟨⟩
theorem tw3955097671198598788 : True := ⟨⟩
theorem tw1722738952054099684 : True := ⟨⟩
theorem tw2303879751551577860 : True := ⟨⟩
theorem tw3927331946688356228 : True := ⟨⟩
theorem tw723553956927101924 : True := ⟨⟩
theorem tw653560878884961445 : True := ⟨⟩
theorem tw17169043682955552997 : True := ⟨⟩
theorem tw13667737974841707781 : True := ⟨⟩
theorem tw959717277983771973 : True := ⟨⟩
theorem tw12476058986133298565 : True := ⟨⟩
theorem tw5277994541964179845 : True := ⟨⟩
theorem tw6709271908398517637 : True := ⟨⟩
theorem tw9288214680346807717 : True := ⟨⟩
theorem tw3910120701321347557 : True := ⟨⟩
theorem tw2842810181116790245 : True := ⟨⟩
theorem tw3912811242725288453 : True := ⟨⟩
theorem tw3586223124089845285 : True := ⟨⟩
theorem tw13478230802861573701 : True := ⟨⟩
theorem tw2127001594154878533 : True := ⟨⟩
theorem tw18340598423539479173 : True := ⟨⟩
theorem tw5858263632927829637 : True := ⟨⟩
theorem tw13281950902743806629 : True := ⟨⟩
theorem tw2414074194907454277 : True := ⟨⟩
theorem tw10222300733896627045 : True := ⟨⟩
theorem tw17237755526102222789 : True := ⟨⟩
theorem tw7304591109411159013 : True := ⟨⟩
theorem tw11098625913536864229 : True := ⟨⟩
theorem tw4329158554759489670 : True := ⟨⟩
theorem tw12253411696296436870 : True := ⟨⟩
theorem tw10189704592693192966 : True := ⟨⟩
theorem tw7484302960587174374 : True := ⟨⟩
theorem tw14390095281932903014 : True := ⟨⟩
theorem tw8549365171731915398 : True := ⟨⟩
theorem tw7404543985812422374 : True := ⟨⟩
theorem tw11097158420108258118 : True := ⟨⟩
theorem tw13392613628428298086 : True := ⟨⟩
theorem tw13220211186989608806 : True := ⟨⟩
theorem tw4635674611617693574 : True := ⟨⟩
theorem tw5451054884063135654 : True := ⟨⟩
theorem tw12668044768207566790 : True := ⟨⟩
theorem tw907578622648922086 : True := ⟨⟩
theorem tw15527639110640922598 : True := ⟨⟩
theorem tw3742325753681652743 : True := ⟨⟩
theorem tw5989267464594152519 : True := ⟨⟩
theorem tw3959601488294255719 : True := ⟨⟩
theorem tw17545576798567701639 : True := ⟨⟩
theorem tw10441050188594101415 : True := ⟨⟩
theorem tw12419048959643632839 : True := ⟨⟩
theorem tw2446358144275080391 : True := ⟨⟩
theorem tw8417186165934385351 : True := ⟨⟩
theorem tw11846676642670509255 : True := ⟨⟩
theorem tw18197852217732850983 : True := ⟨⟩
theorem tw13397297893571687751 : True := ⟨⟩
theorem tw2016121425191149895 : True := ⟨⟩
theorem tw6580623548314892615 : True := ⟨⟩
theorem tw3943428198234077543 : True := ⟨⟩
theorem tw17923851452625207687 : True := ⟨⟩
theorem tw9758593294864014727 : True := ⟨⟩
theorem tw2387193687640843687 : True := ⟨⟩
theorem tw17364227736987735495 : True := ⟨⟩
theorem tw11781800970755023335 : True := ⟨⟩
theorem tw10283916278828761575 : True := ⟨⟩
theorem tw4741859662064258567 : True := ⟨⟩
theorem tw15796309260620551687 : True := ⟨⟩
theorem tw3136910860242942599 : True := ⟨⟩
theorem tw123295346585929383 : True := ⟨⟩
theorem tw10876394233666535175 : True := ⟨⟩
theorem tw9634471323475708679 : True := ⟨⟩
theorem tw13342518741750886279 : True := ⟨⟩
theorem tw2295933128562542503 : True := ⟨⟩
theorem tw13182730311906835528 : True := ⟨⟩
theorem tw14377833709258309704 : True := ⟨⟩
theorem tw6882020374766023752 : True := ⟨⟩
theorem tw13301187468288870568 : True := ⟨⟩
theorem tw1767730674963353768 : True := ⟨⟩
theorem tw10968802771074238664 : True := ⟨⟩
theorem tw17470365217354309832 : True := ⟨⟩
theorem tw8890443458166856008 : True := ⟨⟩
theorem tw455179833554555240 : True := ⟨⟩
theorem tw16332274672890094952 : True := ⟨⟩
theorem tw14064573792008682920 : True := ⟨⟩
theorem tw17830944117370523080 : True := ⟨⟩
theorem tw17993387198741990920 : True := ⟨⟩
theorem tw10442559174759676424 : True := ⟨⟩
theorem tw14281342344845405768 : True := ⟨⟩
theorem tw1685627985566243432 : True := ⟨⟩
theorem tw3005452535816212104 : True := ⟨⟩
theorem tw4211113817173803656 : True := ⟨⟩
theorem tw9069877914133315304 : True := ⟨⟩
theorem tw12977093529070104392 : True := ⟨⟩
theorem tw11544315989524547432 : True := ⟨⟩
theorem tw2055734563569237896 : True := ⟨⟩
theorem tw3110860835449505704 : True := ⟨⟩
theorem tw13536078969547264968 : True := ⟨⟩
theorem tw10958410103948607464 : True := ⟨⟩
theorem tw16068261269753603081 : True := ⟨⟩
theorem tw10666784280354678857 : True := ⟨⟩
theorem tw1588742098881680585 : True := ⟨⟩
theorem tw5920216800500632969 : True := ⟨⟩
theorem tw59864651932915081 : True := ⟨⟩
theorem tw12800644894191811977 : True := ⟨⟩
theorem tw16098570224071239113 : True := ⟨⟩
theorem tw2602977815382960713 : True := ⟨⟩
theorem tw503957847093417577 : True := ⟨⟩
theorem tw6381524096760519305 : True := ⟨⟩
theorem tw14390602165704524457 : True := ⟨⟩
theorem tw11968012230557848489 : True := ⟨⟩
theorem tw6265907326580845545 : True := ⟨⟩
theorem tw18051328159682125866 : True := ⟨⟩
theorem tw13336368349410954346 : True := ⟨⟩
theorem tw1550374771381668074 : True := ⟨⟩
theorem tw3319394596490477802 : True := ⟨⟩
theorem tw14883556706271630602 : True := ⟨⟩
theorem tw16978406815995349258 : True := ⟨⟩
theorem tw8191475993861738794 : True := ⟨⟩
theorem tw1556451293825771818 : True := ⟨⟩
theorem tw16883458599210261866 : True := ⟨⟩
theorem tw12294597709558488554 : True := ⟨⟩
theorem tw194939583717160490 : True := ⟨⟩
theorem tw13766487248619392586 : True := ⟨⟩
theorem tw2578278018795888234 : True := ⟨⟩
theorem tw1285599515219305098 : True := ⟨⟩
theorem tw1622690429015379626 : True := ⟨⟩
theorem tw5728293988275032746 : True := ⟨⟩
theorem tw16873799427995575018 : True := ⟨⟩
theorem tw6719018230134327050 : True := ⟨⟩
theorem tw10897144627088453450 : True := ⟨⟩
theorem tw11097350217990362986 : True := ⟨⟩
theorem tw8249079356659094474 : True := ⟨⟩
theorem tw13528896222378765290 : True := ⟨⟩
theorem tw9665505180859309131 : True := ⟨⟩
theorem tw3127913417769977931 : True := ⟨⟩
theorem tw2322801206320994539 : True := ⟨⟩
theorem tw13800329570527188203 : True := ⟨⟩
theorem tw2102315897755806987 : True := ⟨⟩
theorem tw7408322871517469003 : True := ⟨⟩
theorem tw808278469055374699 : True := ⟨⟩
theorem tw9009705080361974123 : True := ⟨⟩
theorem tw13642005409729077643 : True := ⟨⟩
theorem tw7495221243884187115 : True := ⟨⟩
theorem tw2006301483956418059 : True := ⟨⟩
theorem tw676263390381983339 : True := ⟨⟩
theorem tw14252543395802736299 : True := ⟨⟩
theorem tw5907203647135998699 : True := ⟨⟩
theorem tw12597187120891498251 : True := ⟨⟩
theorem tw9989359697036934923 : True := ⟨⟩
theorem tw10362271348294423435 : True := ⟨⟩
theorem tw415365407113419659 : True := ⟨⟩
theorem tw4581845663705801772 : True := ⟨⟩
theorem tw17046799393618780204 : True := ⟨⟩
theorem tw11470271118054631628 : True := ⟨⟩
theorem tw8634839017697508684 : True := ⟨⟩
theorem tw1172607208729018732 : True := ⟨⟩
theorem tw5981114437932730796 : True := ⟨⟩
theorem tw11666318101497114028 : True := ⟨⟩
theorem tw1247253217256132012 : True := ⟨⟩
theorem tw17911580528928914924 : True := ⟨⟩
theorem tw9875236377963488844 : True := ⟨⟩
theorem tw41732636909640268 : True := ⟨⟩
theorem tw15448297888555860652 : True := ⟨⟩
theorem tw14988988175077273356 : True := ⟨⟩
theorem tw11586273756423631628 : True := ⟨⟩
theorem tw3416923247095428876 : True := ⟨⟩
theorem tw9483915327669328748 : True := ⟨⟩
theorem tw2907507879108658156 : True := ⟨⟩
theorem tw15732109348078318572 : True := ⟨⟩
theorem tw8472228645029834797 : True := ⟨⟩
theorem tw602461330855297101 : True := ⟨⟩
theorem tw9013377322688217293 : True := ⟨⟩
theorem tw17833708614306184397 : True := ⟨⟩
theorem tw14774650325386425613 : True := ⟨⟩
theorem tw8804120190785687885 : True := ⟨⟩
theorem tw13402424001964919149 : True := ⟨⟩
theorem tw15352839923633478061 : True := ⟨⟩
theorem tw14822640431511872941 : True := ⟨⟩
theorem tw2017991025062827469 : True := ⟨⟩
theorem tw8176227357466254829 : True := ⟨⟩
theorem tw4323815956820902445 : True := ⟨⟩
theorem tw13087128984098923117 : True := ⟨⟩
theorem tw15341342317828512493 : True := ⟨⟩
theorem tw7479968899032947501 : True := ⟨⟩
theorem tw11133525997344109421 : True := ⟨⟩
theorem tw3896150654470677357 : True := ⟨⟩
theorem tw17458534234597298029 : True := ⟨⟩
theorem tw15162217921772873613 : True := ⟨⟩
theorem tw2090888555730037645 : True := ⟨⟩
theorem tw7767266014307106701 : True := ⟨⟩
theorem tw16461882675039125421 : True := ⟨⟩
theorem tw13257055565626018733 : True := ⟨⟩
theorem tw15452448965706171373 : True := ⟨⟩
theorem tw14571795756577361901 : True := ⟨⟩
theorem tw13092103797297032270 : True := ⟨⟩
theorem tw17792525830624384078 : True := ⟨⟩
theorem tw9779807473162285230 : True := ⟨⟩
theorem tw13800757232730249582 : True := ⟨⟩
theorem tw13983371404066579822 : True := ⟨⟩
theorem tw3390839446522356110 : True := ⟨⟩
theorem tw15848713872586308078 : True := ⟨⟩
theorem tw4492043994082249198 : True := ⟨⟩
theorem tw4991859449750346478 : True := ⟨⟩
theorem tw16098122237329998606 : True := ⟨⟩
theorem tw8984712037535005518 : True := ⟨⟩
theorem tw6564709946809587534 : True := ⟨⟩
theorem tw7983211939772527470 : True := ⟨⟩
theorem tw4008084134468147086 : True := ⟨⟩
theorem tw15352218221683021774 : True := ⟨⟩
theorem tw14497384708736915567 : True := ⟨⟩
theorem tw8909828626151137519 : True := ⟨⟩
theorem tw12108977868540685583 : True := ⟨⟩
theorem tw7696488724909661519 : True := ⟨⟩
theorem tw8854015012368427407 : True := ⟨⟩
theorem tw15123554796541802991 : True := ⟨⟩
theorem tw17028624522117568015 : True := ⟨⟩
theorem tw6159533029260741167 : True := ⟨⟩
theorem tw12134408205421670959 : True := ⟨⟩
theorem tw14326059299131336239 : True := ⟨⟩
theorem tw3494445600050047599 : True := ⟨⟩
theorem tw5506821171919863439 : True := ⟨⟩
theorem tw15883345262158282383 : True := ⟨⟩
theorem tw11017292853192552079 : True := ⟨⟩
theorem tw17137235678499792623 : True := ⟨⟩
theorem tw16406091861079842607 : True := ⟨⟩
theorem tw2887994833065977647 : True := ⟨⟩
theorem tw18026530572120702767 : True := ⟨⟩
theorem tw17580165497215679439 : True := ⟨⟩
theorem tw16106779387088534511 : True := ⟨⟩
theorem tw12923919797306954735 : True := ⟨⟩
theorem tw4515466672771955728 : True := ⟨⟩
theorem tw10954758410522031216 : True := ⟨⟩
theorem tw9403268196540146800 : True := ⟨⟩
theorem tw15472126771306010800 : True := ⟨⟩
theorem tw3307954989432871184 : True := ⟨⟩
theorem tw17156363617357476176 : True := ⟨⟩
theorem tw9187647767651647856 : True := ⟨⟩
theorem tw11956458263131016624 : True := ⟨⟩
theorem tw5542243279508502960 : True := ⟨⟩
theorem tw8137031500313473552 : True := ⟨⟩
theorem tw11182679623053108816 : True := ⟨⟩
theorem tw14935802895157380848 : True := ⟨⟩
theorem tw1784627337472249616 : True := ⟨⟩
theorem tw15031514592837009168 : True := ⟨⟩
theorem tw10429008850433242896 : True := ⟨⟩
theorem tw7604666192120794032 : True := ⟨⟩
theorem tw15272395603832836080 : True := ⟨⟩
theorem tw1689763614830377041 : True := ⟨⟩
theorem tw6333624483447246961 : True := ⟨⟩
theorem tw15607887362523206001 : True := ⟨⟩
theorem tw8045378594462670225 : True := ⟨⟩
theorem tw3682559726232862161 : True := ⟨⟩
theorem tw15514866124879379921 : True := ⟨⟩
theorem tw15727691288951754225 : True := ⟨⟩
theorem tw9207643191828677137 : True := ⟨⟩
theorem tw2136269947727277649 : True := ⟨⟩
theorem tw3756957479349018193 : True := ⟨⟩
theorem tw7820799176418779761 : True := ⟨⟩
theorem tw881140697980615281 : True := ⟨⟩
theorem tw16381176275627223697 : True := ⟨⟩
theorem tw13431030151845061361 : True := ⟨⟩
theorem tw2043166853727251185 : True := ⟨⟩
theorem tw2731376850318366449 : True := ⟨⟩
theorem tw14051398506283589457 : True := ⟨⟩
theorem tw7566432030715092817 : True := ⟨⟩
theorem tw18153520721480276881 : True := ⟨⟩
theorem tw12622292602297523153 : True := ⟨⟩
theorem tw14925382992726071281 : True := ⟨⟩
theorem tw15522444059895599089 : True := ⟨⟩
theorem tw14892801356780361778 : True := ⟨⟩
theorem tw13882729330811710610 : True := ⟨⟩
theorem tw7635358736021980338 : True := ⟨⟩
theorem tw2557128651999224082 : True := ⟨⟩
theorem tw11347954631545130290 : True := ⟨⟩
theorem tw575232530192455986 : True := ⟨⟩
theorem tw12001131798957381970 : True := ⟨⟩
theorem tw12303009252429188658 : True := ⟨⟩
theorem tw498061464947678834 : True := ⟨⟩
theorem tw15644819842384902770 : True := ⟨⟩
theorem tw17180001009569633970 : True := ⟨⟩
theorem tw15333956030411951890 : True := ⟨⟩
theorem tw293627430662643474 : True := ⟨⟩
theorem tw1035469204868569938 : True := ⟨⟩
theorem tw13429453918920967058 : True := ⟨⟩
theorem tw11100686419730198450 : True := ⟨⟩
theorem tw15829985883664642994 : True := ⟨⟩
theorem tw926570990666696690 : True := ⟨⟩
theorem tw15741379261994504178 : True := ⟨⟩
theorem tw2887050238494874643 : True := ⟨⟩
theorem tw1997475870405608531 : True := ⟨⟩
theorem tw11633083819707477107 : True := ⟨⟩
theorem tw6861490101519172755 : True := ⟨⟩
theorem tw1258919526383655059 : True := ⟨⟩
theorem tw8785698371604719795 : True := ⟨⟩
theorem tw7472407996622490835 : True := ⟨⟩
theorem tw16641252976520058099 : True := ⟨⟩
theorem tw5212653520564569363 : True := ⟨⟩
theorem tw16245577235439221107 : True := ⟨⟩
theorem tw718173064312146323 : True := ⟨⟩
theorem tw3426384778480675251 : True := ⟨⟩
theorem tw15609566024721092083 : True := ⟨⟩
theorem tw12645607732203181651 : True := ⟨⟩
theorem tw10007947361888340627 : True := ⟨⟩
theorem tw10841264019214440115 : True := ⟨⟩
theorem tw1414043511812021011 : True := ⟨⟩
theorem tw12731736397290755891 : True := ⟨⟩
theorem tw13055523775352357715 : True := ⟨⟩
theorem tw9525127294725463027 : True := ⟨⟩
theorem tw1791086108937442324 : True := ⟨⟩
theorem tw7910590604623066228 : True := ⟨⟩
theorem tw17274716441693411508 : True := ⟨⟩
theorem tw6553333263825352884 : True := ⟨⟩
theorem tw10296202853966499060 : True := ⟨⟩
theorem tw4439653461905209652 : True := ⟨⟩
theorem tw7215261233430090068 : True := ⟨⟩
theorem tw12218498018843733332 : True := ⟨⟩
theorem tw160851071654074740 : True := ⟨⟩
theorem tw8856317710758748564 : True := ⟨⟩
theorem tw8312275703017117140 : True := ⟨⟩
theorem tw12394330538082041428 : True := ⟨⟩
theorem tw8982592368679156308 : True := ⟨⟩
theorem tw7636989558263936852 : True := ⟨⟩
theorem tw6776455111828631412 : True := ⟨⟩
theorem tw4503035019201841076 : True := ⟨⟩
theorem tw11532970265236058100 : True := ⟨⟩
theorem tw3595789414353437717 : True := ⟨⟩
theorem tw14957179600199517237 : True := ⟨⟩
theorem tw519298541982818421 : True := ⟨⟩
theorem tw11463670642173560981 : True := ⟨⟩
theorem tw179590077315354965 : True := ⟨⟩
theorem tw3253820488102484341 : True := ⟨⟩
theorem tw13956741780833797525 : True := ⟨⟩
theorem tw4916342969005030805 : True := ⟨⟩
theorem tw7480714314260584917 : True := ⟨⟩
theorem tw6677821561840896501 : True := ⟨⟩
theorem tw5037970770195530229 : True := ⟨⟩
theorem tw8061732933902216757 : True := ⟨⟩
theorem tw2643271747718453845 : True := ⟨⟩
theorem tw8970147916757833333 : True := ⟨⟩
theorem tw6177970194926469781 : True := ⟨⟩
theorem tw11764581739189218997 : True := ⟨⟩
theorem tw6911747868599837429 : True := ⟨⟩
theorem tw3674665740742831893 : True := ⟨⟩
theorem tw9548147230944474901 : True := ⟨⟩
theorem tw16720094985154256693 : True := ⟨⟩
theorem tw15726739188670627701 : True := ⟨⟩
theorem tw10767655046202684341 : True := ⟨⟩
theorem tw4568741812840581045 : True := ⟨⟩
theorem tw11297062200503488469 : True := ⟨⟩
theorem tw9168033884955339765 : True := ⟨⟩
theorem tw4441770287765753910 : True := ⟨⟩
theorem tw12320438053989627958 : True := ⟨⟩
theorem tw4072507727158212662 : True := ⟨⟩
theorem tw8481075993509181622 : True := ⟨⟩
theorem tw12835091436910803158 : True := ⟨⟩
theorem tw11690447701083486646 : True := ⟨⟩
theorem tw8715444014776630742 : True := ⟨⟩
theorem tw687851300278632918 : True := ⟨⟩
theorem tw2924946361707170262 : True := ⟨⟩
theorem tw6568228946969608854 : True := ⟨⟩
theorem tw13482675847692870326 : True := ⟨⟩
theorem tw12687621791434340054 : True := ⟨⟩
theorem tw9423440377400516374 : True := ⟨⟩
theorem tw4992725456586698614 : True := ⟨⟩
theorem tw11677100312832694166 : True := ⟨⟩
theorem tw12949845418750544790 : True := ⟨⟩
theorem tw13454136545276886934 : True := ⟨⟩
theorem tw16691439815215545270 : True := ⟨⟩
theorem tw8210953160692291510 : True := ⟨⟩
theorem tw16805829885119392726 : True := ⟨⟩
theorem tw9758047768218912823 : True := ⟨⟩
theorem tw17345407343664743607 : True := ⟨⟩
theorem tw15695062497276918967 : True := ⟨⟩
theorem tw1496123403401453975 : True := ⟨⟩
theorem tw16647017359455956407 : True := ⟨⟩
theorem tw11484002064277903863 : True := ⟨⟩
theorem tw7695934317539461687 : True := ⟨⟩
theorem tw3158129796062787159 : True := ⟨⟩
theorem tw5087963091746180759 : True := ⟨⟩
theorem tw17255088995462705879 : True := ⟨⟩
theorem tw10242277825702978295 : True := ⟨⟩
theorem tw9682718004065560343 : True := ⟨⟩
theorem tw10093380194815717143 : True := ⟨⟩
theorem tw1335265377702380343 : True := ⟨⟩
theorem tw12456547296908542839 : True := ⟨⟩
theorem tw6041440012092600215 : True := ⟨⟩
theorem tw14826091818025786295 : True := ⟨⟩
theorem tw13028658284911697911 : True := ⟨⟩
theorem tw5791418645094131800 : True := ⟨⟩
theorem tw9889521400790421688 : True := ⟨⟩
theorem tw18135211599370774712 : True := ⟨⟩
theorem tw17183477848116922584 : True := ⟨⟩
theorem tw2782419253953178936 : True := ⟨⟩
theorem tw16009327648451700120 : True := ⟨⟩
theorem tw6746360682218282392 : True := ⟨⟩
theorem tw3035144380315620824 : True := ⟨⟩
theorem tw4030767218360268280 : True := ⟨⟩
theorem tw15694993059591697976 : True := ⟨⟩
theorem tw10188763426450519768 : True := ⟨⟩
theorem tw2903333896348957400 : True := ⟨⟩
theorem tw8829074647290719032 : True := ⟨⟩
theorem tw9552830710289189752 : True := ⟨⟩
theorem tw1973129929022764952 : True := ⟨⟩
theorem tw16190678330180157336 : True := ⟨⟩
theorem tw16099233806120587224 : True := ⟨⟩
theorem tw5914491427308094424 : True := ⟨⟩
theorem tw972601921857779769 : True := ⟨⟩
theorem tw5731563423909890137 : True := ⟨⟩
theorem tw14991590004735058009 : True := ⟨⟩
theorem tw4273555757443719353 : True := ⟨⟩
theorem tw13780023080261437657 : True := ⟨⟩
theorem tw17264387287909652857 : True := ⟨⟩
theorem tw8413839820570837369 : True := ⟨⟩
theorem tw7407239408455114201 : True := ⟨⟩
theorem tw14498155544194170393 : True := ⟨⟩
theorem tw3850334171643177529 : True := ⟨⟩
theorem tw1909877003179415225 : True := ⟨⟩
theorem tw5950301352895977177 : True := ⟨⟩
theorem tw2414130084998747865 : True := ⟨⟩
theorem tw12291295341487003417 : True := ⟨⟩
theorem tw10516828495840041881 : True := ⟨⟩
theorem tw8441880690091102137 : True := ⟨⟩
theorem tw18388893480867403737 : True := ⟨⟩
theorem tw18261290160731607033 : True := ⟨⟩
theorem tw14531881819706719225 : True := ⟨⟩
theorem tw16462895619179043833 : True := ⟨⟩
theorem tw13190703287169160282 : True := ⟨⟩
theorem tw13342137609418717338 : True := ⟨⟩
theorem tw8298017015332610266 : True := ⟨⟩
theorem tw9220624806794609946 : True := ⟨⟩
theorem tw7089819591129360890 : True := ⟨⟩
theorem tw3012480247710183994 : True := ⟨⟩
theorem tw8040771413219435098 : True := ⟨⟩
theorem tw12115171985352901274 : True := ⟨⟩
theorem tw3438298445031660282 : True := ⟨⟩
theorem tw15837584211629593338 : True := ⟨⟩
theorem tw10346744231138586394 : True := ⟨⟩
theorem tw3366817510852727610 : True := ⟨⟩
theorem tw4464252984393422682 : True := ⟨⟩
theorem tw5117662029339320154 : True := ⟨⟩
theorem tw2096525686368166746 : True := ⟨⟩
theorem tw16606368319796509530 : True := ⟨⟩
theorem tw8763168800255643514 : True := ⟨⟩
theorem tw11303081109005220762 : True := ⟨⟩
theorem tw5455921660152230842 : True := ⟨⟩
theorem tw10027879121665395642 : True := ⟨⟩
theorem tw17389434848343332794 : True := ⟨⟩
theorem tw3253568177066640346 : True := ⟨⟩
theorem tw4614512636035447770 : True := ⟨⟩
theorem tw7185456241796803578 : True := ⟨⟩
theorem tw11625900857008200698 : True := ⟨⟩
theorem tw7769649832755249146 : True := ⟨⟩
theorem tw1382677567924326555 : True := ⟨⟩
theorem tw3028213030429885723 : True := ⟨⟩
theorem tw1893657220474155323 : True := ⟨⟩
theorem tw1989176631692091739 : True := ⟨⟩
theorem tw10301956948240465243 : True := ⟨⟩
theorem tw6934448944433832347 : True := ⟨⟩
theorem tw11918526154901971515 : True := ⟨⟩
theorem tw12663309570017281627 : True := ⟨⟩
theorem tw16708887144172644987 : True := ⟨⟩
theorem tw16470317323979864763 : True := ⟨⟩
theorem tw14904137174637212347 : True := ⟨⟩
theorem tw6345391036791879355 : True := ⟨⟩
theorem tw6765152471904792315 : True := ⟨⟩
theorem tw8285764192309689115 : True := ⟨⟩
theorem tw590652811298587419 : True := ⟨⟩
theorem tw1341266762083198811 : True := ⟨⟩
theorem tw18234560199702728603 : True := ⟨⟩
theorem tw724200737284857819 : True := ⟨⟩
theorem tw784011647948385275 : True := ⟨⟩
theorem tw2856731137302751260 : True := ⟨⟩
theorem tw5112083995522966620 : True := ⟨⟩
theorem tw11315637435222106236 : True := ⟨⟩
theorem tw7356724547972884604 : True := ⟨⟩
theorem tw9184033795430018204 : True := ⟨⟩
theorem tw10566571302883470556 : True := ⟨⟩
theorem tw631266038723830076 : True := ⟨⟩
theorem tw8666519363043736892 : True := ⟨⟩
theorem tw607667584577438428 : True := ⟨⟩
theorem tw8570087061310353148 : True := ⟨⟩
theorem tw6881874429007886204 : True := ⟨⟩
theorem tw13294052699122959228 : True := ⟨⟩
theorem tw2325693721150917532 : True := ⟨⟩
theorem tw9843604407834444796 : True := ⟨⟩
theorem tw18269650602155537469 : True := ⟨⟩
theorem tw15806970514647361693 : True := ⟨⟩
theorem tw6499956759230125245 : True := ⟨⟩
theorem tw9849722394096787677 : True := ⟨⟩
theorem tw3882250662718909693 : True := ⟨⟩
theorem tw9992725586745946429 : True := ⟨⟩
theorem tw15274831704391544125 : True := ⟨⟩
theorem tw16760957895259694429 : True := ⟨⟩
theorem tw10803361673654935901 : True := ⟨⟩
theorem tw11924911360389889469 : True := ⟨⟩
theorem tw1376783240425437725 : True := ⟨⟩
theorem tw17942499455142895165 : True := ⟨⟩
theorem tw1778412455037948541 : True := ⟨⟩
theorem tw8553002610548859549 : True := ⟨⟩
theorem tw15140378357190847165 : True := ⟨⟩
theorem tw12223724995276690173 : True := ⟨⟩
theorem tw2139843940965253949 : True := ⟨⟩
theorem tw2142710703020379005 : True := ⟨⟩
theorem tw15661869461025623997 : True := ⟨⟩
theorem tw6751701741844952029 : True := ⟨⟩
theorem tw9529696498207198238 : True := ⟨⟩
theorem tw9255152265573255198 : True := ⟨⟩
theorem tw3850404396616230974 : True := ⟨⟩
theorem tw13650905803964671038 : True := ⟨⟩
theorem tw5274592661964301406 : True := ⟨⟩
theorem tw576407869801174206 : True := ⟨⟩
theorem tw8790382262760724670 : True := ⟨⟩
theorem tw10486713781251687710 : True := ⟨⟩
theorem tw12116493165278983582 : True := ⟨⟩
theorem tw1096898596823417342 : True := ⟨⟩
theorem tw17309000430359075326 : True := ⟨⟩
theorem tw16165715940066559518 : True := ⟨⟩
theorem tw5364902710198789758 : True := ⟨⟩
theorem tw4889031023730116350 : True := ⟨⟩
theorem tw1905533677188600702 : True := ⟨⟩
theorem tw9871626496009991038 : True := ⟨⟩
theorem tw2503670479209048990 : True := ⟨⟩
theorem tw3049941959672503198 : True := ⟨⟩
theorem tw17713402740875732926 : True := ⟨⟩
theorem tw17942709131360195518 : True := ⟨⟩
theorem tw11946022803392826334 : True := ⟨⟩
theorem tw7221428835167493151 : True := ⟨⟩
theorem tw811035903429128223 : True := ⟨⟩
theorem tw3850375180904979519 : True := ⟨⟩
theorem tw14289194402921355359 : True := ⟨⟩
theorem tw3756308257209627903 : True := ⟨⟩
theorem tw12780804625047726367 : True := ⟨⟩
theorem tw12874571214893485439 : True := ⟨⟩
theorem tw17249539165995611551 : True := ⟨⟩
theorem tw8312341600987523519 : True := ⟨⟩
theorem tw2175471002772951711 : True := ⟨⟩
theorem tw4818577856007422655 : True := ⟨⟩
theorem tw15191720212996534143 : True := ⟨⟩
theorem tw8514742172934523775 : True := ⟨⟩
theorem tw5659326285754371903 : True := ⟨⟩
theorem tw2069921687849679211 : True := ⟨⟩
theorem tw8075568018651887793 : True := ⟨⟩
theorem tw16940480111569310127 : True := ⟨⟩
theorem tw4036600594567542471 : True := ⟨⟩
theorem tw680735926496786975 : True := ⟨⟩
theorem tw5959599061297189452 : True := ⟨⟩
theorem tw8813798085823060648 : True := ⟨⟩
theorem tw10834560845738408591 : True := ⟨⟩
theorem tw8708144778798171781 : True := ⟨⟩
theorem tw347662598788629040 : True := ⟨⟩
theorem tw8769470529471456154 : True := ⟨⟩
theorem tw5313304008227124433 : True := ⟨⟩
theorem tw9679077902626354008 : True := ⟨⟩
theorem tw2532483324952209798 : True := ⟨⟩
end law_holds
set_option Elab.async true in
theorem law_holds : PySem.Challenge.rw_og0104_01.Holds := by
  w_on
  o_law
  o_head (kmHook Mine.hd.heap_39 (3 :: 63 :: 76 :: 77 :: 83 :: 84 :: 90 :: 91 :: 97 :: 98 :: 104 :: 105 :: 109 :: 110 :: 116 :: 117 :: 121 :: 122 :: 133 :: 134 :: 136 :: 137 :: 145 :: 146 :: 152 :: 153 :: 159 :: 160 :: 166 :: 167 :: 180 :: 181 :: 194 :: 195 :: 201 :: 202 :: 208 :: 209 :: 215 :: 216 :: 222 :: 223 :: 225 :: 226 :: 236 :: 237 :: 238 :: 249 :: 250 :: 263 :: 264 :: 270 :: 271 :: 277 :: 278 :: 291 :: 292 :: 298 :: 299 :: 303 :: 304 :: 310 :: 311 :: 331 :: 332 :: 338 :: 339 :: 345 :: 346 :: 352 :: 353 :: 359 :: 360 :: 369 :: 370 :: 371 :: 377 :: 378 :: 380 :: 381 :: 386 :: 392 :: 393 :: 401 :: 407 :: 408 :: 414 :: 415 :: 421 :: 422 :: 428 :: 429 :: 435 :: 436 :: 451 :: 457 :: 458 :: 464 :: 465 :: 466 :: 472 :: 473 :: 474 :: 480 :: 481 :: 488 :: 489 :: 494 :: 495 :: 508 :: 509 :: 515 :: 516 :: 522 :: 523 :: 529 :: 530 :: 536 :: 537 :: 539 :: 540 :: 545 :: 551 :: 552 :: 558 :: 559 :: 565 :: 566 :: 570 :: 571 :: 577 :: 578 :: 584 :: 585 :: 591 :: 592 :: 598 :: 599 :: 603 :: 604 :: 610 :: 611 :: []) (fun _ => by kernel_rfl) [547])
  (case hw => w_witness2)
  k_go0
  rename_i w s₀ s₁ mg mb G0 Y fa o pm cd doc kV ho hcd hgens X0 V T B0 TE TW ns hs hlay0 hL1 hr1 hl2 as1 as2 sc xs as3 hIsL hra hw1 hr0 hi hr2 hc1 hc2 hD h₁ X' T' K' F' N' l0
  refine W.use (P := fun fl h' => fl = .ret (.bool true) ∧ ∃ ps l' led', St (ghostOf s₁.heap [(551, 547)]) s₁.heap.objs.size h' l' ((547, tabObj ps) :: led')) ?_ rfl ?_
  · refine' runE (L := s₁.heap.objs.size) rfl rfl rfl rfl ?hns rfl ?hAmb fun e hA => ?_
    case hAmb => exact ⟨by show callerA.depth + 1 + 3 * 12 ≤ 990; decide, by show callerA.units + 3 + 12 * 12 ≤ 9800; decide, rfl⟩
    case hns =>
      show (List.map _ (Scope.names { kind := _, names := _, isGenerator := _, isCoroutine := _, more := _ })) = _
      k_extra "nmap"
    have G : Gd w (ghostOf s₁.heap [(551, 547)]) := ⟨X', _, _, _, _, topRead_of T'⟩
    have hB : BM (ghostOf s₁.heap [(551, 547)]) := by
      obtain ⟨bm, ob, b1, b2, b3, b4, b5, b6⟩ := T'.bmain
      refine ⟨mg, bm, ob, T'.g, b1, b2, fun z => ?_, b3, b4, b5, b6⟩
      obtain ⟨o, es, ep, e, hd, _⟩ := T'.g
      rw [z, e] at b3; cases b3; rw [hd] at b6; cases b6
    have S : St (ghostOf s₁.heap [(551, 547)]) s₁.heap.objs.size h₁ [([115, 99, 114, 105, 112, 116], Value.ref sc)] [(547, tabObj #[])] := by
      refine ⟨locO_of F'.ns fun x v ex => ?_, F'.keep, Heap.get?_none_of_le F'.above, N', by simp⟩
      rw [← ex]
      exact (lookup_names (names := [(Str.ofString "script", Value.ref sc)])).symm
    have hz : ns.length ≤ 1000 := by (first | lia | omega)
    clear hs hlay0 hL1 hr1 hl2 hra hw1 hr0 hr2 hc1 hc2 hD K' l0 hIsL G0 Y ho hcd hgens X0 V T B0 TE TW hT8 hT9 X' T'
    obtain ⟨g, hgd⟩ : ∃ g, g = ghostOf s₁.heap [(551, 547)] := ⟨_, rfl⟩
    rw [← hgd] at S G hB codeHd lifted ⊢
    k_extra "SS"
    refine law_taker S G (hA.le (by decide)) (by k_extra "pk") hB codeHd lifted hi hz ?_
    clear S
    intro h f tl ps hTk S
    k_extra "SI"
    k_extra "SS"
    refine shelf_make S G (hA.le (by decide)) ?_
    clear S
    intro h x sl hS S
    k_extra "SI"
    k_extra "SS"
    rename_i d _ _ _ _
    have hF : Fs w d (fun _ => none) [(d, od)] := ⟨od, [], [], .refl _, hd _, GX.nil⟩
    refine s_callF S (FnL.mono hTk.fn (fun q hq => by k_extra "mem")) ?_ (by with_unfolding_all exact rfl) (by with_unfolding_all exact rfl)
    k_extra "SS"
    refine fnAt_of S (FnL.mono hTk.fn (fun q hq => by k_extra "mem")) ?_
    refine hTk.call S G (hA.le (by decide)) (by k_extra "pk") (by (first | lia | omega)) (by (first | lia | omega)) ?_
    clear S hTk
    intro h r tr tl hr0 hr1 hTk S
    k_extra "SI"
    obtain ⟨rn, rfl⟩ := Int.eq_ofNat_of_zero_le hr0
    k_extra "SS"
    have ha2 : IsRg 0 ((1 + rn : Nat) : Int) 1 oa := by rw [Int.natCast_add]; exact ha
    obtain ⟨rg, rfl⟩ : ∃ z, z = a := ⟨a, rfl⟩
    obtain ⟨og, rfl⟩ : ∃ z, z = oa := ⟨oa, rfl⟩
    have S := S.sel (fp := (rg, og) :: (tl ++ (sl ++ ([(d, od)] ++ [(547, tabObj ps)])))) (by simp only [List.cons_append, List.nil_append]; k_extra "pk")
    refine (it_range1 S hA.handled (by k_extra "mem") ha2 (by (first | lia | omega))).mono fun it h2 hi2 => for_of hi2 (fun i l' led' => E6 fun x tl sl fl F Q => A6 (l' = [([115, 104, 101, 108, 102], Value.ref x), ([102, 105, 108, 101, 115], Value.ref d), ([116, 97, 107, 101], Value.ref f), ([115, 99, 114, 105, 112, 116], Value.ref sc)]) (led' = (rg, og) :: (tl ++ (sl ++ (fl ++ [(547, tabObj ps)])))) (Tk w f (199 - 29 * i) tl) (Sh w x F sl) (Fs w d Q fl) (LR (5 * i) F Q)) ⟨x, tl, sl, _, _, _, rfl, rfl, hTk, hS, hF, fun _ => Iff.rfl, fun k R z => by cases z⟩ ?_ ?_
    · clear S hTk hS hF
      intro i v l1 led1 I oI h hin hv hj S
      obtain ⟨tv, rfl⟩ := hv
      obtain ⟨x, tl, sl, fl, F, Q, rfl, rfl, hTk, hS, hF, hL⟩ := hj
      rw [show 199 - 29 * i = (171 - 29 * i) + 28 by (first | lia | omega)] at hTk
      k_extra "SI"
      k_extra "SS"
      refine session S G (hA.le (by decide)) (by k_extra "pk") hTk hS hF hL (by (first | lia | omega)) ?_
      clear S hTk hS hF hL
      intro h tl sl fl F Q hTk hS hF hL S
      rw [show 171 - 29 * i = (170 - 29 * i) + 1 by (first | lia | omega)] at hTk
      k_extra "SI"
      k_extra "SS"
      refine s_callF S (FnL.mono hTk.fn (fun q hq => by k_extra "mem")) ?_ (by with_unfolding_all exact rfl) (by with_unfolding_all exact rfl)
      k_extra "SS"
      refine fnAt_of S (FnL.mono hTk.fn (fun q hq => by k_extra "mem")) ?_
      refine hTk.call S G (hA.le (by decide)) (by k_extra "pk") (by (first | lia | omega)) (by (first | lia | omega)) ?_
      clear S hTk
      intro h r tr tl hr0 hr1 hTk S
      k_extra "SI"
      have hGF := hL.goodF hS.three (by (first | lia | omega))
      have hGQ := hL.goodQ hF.three (by (first | lia | omega))
      k_extra "SS"
      refine br_mid (fun h' => E3 fun x sl F => A3 (Sh w x F sl) (LR (5 * i + 5) F Q) (St g s₁.heap.objs.size h' [([115, 104, 101, 108, 102], Value.ref x), ([102, 105, 108, 101, 115], Value.ref d), ([116, 97, 107, 101], Value.ref f), ([115, 99, 114, 105, 112, 116], Value.ref sc)] (tl ++ (sl ++ (fl ++ ((547, tabObj ps) :: [(I, oI), (rg, og)])))))) ?_ ?_ ?_
      · intro q
        k_extra "SS"
        refine write_shelf S G (hA.le (by decide)) (by k_extra "pk") hS (fun kk d hd => ⟨hGF.len _ _ hd, hGF.size _ _ hd⟩) ?_
        clear S
        intro h tb S
        k_extra "SI"
        k_extra "SS"
        refine read_shelf S G (hA.le (by decide)) hGF ?_
        clear S
        intro h x2 sl2 hS2 S
        k_extra "SI"
        k_extra "SS"
        exact ⟨x2, sl2, _, hS2, hL.norm, (S.sel (by k_extra "pk")).locs (by k_extra "lsub")⟩
      · intro q
        k_extra "SS"
        exact ⟨x, sl, F, hS, hL, (S.sel (by k_extra "pk")).locs (by k_extra "lsub")⟩
      clear S hS hL hGF
      rintro h ⟨x, sl, F, hS, hL, S⟩
      have hGF := hL.goodF hS.three (by (first | lia | omega))
      obtain ⟨dx, odx, fsx, hx, hdx, hxf⟩ := hS.mem
      k_extra "SS"
      refine shelf_told S G (hA.le (by decide)) (by k_extra "pk") hS (fun kk d hd => hGF.len _ _ hd) ?_
      clear S
      intro h a vs fam hlv S
      obtain ⟨ta, rfl⟩ : ∃ z, z = a := ⟨a, rfl⟩
      k_extra "SI"
      k_extra "SS"
      refine law_told S G (hA.le (by decide)) (by k_extra "pk") hF hGQ (fun kk R hR r hr => ((hL.some kk R hR).1.sz r hr).1) ?_
      clear S
      intro h a vs2 fam2 hlv2 S
      obtain ⟨tb, rfl⟩ : ∃ z, z = a := ⟨a, rfl⟩
      k_extra "SI"
      k_extra "SS"
      rw [← hL.told] at hlv2
      refine d_tne (ds := (pl F).map (onePD F)) (vs := vs) (us := vs2) (tupO_at (S.get (by k_extra "mem"))) (tupO_at (S.get (by k_extra "mem"))) (hlv.dv S fun q hq => by k_extra "mem") (hlv2.dv S fun q hq => by k_extra "mem") (by have := hA.units; have := told_depth F; show _ < 9900; (first | lia | omega)) ?_
      k_extra "SS"
      exact ⟨_, _, (by k_extra "TE"), x, tl, sl, fl, F, Q, rfl, rfl, by rw [show 199 - 29 * (i + 1) = 170 - 29 * i by (first | lia | omega)]; exact hTk, hS, hF, hL.mono (by (first | lia | omega))⟩
    · clear S hTk hS hF
      intro l1 led1 h hj S
      obtain ⟨x, tl, sl, fl, F, Q, rfl, rfl, hTk, hS, hF, hL⟩ := hj
      obtain ⟨dx, odx, fsx, hx, hdx, hxf⟩ := hS.mem
      obtain ⟨odd, kvs, fam, hpe, hD, hg⟩ := id hF
      have hdm : (d, odd) ∈ fl := hpe.mem_iff.mpr (.head _)
      k_extra "SI"
      k_extra "SS"
      refine shelf_paths S G (hA.le (by decide)) (by k_extra "pk") hS ?_
      clear S
      intro h pa po vs hpo hsv S
      k_extra "SI"
      k_extra "SS"
      refine q_sortedD S hA.handled (by k_extra "mem") hD PyProof.Rows.strKind_oneLt (fun us hu => (keysAre_sv hu).sortable) (by have := hg.len; (first | lia | omega)) ?_
      clear S
      intro pb h pob us vs2 hu hpb hpp hss S
      have hsv2 := hg.sorted hu hpp hss
      rw [← hL.pl] at hsv2
      k_extra "SS"
      refine d_leq (ds := (pl F).map PD.str) (vs := vs) (us := vs2) (hpo.ints (S.get (by k_extra "mem"))) (hpb.ints (S.get (by k_extra "mem"))) hsv.dvs hsv2.dvs (by have := hA.units; have := strs_depth (pl F); show _ < 9900; (first | lia | omega)) ?_
      k_extra "SS"
      exact ⟨rfl, ps, _, [], S.sel (by k_extra "pk")⟩
  · intro fl h' tk hfin
    obtain ⟨rfl, ps, l', led', S⟩ := hfin
    obtain ⟨mm, hns, -⟩ := S.ns
    exact ⟨goodW_bool (b := true) ⟨hns, S.keep, F'.above⟩ hgens (fun _ => rfl) (by kernel_rfl), ⟨ps, S.get (.head _)⟩, trivial⟩
end Fin1

end Mine
end
theorem PySem.Challenge.cw_og0104_01_holds : PySem.Challenge.rw_og0104_01.Holds := by
  exact Mine.law_holds
