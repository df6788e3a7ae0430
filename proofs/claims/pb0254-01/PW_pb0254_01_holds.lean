import PyProof.Rows.All
import Wide.All
import OpenK.AllK
import Wide.FinOn
import PySem.Challenge.RW_pb0254_01
open PySem PySem.W PySem.Calls PySem.Spec PyProof.Rows
set_option Elab.async false
set_option maxRecDepth 100000
set_option linter.unusedVariables false
namespace Mine
def stm (i : Nat) : Stmt := PySem.Challenge.pw_pb0254_01.main.body.getD i (Stmt.Pass ⟨0, 0, 0, 0⟩)
def mth (i j : Nat) : Stmt := match stm i with
  | .ClassDef (body := b) .. => b.getD j (Stmt.Pass ⟨0, 0, 0, 0⟩)
  | _ => Stmt.Pass ⟨0, 0, 0, 0⟩
def fnObj (s : Stmt) (qual : Str) (cd pm dV : Value) : Obj := match s with
  | .FunctionDef (name := n) (args := ps) (body := b) (scope := sc) .. => { cls := .type "function", data := .func (fnOf n qual ps b sc dV .none .none pm none cd .none) }
  | _ => { cls := .none }
def o2 (P : Params) : Obj := ⟨Value.none, none, (Data.dict #[⟨PyData.keyHash P (Str.ofString "type.__subclasses__.Exception.0"), (Value.str (Str.ofString "type.__subclasses__.Exception.0") 265), (Value.int 68 0)⟩, ⟨PyData.keyHash P (Str.ofString "type.__subclasses__.Exception.n"), (Value.str (Str.ofString "type.__subclasses__.Exception.n") 266), (Value.int 1 0)⟩] 2), #[]⟩
def o3 (P : Params) : Obj := ⟨(Value.type "dict"), none, (Data.dict #[⟨PyData.keyHash P (Str.ofString "__name__"), (Value.str (Str.ofString "__name__") 165), (Value.str (Str.ofString "law_pb0254_01") 532)⟩, ⟨PyData.keyHash P (Str.ofString "__doc__"), (Value.str (Str.ofString "__doc__") 166), Value.none⟩, ⟨PyData.keyHash P (Str.ofString "__package__"), (Value.str (Str.ofString "__package__") 167), Value.none⟩, ⟨PyData.keyHash P (Str.ofString "__loader__"), (Value.str (Str.ofString "__loader__") 168), (Value.builtin "__main__.__loader__#opaque")⟩, ⟨PyData.keyHash P (Str.ofString "__spec__"), (Value.str (Str.ofString "__spec__") 169), Value.none⟩, ⟨PyData.keyHash P (Str.ofString "__annotations__"), (Value.str (Str.ofString "__annotations__") 170), (Value.ref 6)⟩, ⟨PyData.keyHash P (Str.ofString "__builtins__"), (Value.str (Str.ofString "__builtins__") 171), (Value.ref 4)⟩, ⟨PyData.keyHash P (Str.ofString "__file__"), (Value.str (Str.ofString "__file__") 173), (Value.str (Str.ofString "/claim/cut.py") 172)⟩, ⟨PyData.keyHash P (Str.ofString "__cached__"), (Value.str (Str.ofString "__cached__") 174), Value.none⟩, ⟨PyData.keyHash P (Str.ofString "_wall"), (Value.str (Str.ofString "_wall") 193), (Value.ref 21)⟩, ⟨PyData.keyHash P (Str.ofString "word_ahead"), (Value.str (Str.ofString "word_ahead") 205), (Value.ref 28)⟩, ⟨PyData.keyHash P (Str.ofString "phrase_words"), (Value.str (Str.ofString "phrase_words") 212), (Value.ref 35)⟩, ⟨PyData.keyHash P (Str.ofString "opening_length"), (Value.str (Str.ofString "opening_length") 226), (Value.ref 42)⟩, ⟨PyData.keyHash P (Str.ofString "LedgerError"), (Value.str (Str.ofString "LedgerError") 268), (Value.ref 68)⟩, ⟨PyData.keyHash P (Str.ofString "GrammarFault"), (Value.str (Str.ofString "GrammarFault") 284), (Value.ref 81)⟩, ⟨PyData.keyHash P (Str.ofString "Reader"), (Value.str (Str.ofString "Reader") 485), (Value.ref 252)⟩, ⟨PyData.keyHash P (Str.ofString "Token"), (Value.str (Str.ofString "Token") 531), (Value.ref 282)⟩, ⟨PyData.keyHash P (Str.ofString "_law_pen"), (Value.str (Str.ofString "_law_pen") 539), (Value.ref 291)⟩, ⟨PyData.keyHash P (Str.ofString "_law_draw"), (Value.str (Str.ofString "_law_draw") 550), (Value.ref 298)⟩, ⟨PyData.keyHash P (Str.ofString "_law_pick"), (Value.str (Str.ofString "_law_pick") 558), (Value.ref 305)⟩, ⟨PyData.keyHash P (Str.ofString "_law_words"), (Value.str (Str.ofString "_law_words") 564), (Value.ref 310)⟩, ⟨PyData.keyHash P (Str.ofString "_law_reader"), (Value.str (Str.ofString "_law_reader") 570), (Value.ref 315)⟩, ⟨PyData.keyHash P (Str.ofString "_law_spellings"), (Value.str (Str.ofString "_law_spellings") 576), (Value.ref 320)⟩, ⟨PyData.keyHash P (Str.ofString "_law_longest"), (Value.str (Str.ofString "_law_longest") 588), (Value.ref 327)⟩, ⟨PyData.keyHash P (Str.ofString "_law_right"), (Value.str (Str.ofString "_law_right") 601), (Value.ref 334)⟩, ⟨PyData.keyHash P (Str.ofString "law"), (Value.str (Str.ofString "law") 617), (Value.ref 341)⟩] 26), #[]⟩
def o27 (P : Params) : Obj := ⟨(Value.type "code"), none, (Data.fields #[(Value.str (Str.ofString "word_ahead") 196), (Value.str (Str.ofString "word_ahead") 197), (Value.str (Str.ofString "/claim/cut.py") 198), (Value.int 5 0), (Value.int 3 0), (Value.int 0 0), (Value.int 0 0), (Value.int 3 0), (Value.ref 22), (Value.bool true), (Value.int 181 0), (Value.ref 23), Value.none, (Value.ref 24), (Value.ref 25), (Value.ref 26), (Value.int 203 0), (Value.int 5 0), (Value.str (Str.ofString "/claim/cut.py") 204)]), #[]⟩
def o28 (P : Params) : Obj := fnObj (stm 2) (Str.ofString "word_ahead") (Value.ref 27) (Value.str (Str.ofString "ledgerspeak.readarith") 194) Value.none
def o34 (P : Params) : Obj := ⟨(Value.type "code"), none, (Data.fields #[(Value.str (Str.ofString "phrase_words") 206), (Value.str (Str.ofString "phrase_words") 207), (Value.str (Str.ofString "/claim/cut.py") 208), (Value.int 8 0), (Value.int 1 0), (Value.int 0 0), (Value.int 0 0), (Value.int 3 0), (Value.ref 29), (Value.bool true), (Value.int 181 0), (Value.ref 30), Value.none, (Value.ref 31), (Value.ref 32), (Value.ref 33), (Value.int 210 0), (Value.int 8 0), (Value.str (Str.ofString "/claim/cut.py") 211)]), #[]⟩
def o35 (P : Params) : Obj := fnObj (stm 3) (Str.ofString "phrase_words") (Value.ref 34) (Value.str (Str.ofString "ledgerspeak.readarith") 194) Value.none
def o41 (P : Params) : Obj := ⟨(Value.type "code"), none, (Data.fields #[(Value.str (Str.ofString "opening_length") 213), (Value.str (Str.ofString "opening_length") 214), (Value.str (Str.ofString "/claim/cut.py") 215), (Value.int 18 0), (Value.int 2 0), (Value.int 0 0), (Value.int 0 0), (Value.int 3 0), (Value.ref 36), (Value.bool true), (Value.int 181 0), (Value.ref 37), Value.none, (Value.ref 38), (Value.ref 39), (Value.ref 40), (Value.int 224 0), (Value.int 18 0), (Value.str (Str.ofString "/claim/cut.py") 225)]), #[]⟩
def o42 (P : Params) : Obj := fnObj (stm 4) (Str.ofString "opening_length") (Value.ref 41) (Value.str (Str.ofString "ledgerspeak.readarith") 194) Value.none
def o91 (P : Params) : Obj := ⟨(Value.type "tuple"), none, (Data.seq #[(Value.int 0 299)] 0), #[]⟩
def o97 (P : Params) : Obj := ⟨(Value.type "code"), none, (Data.fields #[(Value.str (Str.ofString "__init__") 300), (Value.str (Str.ofString "Reader.__init__") 301), (Value.str (Str.ofString "/claim/cut.py") 302), (Value.int 53 0), (Value.int 3 0), (Value.int 0 0), (Value.int 0 0), (Value.int 3 0), (Value.ref 92), (Value.bool true), (Value.int 181 0), (Value.ref 93), Value.none, (Value.ref 94), (Value.ref 95), (Value.ref 96), (Value.int 306 0), (Value.int 53 0), (Value.str (Str.ofString "/claim/cut.py") 307)]), #[]⟩
def o98 (P : Params) : Obj := fnObj (mth 9 0) (Str.ofString "Reader.__init__") (Value.ref 97) (Value.str (Str.ofString "ledgerspeak.reader") 285) (Value.ref 91)
def o99 (P : Params) : Obj := ⟨(Value.type "tuple"), none, (Data.seq #[(Value.int 0 309)] 0), #[]⟩
def o105 (P : Params) : Obj := ⟨(Value.type "code"), none, (Data.fields #[(Value.str (Str.ofString "peek") 310), (Value.str (Str.ofString "Reader.peek") 311), (Value.str (Str.ofString "/claim/cut.py") 312), (Value.int 58 0), (Value.int 2 0), (Value.int 0 0), (Value.int 0 0), (Value.int 3 0), (Value.ref 100), (Value.bool true), (Value.int 181 0), (Value.ref 101), Value.none, (Value.ref 102), (Value.ref 103), (Value.ref 104), (Value.int 315 0), (Value.int 58 0), (Value.str (Str.ofString "/claim/cut.py") 316)]), #[]⟩
def o106 (P : Params) : Obj := fnObj (mth 9 1) (Str.ofString "Reader.peek") (Value.ref 105) (Value.str (Str.ofString "ledgerspeak.reader") 285) (Value.ref 99)
def o251 (P : Params) : Obj := ⟨(Value.type "dict"), none, (Data.dict #[⟨PyData.keyHash P (Str.ofString "__module__"), (Value.str (Str.ofString "__module__") 294), (Value.str (Str.ofString "ledgerspeak.reader") 285)⟩, ⟨PyData.keyHash P (Str.ofString "__firstlineno__"), (Value.str (Str.ofString "__firstlineno__") 298), (Value.int 51 297)⟩, ⟨PyData.keyHash P (Str.ofString "__init__"), (Value.str (Str.ofString "__init__") 308), (Value.ref 98)⟩, ⟨PyData.keyHash P (Str.ofString "peek"), (Value.str (Str.ofString "peek") 317), (Value.ref 106)⟩, ⟨PyData.keyHash P (Str.ofString "is_done"), (Value.str (Str.ofString "is_done") 324), (Value.ref 113)⟩, ⟨PyData.keyHash P (Str.ofString "fault"), (Value.str (Str.ofString "fault") 332), (Value.ref 120)⟩, ⟨PyData.keyHash P (Str.ofString "take"), (Value.str (Str.ofString "take") 340), (Value.ref 127)⟩, ⟨PyData.keyHash P (Str.ofString "is_kind"), (Value.str (Str.ofString "is_kind") 351), (Value.ref 135)⟩, ⟨PyData.keyHash P (Str.ofString "is_word"), (Value.str (Str.ofString "is_word") 359), (Value.ref 142)⟩, ⟨PyData.keyHash P (Str.ofString "skip"), (Value.str (Str.ofString "skip") 367), (Value.ref 149)⟩, ⟨PyData.keyHash P (Str.ofString "need"), (Value.str (Str.ofString "need") 375), (Value.ref 156)⟩, ⟨PyData.keyHash P (Str.ofString "one_of"), (Value.str (Str.ofString "one_of") 383), (Value.ref 163)⟩, ⟨PyData.keyHash P (Str.ofString "word"), (Value.str (Str.ofString "word") 390), (Value.ref 170)⟩, ⟨PyData.keyHash P (Str.ofString "is_name"), (Value.str (Str.ofString "is_name") 399), (Value.ref 178)⟩, ⟨PyData.keyHash P (Str.ofString "name"), (Value.str (Str.ofString "name") 406), (Value.ref 185)⟩, ⟨PyData.keyHash P (Str.ofString "names"), (Value.str (Str.ofString "names") 413), (Value.ref 192)⟩, ⟨PyData.keyHash P (Str.ofString "is_sign"), (Value.str (Str.ofString "is_sign") 423), (Value.ref 200)⟩, ⟨PyData.keyHash P (Str.ofString "skip_sign"), (Value.str (Str.ofString "skip_sign") 431), (Value.ref 207)⟩, ⟨PyData.keyHash P (Str.ofString "need_sign"), (Value.str (Str.ofString "need_sign") 439), (Value.ref 214)⟩, ⟨PyData.keyHash P (Str.ofString "is_number"), (Value.str (Str.ofString "is_number") 446), (Value.ref 221)⟩, ⟨PyData.keyHash P (Str.ofString "signed"), (Value.str (Str.ofString "signed") 453), (Value.ref 228)⟩, ⟨PyData.keyHash P (Str.ofString "whole"), (Value.str (Str.ofString "whole") 460), (Value.ref 235)⟩, ⟨PyData.keyHash P (Str.ofString "literal"), (Value.str (Str.ofString "literal") 467), (Value.ref 242)⟩, ⟨PyData.keyHash P (Str.ofString "octets"), (Value.str (Str.ofString "octets") 474), (Value.ref 249)⟩, ⟨PyData.keyHash P (Str.ofString "__static_attributes__"), (Value.str (Str.ofString "__static_attributes__") 478), (Value.ref 250)⟩, ⟨PyData.keyHash P (Str.ofString "__dict__"), (Value.str (Str.ofString "__dict__") 480), (Value.ref 253)⟩, ⟨PyData.keyHash P (Str.ofString "__weakref__"), (Value.str (Str.ofString "__weakref__") 482), (Value.ref 254)⟩, ⟨PyData.keyHash P (Str.ofString "__doc__"), (Value.str (Str.ofString "__doc__") 483), Value.none⟩] 4), #[]⟩
def o252 (P : Params) : Obj := ⟨(Value.type "type"), none, (Data.cls ⟨(Str.ofString "Reader"), [(Value.type "object")], [(Value.ref 252), (Value.type "object")], 251, (Str.ofString "Reader"), true, [], [], false, none, false⟩), #[none, none, (some (Value.str (Str.ofString "Reader") 287)), (some (Value.str (Str.ofString "Reader") 295)), (some (Value.builtin "object.__new__")), (some (Value.bool true))]⟩
def o264 (P : Params) : Obj := ⟨(Value.type "tuple"), none, (Data.seq #[(Value.int 0 500), (Value.int 0 501)] 0), #[]⟩
def o265 (P : Params) : Obj := ⟨(Value.type "tuple"), none, (Data.seq #[(Value.ref 264), (Value.bool false)] 0), #[]⟩
def o271 (P : Params) : Obj := ⟨(Value.type "code"), none, (Data.fields #[(Value.str (Str.ofString "__init__") 502), (Value.str (Str.ofString "Token.__init__") 503), (Value.str (Str.ofString "/claim/cut.py") 504), (Value.int 136 0), (Value.int 5 0), (Value.int 0 0), (Value.int 0 0), (Value.int 3 0), (Value.ref 266), (Value.bool true), (Value.int 181 0), (Value.ref 267), Value.none, (Value.ref 268), (Value.ref 269), (Value.ref 270), (Value.int 510 0), (Value.int 136 0), (Value.str (Str.ofString "/claim/cut.py") 511)]), #[]⟩
def o272 (P : Params) : Obj := fnObj (mth 11 0) (Str.ofString "Token.__init__") (Value.ref 271) (Value.str (Str.ofString "ledgerspeak.tokens") 486) (Value.ref 265)
def o281 (P : Params) : Obj := ⟨(Value.type "dict"), none, (Data.dict #[⟨PyData.keyHash P (Str.ofString "__module__"), (Value.str (Str.ofString "__module__") 495), (Value.str (Str.ofString "ledgerspeak.tokens") 486)⟩, ⟨PyData.keyHash P (Str.ofString "__firstlineno__"), (Value.str (Str.ofString "__firstlineno__") 499), (Value.int 134 498)⟩, ⟨PyData.keyHash P (Str.ofString "__init__"), (Value.str (Str.ofString "__init__") 512), (Value.ref 272)⟩, ⟨PyData.keyHash P (Str.ofString "told"), (Value.str (Str.ofString "told") 519), (Value.ref 279)⟩, ⟨PyData.keyHash P (Str.ofString "__static_attributes__"), (Value.str (Str.ofString "__static_attributes__") 524), (Value.ref 280)⟩, ⟨PyData.keyHash P (Str.ofString "__dict__"), (Value.str (Str.ofString "__dict__") 526), (Value.ref 283)⟩, ⟨PyData.keyHash P (Str.ofString "__weakref__"), (Value.str (Str.ofString "__weakref__") 528), (Value.ref 284)⟩, ⟨PyData.keyHash P (Str.ofString "__doc__"), (Value.str (Str.ofString "__doc__") 529), Value.none⟩] 4), #[]⟩
def o282 (P : Params) : Obj := ⟨(Value.type "type"), none, (Data.cls ⟨(Str.ofString "Token"), [(Value.type "object")], [(Value.ref 282), (Value.type "object")], 281, (Str.ofString "Token"), true, [], [], false, none, false⟩), #[none, none, (some (Value.str (Str.ofString "Token") 488)), (some (Value.str (Str.ofString "Token") 496)), (some (Value.builtin "object.__new__")), (some (Value.bool true))]⟩
def o290 (P : Params) : Obj := ⟨(Value.type "code"), none, (Data.fields #[(Value.str (Str.ofString "_law_pen") 534), (Value.str (Str.ofString "_law_pen") 535), (Value.str (Str.ofString "/claim/cut.py") 536), (Value.int 145 0), (Value.int 1 0), (Value.int 0 0), (Value.int 0 0), (Value.int 3 0), (Value.ref 287), (Value.bool true), (Value.int 181 0), (Value.ref 288), Value.none, Value.none, Value.none, (Value.ref 289), (Value.int 537 0), (Value.int 145 0), (Value.str (Str.ofString "/claim/cut.py") 538)]), #[]⟩
def o291 (P : Params) : Obj := fnObj (stm 13) (Str.ofString "_law_pen") (Value.ref 290) (Value.str (Str.ofString "law_pb0254_01") 532) Value.none
def o297 (P : Params) : Obj := ⟨(Value.type "code"), none, (Data.fields #[(Value.str (Str.ofString "_law_draw") 540), (Value.str (Str.ofString "_law_draw") 541), (Value.str (Str.ofString "/claim/cut.py") 542), (Value.int 148 0), (Value.int 2 0), (Value.int 0 0), (Value.int 0 0), (Value.int 3 0), (Value.ref 292), (Value.bool true), (Value.int 181 0), (Value.ref 293), Value.none, (Value.ref 294), (Value.ref 295), (Value.ref 296), (Value.int 548 0), (Value.int 148 0), (Value.str (Str.ofString "/claim/cut.py") 549)]), #[]⟩
def o298 (P : Params) : Obj := fnObj (stm 14) (Str.ofString "_law_draw") (Value.ref 297) (Value.str (Str.ofString "law_pb0254_01") 532) Value.none
def o304 (P : Params) : Obj := ⟨(Value.type "code"), none, (Data.fields #[(Value.str (Str.ofString "_law_pick") 551), (Value.str (Str.ofString "_law_pick") 552), (Value.str (Str.ofString "/claim/cut.py") 553), (Value.int 157 0), (Value.int 2 0), (Value.int 0 0), (Value.int 0 0), (Value.int 3 0), (Value.ref 299), (Value.bool true), (Value.int 181 0), (Value.ref 300), Value.none, (Value.ref 301), (Value.ref 302), (Value.ref 303), (Value.int 556 0), (Value.int 157 0), (Value.str (Str.ofString "/claim/cut.py") 557)]), #[]⟩
def o305 (P : Params) : Obj := fnObj (stm 15) (Str.ofString "_law_pick") (Value.ref 304) (Value.str (Str.ofString "law_pb0254_01") 532) Value.none
def o309 (P : Params) : Obj := ⟨(Value.type "code"), none, (Data.fields #[(Value.str (Str.ofString "_law_words") 559), (Value.str (Str.ofString "_law_words") 560), (Value.str (Str.ofString "/claim/cut.py") 561), (Value.int 159 0), (Value.int 1 0), (Value.int 0 0), (Value.int 0 0), (Value.int 3 0), (Value.ref 306), (Value.bool true), (Value.int 181 0), (Value.ref 307), Value.none, Value.none, Value.none, (Value.ref 308), (Value.int 562 0), (Value.int 159 0), (Value.str (Str.ofString "/claim/cut.py") 563)]), #[]⟩
def o310 (P : Params) : Obj := fnObj (stm 16) (Str.ofString "_law_words") (Value.ref 309) (Value.str (Str.ofString "law_pb0254_01") 532) Value.none
def o314 (P : Params) : Obj := ⟨(Value.type "code"), none, (Data.fields #[(Value.str (Str.ofString "_law_reader") 565), (Value.str (Str.ofString "_law_reader") 566), (Value.str (Str.ofString "/claim/cut.py") 567), (Value.int 161 0), (Value.int 1 0), (Value.int 0 0), (Value.int 0 0), (Value.int 3 0), (Value.ref 311), (Value.bool true), (Value.int 181 0), (Value.ref 312), Value.none, Value.none, Value.none, (Value.ref 313), (Value.int 568 0), (Value.int 161 0), (Value.str (Str.ofString "/claim/cut.py") 569)]), #[]⟩
def o315 (P : Params) : Obj := fnObj (stm 17) (Str.ofString "_law_reader") (Value.ref 314) (Value.str (Str.ofString "law_pb0254_01") 532) Value.none
def o319 (P : Params) : Obj := ⟨(Value.type "code"), none, (Data.fields #[(Value.str (Str.ofString "_law_spellings") 571), (Value.str (Str.ofString "_law_spellings") 572), (Value.str (Str.ofString "/claim/cut.py") 573), (Value.int 163 0), (Value.int 0 0), (Value.int 0 0), (Value.int 0 0), (Value.int 3 0), (Value.ref 316), (Value.bool true), (Value.int 181 0), (Value.ref 317), Value.none, Value.none, Value.none, (Value.ref 318), (Value.int 574 0), (Value.int 163 0), (Value.str (Str.ofString "/claim/cut.py") 575)]), #[]⟩
def o320 (P : Params) : Obj := fnObj (stm 18) (Str.ofString "_law_spellings") (Value.ref 319) (Value.str (Str.ofString "law_pb0254_01") 532) Value.none
def o326 (P : Params) : Obj := ⟨(Value.type "code"), none, (Data.fields #[(Value.str (Str.ofString "_law_longest") 577), (Value.str (Str.ofString "_law_longest") 578), (Value.str (Str.ofString "/claim/cut.py") 579), (Value.int 171 0), (Value.int 3 0), (Value.int 0 0), (Value.int 0 0), (Value.int 3 0), (Value.ref 321), (Value.bool true), (Value.int 181 0), (Value.ref 322), Value.none, (Value.ref 323), (Value.ref 324), (Value.ref 325), (Value.int 586 0), (Value.int 171 0), (Value.str (Str.ofString "/claim/cut.py") 587)]), #[]⟩
def o327 (P : Params) : Obj := fnObj (stm 19) (Str.ofString "_law_longest") (Value.ref 326) (Value.str (Str.ofString "law_pb0254_01") 532) Value.none
def o333 (P : Params) : Obj := ⟨(Value.type "code"), none, (Data.fields #[(Value.str (Str.ofString "_law_right") 589), (Value.str (Str.ofString "_law_right") 590), (Value.str (Str.ofString "/claim/cut.py") 591), (Value.int 178 0), (Value.int 4 0), (Value.int 0 0), (Value.int 0 0), (Value.int 3 0), (Value.ref 328), (Value.bool true), (Value.int 181 0), (Value.ref 329), Value.none, (Value.ref 330), (Value.ref 331), (Value.ref 332), (Value.int 599 0), (Value.int 178 0), (Value.str (Str.ofString "/claim/cut.py") 600)]), #[]⟩
def o334 (P : Params) : Obj := fnObj (stm 20) (Str.ofString "_law_right") (Value.ref 333) (Value.str (Str.ofString "law_pb0254_01") 532) Value.none
set_option linter.all false
def KF (P : Params) : Frag := (nat_lit 2, o2 P) :: (nat_lit 3, o3 P) :: (nat_lit 27, o27 P) :: (nat_lit 28, o28 P) :: (nat_lit 34, o34 P) :: (nat_lit 35, o35 P) :: (nat_lit 41, o41 P) :: (nat_lit 42, o42 P) :: (nat_lit 91, o91 P) :: (nat_lit 97, o97 P) :: (nat_lit 98, o98 P) :: (nat_lit 99, o99 P) :: (nat_lit 105, o105 P) :: (nat_lit 106, o106 P) :: (nat_lit 251, o251 P) :: (nat_lit 252, o252 P) :: (nat_lit 264, o264 P) :: (nat_lit 265, o265 P) :: (nat_lit 271, o271 P) :: (nat_lit 272, o272 P) :: (nat_lit 281, o281 P) :: (nat_lit 282, o282 P) :: (nat_lit 290, o290 P) :: (nat_lit 291, o291 P) :: (nat_lit 297, o297 P) :: (nat_lit 298, o298 P) :: (nat_lit 304, o304 P) :: (nat_lit 305, o305 P) :: (nat_lit 309, o309 P) :: (nat_lit 310, o310 P) :: (nat_lit 314, o314 P) :: (nat_lit 315, o315 P) :: (nat_lit 319, o319 P) :: (nat_lit 320, o320 P) :: (nat_lit 326, o326 P) :: (nat_lit 327, o327 P) :: (nat_lit 333, o333 P) :: (nat_lit 334, o334 P) :: []
def KA : List Addr := nat_lit 2 :: nat_lit 3 :: nat_lit 27 :: nat_lit 28 :: nat_lit 34 :: nat_lit 35 :: nat_lit 41 :: nat_lit 42 :: nat_lit 91 :: nat_lit 97 :: nat_lit 98 :: nat_lit 99 :: nat_lit 105 :: nat_lit 106 :: nat_lit 251 :: nat_lit 252 :: nat_lit 264 :: nat_lit 265 :: nat_lit 271 :: nat_lit 272 :: nat_lit 281 :: nat_lit 282 :: nat_lit 290 :: nat_lit 291 :: nat_lit 297 :: nat_lit 298 :: nat_lit 304 :: nat_lit 305 :: nat_lit 309 :: nat_lit 310 :: nat_lit 314 :: nat_lit 315 :: nat_lit 319 :: nat_lit 320 :: nat_lit 326 :: nat_lit 327 :: nat_lit 333 :: nat_lit 334 :: []
theorem KA_eq : ∀ P, KA = (KF P).map (·.1) := fun _ => rfl
section
def GEnd (h₀ : Heap) (L I : Addr) (oI : Obj) (src : List (Addr × Obj)) (J : (Str → Option Value) → List (Addr × Obj) → Prop) (s₁ s₂ : Shared) : Prop :=
  ∃ h' tk m' news', s₂ = { s₁ with heap := h', toks := tk } ∧ Fr h₀ L h' m' ∧ News h₀ L h' ((I, oI) :: news') ∧ (∀ p ∈ news', p.1 ≠ I) ∧ (∀ p ∈ src, p ∈ news') ∧ J m' news'
def GPost (h₀ : Heap) (L I : Addr) (oI : Obj) (src : List (Addr × Obj)) (J : (Str → Option Value) → List (Addr × Obj) → Prop) (s₁ : Shared) (Q : Flow → Shared → Prop) (f : Flow) (s₂ : Shared) : Prop :=
  match f with
  | .ret v => Q (.ret v) s₂
  | .brk => Q .next s₂
  | _ => GEnd h₀ L I oI src J s₁ s₂
theorem GEnd.intro {h₀ : Heap} {L I : Addr} {oI : Obj} {src all : List (Addr × Obj)} {J : (Str → Option Value) → List (Addr × Obj) → Prop} {s₁ : Shared} {h' : Heap} {tk : Nat} {m' : Str → Option Value}
    (F : Fr h₀ L h' m') (N : News h₀ L h' all) (news' : List (Addr × Obj)) (sub : ∀ p ∈ (I, oI) :: news', p ∈ all) (off : ∀ p ∈ news', p.1 ≠ I) (hs : ∀ p ∈ src, p ∈ news') (hj : J m' news') :
    GEnd h₀ L I oI src J s₁ { s₁ with heap := h', toks := tk } := ⟨h', tk, m', news', rfl, F, fun p hp => N p (sub p hp), off, hs, hj⟩

section
variable {prog : Program} {w : World} {A : Around} {E : Value → Shared → Prop} {s : Shared} {env : Env} {h₀ : Heap} {x : Str} {body : List Stmt} {Q : Flow → Shared → Prop}
theorem loop_gen {I : Addr} {fp : List Addr} {n : Nat} {P : Nat → Value → Prop} {St : Nat → Heap → Prop} {m₀ : Str → Option Value} {src news : List (Addr × Obj)} (J : Nat → (Str → Option Value) → List (Addr × Obj) → Prop)
    (W : Walks prog w A I fp [I] n P St) (hfp : ∀ b ∈ fp, b = I ∨ ∃ o, (b, o) ∈ src) (hIo : ∀ i h, St i h → ∃ o, h.get? I = some o) (hLf : env.locals ∉ fp) (hI : h₀.get? I = none) (hnw : ∀ p ∈ news, p.1 ≠ I) (hsrc : ∀ p ∈ src, p ∈ news)
    (hst : St 0 s.heap) (F : Fr h₀ env.locals s.heap m₀) (N : News h₀ env.locals s.heap news) (hj : J 0 m₀ news)
    (turn : ∀ i v m₁ news₁ h tk oI, i < n → P i v → J i m₁ news₁ → (∀ p ∈ src, p ∈ news₁) → (∀ p ∈ news₁, p.1 ≠ I) → Fr h₀ env.locals h (fun y => if y = x then some v else m₁ y) → News h₀ env.locals h ((I, oI) :: news₁) →
      wpAny (model prog w) A (execs body env) (GPost h₀ env.locals I oI src (J (i + 1)) { s with heap := h, toks := tk } Q) E { s with heap := h, toks := tk })
    (done : ∀ m₁ news₁ h tk, J n m₁ news₁ → (∀ p ∈ src, p ∈ news₁) → Fr h₀ env.locals h m₁ → News h₀ env.locals h news₁ → Q .next { s with heap := h, toks := tk }) :
    LoopAtV prog w A h₀ env x body Q E (.ref I) s := by
  let J' : Nat → (Str → Option Value) → List (Addr × Obj) → Prop := fun i m₁ news₁ => (∀ p ∈ src, p ∈ news₁) ∧ J i m₁ news₁
  refine ⟨I, fp, [I], n, P, St, m₀, news, J', rfl, W, hLf, ?_, ?_, hst, F, N, ⟨hsrc, hj⟩, ?_, ?_⟩
  · intro b hb
    rw [List.mem_singleton.mp hb]; exact hI
  · intro p hp h
    exact hnw p hp (List.mem_singleton.mp h)
  · rintro i v m₁ news₁ s₁ own ⟨hh', tk', rfl⟩ hin hP ⟨hs, hJ⟩ hoff hown hget hall hst₁ F₁ N₁
    obtain ⟨oI, heI⟩ := hIo _ _ hst₁
    have hmI : (I, oI) ∈ own := hall I (W.sub I (List.mem_singleton.mpr rfl)) hI _ heI
    have N₂ : News h₀ env.locals hh' ((I, oI) :: news₁) := fun p hp => by
      rcases List.mem_cons.mp hp with rfl | hp
      · exact N₁ _ (List.mem_append_left _ hmI)
      · exact N₁ _ (List.mem_append_right _ hp)
    refine wpAny_mono (turn i v m₁ news₁ hh' tk' oI hin hP hJ hs (fun p hp e => hoff p hp (List.mem_singleton.mpr e)) F₁ N₂) (fun f s₂ p => ?_) fun _ _ e => e
    have fin : GEnd h₀ env.locals I oI src (J (i + 1)) { s with heap := hh', toks := tk' } s₂ → LoopStepU h₀ env.locals [I] own (J' (i + 1)) { s with heap := hh', toks := tk' } .next s₂ := by
      rintro ⟨h', tk, m', news', e, F', N', ho, hs', hj'⟩
      refine ⟨rfl, h', tk, m', news', e, F', fun p hp => ?_, fun p hp h => ho p hp (List.mem_singleton.mp h), hs', hj'⟩
      rcases List.mem_append.mp hp with hp | hp
      · have g := hget p hp
        rcases hfp _ (hown p hp) with e1 | ⟨o, ho'⟩
        · have e2 : p = (I, oI) := by
            rw [e1, heI] at g
            exact Prod.ext e1 (Option.some.inj g).symm
          rw [e2]; exact N' _ (.head _)
        · have g2 := (N₂ _ (.tail _ (hs _ ho'))).1
          have e2 : p = (p.1, o) := Prod.ext rfl (Option.some.inj (g.symm.trans g2))
          rw [e2]; exact N' _ (.tail _ (hs' _ ho'))
      · exact N' _ (.tail _ hp)
    cases f with
    | ret v => exact .ret p
    | brk => exact .brk p
    | next => exact .next (fin p)
    | cont => exact .cont (fin p)
  · rintro h' tk m' news' F' N' _ ⟨hs, hJ⟩
    exact done m' news' h' tk hJ hs F' N'

/-- a loop over a list or a tuple of the ledger's, any invariant over the frame's map and the ledger -/
theorem iter_seq {l : Addr} {ol : Obj} {vs : List Value} {n : Nat} {m₀ : Str → Option Value} {news : List (Addr × Obj)} (J : Nat → (Str → Option Value) → List (Addr × Obj) → Prop)
    (hh : A.handled = none) (hm : (l, ol) ∈ news) (hc : ol.cls = .type "list" ∨ ol.cls = .type "tuple") (hd : ol.data = .seq vs.toArray n) (F : Fr h₀ env.locals s.heap m₀) (N : News h₀ env.locals s.heap news) (hj : J 0 m₀ news)
    (turn : ∀ (i : Nat) v m₁ news₁ h tk I oI, vs[i]? = some v → J i m₁ news₁ → (l, ol) ∈ news₁ → (∀ p ∈ news₁, p.1 ≠ I) → Fr h₀ env.locals h (fun y => if y = x then some v else m₁ y) → News h₀ env.locals h ((I, oI) :: news₁) →
      wpAny (model prog w) A (execs body env) (GPost h₀ env.locals I oI [(l, ol)] (J (i + 1)) { s with heap := h, toks := tk } Q) E { s with heap := h, toks := tk })
    (done : ∀ m₁ news₁ h tk, J vs.length m₁ news₁ → (l, ol) ∈ news₁ → Fr h₀ env.locals h m₁ → News h₀ env.locals h news₁ → Q .next { s with heap := h, toks := tk }) :
    wpAny (model prog w) A (pyIter (.ref l)) (fun it s₂ => LoopAtV prog w A h₀ env x body Q E it s₂) E s := by
  have hlt : l < s.heap.objs.size := Heap.lt_size (N _ hm).1
  have hne : l ≠ s.heap.objs.size := Nat.ne_of_lt hlt
  have hlL : l ≠ env.locals := (N _ hm).2.1
  have hLf : env.locals ∉ [s.heap.objs.size, l] := fun hm => by
    rcases List.mem_cons.mp hm with e | hm
    · exact absurd F.ns.lt (e ▸ Nat.lt_irrefl _)
    · exact hlL (List.mem_singleton.mp hm).symm
  have hfp : ∀ b ∈ [s.heap.objs.size, l], b = s.heap.objs.size ∨ ∃ o, (b, o) ∈ [(l, ol)] := fun b hb => by
    rcases List.mem_cons.mp hb with e | hb
    · exact .inl e
    · exact .inr ⟨ol, by rw [List.mem_singleton.mp hb]; exact .head _⟩
  have hnw : ∀ p ∈ news, p.1 ≠ s.heap.objs.size := fun p hp => Nat.ne_of_lt (Heap.lt_size (N p hp).1)
  have hsrc : ∀ p ∈ [(l, ol)], p ∈ news := fun p hp => by rw [List.mem_singleton.mp hp]; exact hm
  have N' : ∀ o, News h₀ env.locals (s.heap.push o) news := fun o p hp => ⟨Heap.get?_push_of_some _ (N p hp).1, (N p hp).2⟩
  rcases hc with hc | hc
  · have hl : s.heap.IsList l vs.toArray := ⟨ol, (N _ hm).1, hc, n, hd⟩
    refine wpAny_pyIter_list hl ?_
    exact loop_gen (src := [(l, ol)]) J (Walks.list hh s.heap.objs.size l hne vs.toArray) hfp (fun i h st => let ⟨o, ho, _⟩ := st.1; ⟨o, ho⟩) hLf (next_is_new F) hnw hsrc
      ⟨⟨_, Heap.get?_push_size _ rfl, rfl, rfl⟩, hl.at fun o e => Heap.get?_push_of_some _ e⟩ (F.push _) (N' _) hj
      (fun i v m₁ news₁ h tk oI hi hP hJ hs ho F₁ N₁ => turn i v m₁ news₁ h tk _ oI (by simpa using hP) hJ (hs _ (.head _)) ho F₁ N₁)
      (fun m₁ news₁ h tk hJ hs F₁ N₁ => done m₁ news₁ h tk (by simpa using hJ) (hs _ (.head _)) F₁ N₁)
  · have hl : s.heap.IsTuple l vs.toArray := ⟨ol, (N _ hm).1, hc, n, hd⟩
    refine wpAny_pyIter_tuple hl ?_
    exact loop_gen (src := [(l, ol)]) J (Walks.tuple hh s.heap.objs.size l hne vs.toArray) hfp (fun i h st => let ⟨o, ho, _⟩ := st.1; ⟨o, ho⟩) hLf (next_is_new F) hnw hsrc
      ⟨⟨_, Heap.get?_push_size _ rfl, rfl, rfl⟩, hl.at fun o e => Heap.get?_push_of_some _ e⟩ (F.push _) (N' _) hj
      (fun i v m₁ news₁ h tk oI hi hP hJ hs ho F₁ N₁ => turn i v m₁ news₁ h tk _ oI (by simpa using hP) hJ (hs _ (.head _)) ho F₁ N₁)
      (fun m₁ news₁ h tk hJ hs F₁ N₁ => done m₁ news₁ h tk (by simpa using hJ) (hs _ (.head _)) F₁ N₁)

/-- a loop over a range, any invariant over the frame's map and the ledger -/
theorem iter_rng {r : Addr} {a₀ b₀ : Int} {t₀ u₀ v₀ : Tok} {n : Nat} {m₀ : Str → Option Value} {news : List (Addr × Obj)} (J : Nat → (Str → Option Value) → List (Addr × Obj) → Prop)
    (hh : A.handled = none) (hr : IsRange s.heap r a₀ b₀ 1 t₀ u₀ v₀) (hsmall : Builtin.Range.small a₀ b₀ 1 = true) (hn : Builtin.Range.rangeSize a₀ b₀ 1 = (n : Int)) (F : Fr h₀ env.locals s.heap m₀) (N : News h₀ env.locals s.heap news) (hj : J 0 m₀ news)
    (turn : ∀ (i : Nat) v m₁ news₁ h tk I oI, i < n → J i m₁ news₁ → (∀ p ∈ news₁, p.1 ≠ I) → Fr h₀ env.locals h (fun y => if y = x then some v else m₁ y) → News h₀ env.locals h ((I, oI) :: news₁) →
      wpAny (model prog w) A (execs body env) (GPost h₀ env.locals I oI [] (J (i + 1)) { s with heap := h, toks := tk } Q) E { s with heap := h, toks := tk })
    (done : ∀ m₁ news₁ h tk, J n m₁ news₁ → Fr h₀ env.locals h m₁ → News h₀ env.locals h news₁ → Q .next { s with heap := h, toks := tk }) :
    wpAny (model prog w) A (pyIter (.ref r)) (fun it s₂ => LoopAtV prog w A h₀ env x body Q E it s₂) E s := by
  refine wpAny_pyIter_range hr hsmall ?_
  exact loop_gen (src := []) J (LCg.range_walks hh a₀ n) (fun b hb => .inl (List.mem_singleton.mp hb)) (fun i h st => ⟨_, st⟩) (fun hm => absurd F.ns.lt ((List.mem_singleton.mp hm) ▸ Nat.lt_irrefl _)) (next_is_new F)
    (fun p hp => Nat.ne_of_lt (Heap.lt_size (N p hp).1)) (fun p hp => nomatch hp) (by show IsRangeIter _ _ _ _ _; rw [hn]; simpa using Heap.get?_push_size _ rfl) (F.push _) (fun p hp => ⟨Heap.get?_push_of_some _ (N p hp).1, (N p hp).2⟩) hj
    (fun i v m₁ news₁ h tk oI hi hP hJ hs ho F₁ N₁ => turn i v m₁ news₁ h tk _ oI hi hJ ho F₁ N₁) (fun m₁ news₁ h tk hJ hs F₁ N₁ => done m₁ news₁ h tk hJ F₁ N₁)
theorem map_ts {x y : Str} {ts : List Str} {m₁ m₀ : Str → Option Value} {v a : Value} (ha : m₁ y = some a) (hm : ∀ z, z ≠ x → z ≠ y → ts.contains z = false → m₁ z = m₀ z) :
    (fun z => if z = x then some v else m₁ z) = fun z => if z = x then some v else if z = y then some a else if ts.contains z = true then m₁ z else m₀ z := by
  funext z
  by_cases h1 : z = x
  · simp [h1]
  · simp only [if_neg h1]
    by_cases h2 : z = y
    · subst h2; simp [ha]
    · simp only [if_neg h2]
      cases h3 : ts.contains z with
      | true => simp
      | false => simp only [Bool.false_eq_true, if_false]; exact hm z h1 h2 h3
theorem done_ts {x y : Str} {ts : List Str} {m₁ m₀ : Str → Option Value} {a : Value} (ha : m₁ y = some a) (hm : ∀ z, z ≠ x → z ≠ y → ts.contains z = false → m₁ z = m₀ z) :
    (fun z => if z = x then m₁ z else if z = y then some a else if ts.contains z = true then m₁ z else m₀ z) = m₁ := by
  funext z
  by_cases h1 : z = x
  · simp [h1]
  · simp only [if_neg h1]
    by_cases h2 : z = y
    · subst h2; simp [ha]
    · simp only [if_neg h2]
      cases h3 : ts.contains z with
      | true => simp
      | false => simp only [Bool.false_eq_true, if_false]; exact (hm z h1 h2 h3).symm
/-- one stored name y, whose values R tells; the names ts are forgotten; the ledger stays -/
theorem iter_one {l : Addr} {ol : Obj} {vs : List Value} {n : Nat} {m₀ : Str → Option Value} {news : List (Addr × Obj)} (y : Str) (ts : List Str) (R : Nat → Value → Prop) {v₀ : Value}
    (hh : A.handled = none) (hm : (l, ol) ∈ news) (hc : ol.cls = .type "list" ∨ ol.cls = .type "tuple") (hd : ol.data = .seq vs.toArray n) (F : Fr h₀ env.locals s.heap m₀) (N : News h₀ env.locals s.heap news) (hy : m₀ y = some v₀) (hj : R 0 v₀)
    (turn : ∀ (i : Nat) v a (u : Str → Option Value) h tk I oI, vs[i]? = some v → R i a → (∀ p ∈ news, p.1 ≠ I) → Fr h₀ env.locals h (fun z => if z = x then some v else if z = y then some a else if ts.contains z = true then u z else m₀ z) → News h₀ env.locals h ((I, oI) :: news) →
      wpAny (model prog w) A (execs body env) (GPost h₀ env.locals I oI [(l, ol)] (fun m' nx => nx = news ∧ (∃ a', m' y = some a' ∧ R (i + 1) a') ∧ ∀ z, z ≠ x → z ≠ y → ts.contains z = false → m' z = m₀ z) { s with heap := h, toks := tk } Q) E { s with heap := h, toks := tk })
    (done : ∀ (u : Str → Option Value) a h tk, R vs.length a → Fr h₀ env.locals h (fun z => if z = x then u z else if z = y then some a else if ts.contains z = true then u z else m₀ z) → News h₀ env.locals h news → Q .next { s with heap := h, toks := tk }) :
    wpAny (model prog w) A (pyIter (.ref l)) (fun it s₂ => LoopAtV prog w A h₀ env x body Q E it s₂) E s := by
  refine iter_seq (fun i m nx => nx = news ∧ (∃ a, m y = some a ∧ R i a) ∧ ∀ z, z ≠ x → z ≠ y → ts.contains z = false → m z = m₀ z) hh hm hc hd F N ⟨rfl, ⟨v₀, hy, hj⟩, fun _ _ _ _ => rfl⟩ ?_ ?_
  · rintro i v m₁ nx h tk I oI hv ⟨rfl, ⟨a, ha, hR⟩, hz⟩ _ ho F₁ N₁
    rw [map_ts ha hz] at F₁
    exact turn i v a m₁ h tk I oI hv hR ho F₁ N₁
  · rintro m₁ nx h tk ⟨rfl, ⟨a, ha, hR⟩, hz⟩ _ F₁ N₁
    refine done m₁ a h tk hR ?_ N₁
    rw [done_ts ha hz]; exact F₁
theorem gp_one {L I l : Addr} {oI ol : Obj} {news all : List (Addr × Obj)} {y : Str} {ts : List Str} {R : Value → Prop} {m₀ m' : Str → Option Value} {a' : Value} {s₁ : Shared} {h' : Heap} {tk : Nat}
    (F : Fr h₀ L h' m') (N : News h₀ L h' all) (sub : ∀ p ∈ (I, oI) :: news, p ∈ all) (off : ∀ p ∈ news, p.1 ≠ I) (hs : (l, ol) ∈ news) (ha : m' y = some a') (hR : R a') (hz : ∀ z, z ≠ x → z ≠ y → ts.contains z = false → m' z = m₀ z) :
    GPost h₀ L I oI [(l, ol)] (fun m' nx => nx = news ∧ (∃ a', m' y = some a' ∧ R a') ∧ ∀ z, z ≠ x → z ≠ y → ts.contains z = false → m' z = m₀ z) s₁ Q .next { s₁ with heap := h', toks := tk } :=
  GEnd.intro F N news sub off (fun p hp => by rw [List.mem_singleton.mp hp]; exact hs) ⟨rfl, ⟨a', ha, hR⟩, hz⟩
theorem end_ret {L : Addr} {news all : List (Addr × Obj)} {m' : Str → Option Value} {s₁ : Shared} {h' : Heap} {tk : Nat} {v v' : Int} {t : Tok}
    (ret : ∀ t h' tk' m', Fr h₀ L h' m' → News h₀ L h' news → Q (.ret (.int v t)) { s₁ with heap := h', toks := tk' }) (F : Fr h₀ L h' m') (N : News h₀ L h' all) (sub : ∀ p ∈ news, p ∈ all) (e : v' = v) :
    Q (.ret (.int v' t)) { s₁ with heap := h', toks := tk } := by
  subst e; exact ret t h' tk m' F fun p hp => N p (sub p hp)
end
section
variable {prog : Program} {w : World} {A : Around} {s : Shared} {h₀ : Heap} {L : Addr} {m : Str → Option Value} {env : Env}
theorem comp_ind {elt : PySem.Expr} {x : Str} {scope : Scope} {cl : List (Str × Addr)} {S : List (Addr × Obj) → Prop} {P : Nat → Value → Prop} {Fin : List Value → List (Addr × Obj) → Prop} {n : Nat} {news : List (Addr × Obj)} (C : Nat → List Value → List (Addr × Obj) → Prop)
    (h0 : C 0 [] news) (fin : ∀ ys nw, C n ys nw → Fin ys nw)
    (turn : ∀ i ys nw, i < n → C i ys nw → ∀ v I oI C' oC D m₂ h tk (E' : Value → Shared → Prop), P i v → LCg.NsObj oC m₂ → m₂ x = some v → Fr h₀ L h m → News h₀ L h ((I, oI) :: (C', oC) :: (D, LCg.lst ys) :: nw) → LCg.Off3 I C' D nw → ((@Ne Nat I C') ∧ (@Ne Nat I D) ∧ (@Ne Nat C' D)) →
      wpAny (model prog w) A (eval elt (compEnvC scope cl C' env)) (LCg.CompEnd h₀ L m { s with heap := h, toks := tk } I oI C' oC D (LCg.lst ys) S (fun y nw' => C (i + 1) (ys ++ [y]) nw')) E' { s with heap := h, toks := tk }) :
    LCg.CompRest prog w A h₀ L m env elt x scope cl s S P Fin n 0 [] news := by
  have key : ∀ k i ys nw, i + k = n → C i ys nw → LCg.CompRest prog w A h₀ L m env elt x scope cl s S P Fin k i ys nw := by
    intro k
    induction k with
    | zero =>
      intro i ys nw e hc
      have e' : i = n := by omega
      subst e'
      exact LCg.CompRest.zero (fin _ _ hc)
    | succ k ih =>
      intro i ys nw e hc
      refine LCg.CompRest.succ fun v I oI C' oC D m₂ h tk E' hP hC hx F N off ne => ?_
      refine wpAny_mono (turn i ys nw (by omega) hc v I oI C' oC D m₂ h tk E' hP hC hx F N off ne) (fun y s₂ p => ?_) fun _ _ e => e
      obtain ⟨h', tk', news', e1, F', N', o', hS, r⟩ := p
      exact ⟨h', tk', news', e1, F', N', o', hS, ih (i + 1) _ _ (by omega) r⟩
  exact key n 0 [] news (by omega) h0
end
end
section
open PyProof.Rows.LCg
def Off4 (I J C D : Addr) (l : List (Addr × Obj)) : Prop := ∀ p ∈ l, p.1 ≠ I ∧ p.1 ≠ J ∧ p.1 ≠ C ∧ p.1 ≠ D
def EnEnd (h₀ : Heap) (L : Addr) (m : Str → Option Value) (s : Shared) (e : Addr) (oE : Obj) (it : Addr) (oI : Obj) (C : Addr) (oC : Obj) (D : Addr) (oD : Obj) (P : Value → List (Addr × Obj) → Prop) (y : Value) (s₂ : Shared) : Prop :=
  ∃ h' tk' nw', s₂ = { s with heap := h', toks := tk' } ∧ Fr h₀ L h' m ∧ News h₀ L h' ((e, oE) :: (it, oI) :: (C, oC) :: (D, oD) :: nw') ∧ Off4 e it C D nw' ∧ P y nw'
theorem EnEnd.intro {h₀ : Heap} {L : Addr} {m : Str → Option Value} {s : Shared} {e it C D : Addr} {oE oI oC oD : Obj} {P : Value → List (Addr × Obj) → Prop} {y : Value} {h' : Heap} {tk' : Nat} {all : List (Addr × Obj)} (F : Fr h₀ L h' m) (N : News h₀ L h' all) (nw' : List (Addr × Obj))
    (sub : ∀ p ∈ (e, oE) :: (it, oI) :: (C, oC) :: (D, oD) :: nw', p ∈ all) (off : Off4 e it C D nw') (hp : P y nw') : EnEnd h₀ L m s e oE it oI C oC D oD P y { s with heap := h', toks := tk' } :=
  ⟨h', tk', nw', rfl, F, fun p q => N p (sub p q), off, hp⟩
def EnSrc (prog : Program) (w : World) (A : Around) (h₀ : Heap) (L : Addr) (m : Str → Option Value) (env : Env) (elt : PySem.Expr) (x₁ x₂ x₃ : Str) (scope : Scope) (cl : List (Str × Addr)) (Fin : Shared → List Value → List (Addr × Obj) → Prop) (xv : Value) (s : Shared) : Prop :=
  ∃ (e it l : Addr) (ol : Obj) (items : Array Value) (k : Nat) (news : List (Addr × Obj)) (Cn : Nat → List Value → List (Addr × Obj) → Prop),
    xv = .ref e ∧ A.handled = none ∧ IsEnum s.heap e it 0 .none ∧ s.heap.IsListIter it l 0 ∧ Fr h₀ L s.heap m ∧ News h₀ L s.heap news ∧ ol.cls = .type "list" ∧ ol.data = .seq items k ∧ items.size ≤ sizeLine ∧
    h₀.get? e = none ∧ h₀.get? it = none ∧ e ≠ L ∧ it ≠ L ∧ e ≠ it ∧ l ≠ e ∧ l ≠ it ∧ (∀ p ∈ news, p.1 ≠ e ∧ p.1 ≠ it) ∧ Cn 0 [] news ∧ (∀ i ys nw, Cn i ys nw → (l, ol) ∈ nw) ∧
    (∀ i ys nw, i < items.size → Cn i ys nw → ∃ (t : Addr) (ot : Obj) (v₂ v₃ : Value) (nt : Nat), items[i]? = some (.ref t) ∧ (t, ot) ∈ nw ∧ ot.cls = .type "tuple" ∧ ot.data = .seq #[v₂, v₃] nt ∧
      ∀ oE oI oC C D u m₂ h tk (E' : Value → Shared → Prop), NsObj oC m₂ → m₂ x₁ = some (.int (i : Int) u) → m₂ x₂ = some v₂ → m₂ x₃ = some v₃ → Fr h₀ L h m → News h₀ L h ((e, oE) :: (it, oI) :: (C, oC) :: (D, lst ys) :: nw) → Off4 e it C D nw →
        ((@Ne Nat e it) ∧ (@Ne Nat e C) ∧ (@Ne Nat e D) ∧ (@Ne Nat it C) ∧ (@Ne Nat it D) ∧ (@Ne Nat C D)) →
        wpAny (model prog w) A (eval elt (compEnvC scope cl C env)) (EnEnd h₀ L m s e oE it oI C oC D (lst ys) (fun y nw' => Cn (i + 1) (ys ++ [y]) nw')) E' { s with heap := h, toks := tk }) ∧
    ∀ ys nw, Cn items.size ys nw → Fin s ys nw

section
variable {prog : Program} {w : World} {A : Around} {E : Value → Shared → Prop} {s : Shared} {h₀ : Heap} {L : Addr} {m : Str → Option Value} {env : Env}
theorem but2 {h h' : Heap} {e it : Addr} {news : List (Addr × Obj)} (N : News h₀ L h news) (hk : ∀ b o, b ∉ [e, it] → h.get? b = some o → h'.get? b = some o) (off : ∀ p ∈ news, p.1 ≠ e ∧ p.1 ≠ it) : News h₀ L h' news :=
  fun p hp => ⟨hk _ _ (by have := off p hp; simp [this.1, this.2]) (N p hp).1, (N p hp).2⟩
theorem frbut2 {h h' : Heap} {e it : Addr} (F : Fr h₀ L h m) (hk : ∀ b o, b ∉ [e, it] → h.get? b = some o → h'.get? b = some o) (h1 : e ≠ L) (h2 : it ≠ L) (he : h₀.get? e = none) (hi : h₀.get? it = none) : Fr h₀ L h' m :=
  ⟨F.ns.at' fun o q => hk L o (by simp [Ne.symm h1, Ne.symm h2]) q, fun b o q => hk b o (fun hm => by
    rcases List.mem_cons.mp hm with r | hm
    · rw [r, he] at q; cases q
    · rw [List.mem_singleton.mp hm, hi] at q; cases q) (F.keep b o q), F.above⟩
theorem ListComp_E {elt iter : PySem.Expr} {x₁ x₂ x₃ : Str} {p1 p2 p3 tp tp2 : Pos} {k1 k2 : Nat} {scope : Scope} {cl : List (Str × Addr)} {pos : Pos} {Q : Value → Shared → Prop} (F₀ : Fr h₀ L s.heap m)
    (hclos : closureFor scope env = pure cl) (hcell : ∀ y ∈ scope.names, y.2 ≠ .cell) (hkind : scope.kind = .function)
    (hnames : ∀ y ∈ scope.names, y.2 = .local → scope.names.lookup y.1 = some .local) (hx₁ : scope.names.lookup x₁ = some .local) (hx₂ : scope.names.lookup x₂ = some .local) (hx₃ : scope.names.lookup x₃ = some .local) (h12 : x₁ ≠ x₂) (h13 : x₁ ≠ x₃) (h23 : x₂ ≠ x₃)
    (h : wpAny (model prog w) A (eval iter env) (EnSrc prog w A h₀ L m env elt x₁ x₂ x₃ scope cl (fun s₂ => FinE h₀ L m s₂ Q)) E s)
    (hs : ∀ x, foldedSetIterable iter env x = pure x := by intro _; rfl) :
    wpAny (model prog w) A (eval (.ListComp elt [⟨.Tuple [.Name x₁ p1, .Tuple [.Name x₂ p2, .Name x₃ p3] k2 tp2] k1 tp, iter, [], 0⟩] scope pos) env) Q E s := by
  rw [eval_ListComp]
  refine wpAny_comprehension_free (use := none) rfl hs hclos hkind hnames (wpAny_mono h (fun xv s₂ h₁ => ?_) fun _ _ e => e)
  obtain ⟨e, it, l, ol, items, kk, news, Cn, rfl, hh, hE, hI, F, N, hcls, hdat, hsz, he₀, hi₀, heL, hiL, hei, hle, hli, off, hC0, hCl, turn, fin⟩ := h₁
  refine wpAny_pyIter_enum hE ?_
  have hml := hCl _ _ _ hC0
  have hl : s₂.heap.IsList l items := ⟨ol, (N _ hml).1, hcls, kk, hdat⟩
  have W := WalksT.enumerate (prog := prog) (w := w) hh e it l hei hle hli items
  have hst : (∃ old, IsEnum s₂.heap e it ((0 : Nat) : Int) old) ∧ s₂.heap.IsListIter it l 0 ∧ s₂.heap.IsList l items := ⟨⟨_, hE⟩, hI, hl⟩
  refine wpAny_newObj_type (wpAny_newFunctionEnv hcell (by intro y hy; simp at hy) (fun h₁ hns₁ hsb₁ => ?_) hkind)
  dsimp only at hns₁ hsb₁ ⊢
  generalize hH2 : s₂.heap.push { cls := .type "list", dict := none, data := .seq ([] : List Value).toArray } = H2 at hns₁ hsb₁ ⊢
  have hC : H2.objs.size = s₂.heap.objs.size + 1 := by rw [← hH2, Heap.size_push]
  have hDC : s₂.heap.objs.size ≠ H2.objs.size := by rw [hC]; exact Nat.ne_of_lt (Nat.lt_succ_self _)
  have below : ∀ b, b < s₂.heap.objs.size → b ≠ H2.objs.size ∧ b ≠ s₂.heap.objs.size := fun b hb => ⟨by rw [hC]; exact Nat.ne_of_lt (Nat.lt_succ_of_lt hb), Nat.ne_of_lt hb⟩
  have helt : e < s₂.heap.objs.size := Heap.lt_size hE
  have hilt : it < s₂.heap.objs.size := by obtain ⟨_, q, _⟩ := hI; exact Heap.lt_size q
  have hllt : l < s₂.heap.objs.size := Heap.lt_size (N _ hml).1
  have old : ∀ b o, s₂.heap.get? b = some o → h₁.get? b = some o := fun b o q => hsb₁.extBut b o (below b (Heap.lt_size q)).1 (Heap.get?_push_of_some _ (hH2 ▸ Heap.get?_push_of_some _ q))
  have hacc : h₁.get? s₂.heap.objs.size = some (lst []) := hsb₁.extBut _ _ hDC (Heap.get?_push_of_some _ (hH2 ▸ Heap.get?_push_size _ rfl))
  have hst₁ := W.frame _ _ _ hst fun b _ o q => old b o q
  have fresh₀ : ∀ a, s₂.heap.objs.size ≤ a → h₀.get? a = none := fun a ha => by
    cases q : h₀.get? a with
    | none => rfl
    | some o' => exact absurd (Heap.lt_size (F.keep a o' q)) (Nat.not_lt.mpr ha)
  have hD₀ : h₀.get? s₂.heap.objs.size = none := fresh₀ _ (Nat.le_refl _)
  have hC₀ : h₀.get? H2.objs.size = none := fresh₀ _ (by rw [hC]; exact Nat.le_succ _)
  have hLlt : L < s₂.heap.objs.size := F.ns.lt
  have hDL : s₂.heap.objs.size ≠ L := Ne.symm (below L hLlt).2
  have hCL : H2.objs.size ≠ L := Ne.symm (below L hLlt).1
  have hCe : e ≠ H2.objs.size := (below e helt).1
  have hDe : e ≠ s₂.heap.objs.size := (below e helt).2
  have hCi : it ≠ H2.objs.size := (below it hilt).1
  have hDi : it ≠ s₂.heap.objs.size := (below it hilt).2
  have hDf : s₂.heap.objs.size ∉ [e, it, l] := fun hm => by
    rcases List.mem_cons.mp hm with q | hm
    · exact hDe q.symm
    · rcases List.mem_cons.mp hm with q | hm
      · exact hDi q.symm
      · exact (below l hllt).2 (List.mem_singleton.mp hm).symm
  have hCf : H2.objs.size ∉ [e, it, l] := fun hm => by
    rcases List.mem_cons.mp hm with q | hm
    · exact hCe q.symm
    · rcases List.mem_cons.mp hm with q | hm
      · exact hCi q.symm
      · exact (below l hllt).1 (List.mem_singleton.mp hm).symm
  have off₀ : Off4 e it H2.objs.size s₂.heap.objs.size news := fun p hp => ⟨(off p hp).1, (off p hp).2, (below _ (Heap.lt_size (N p hp).1)).1, (below _ (Heap.lt_size (N p hp).1)).2⟩
  have loop : ∀ s₃ : Shared, s₃ = { s₂ with heap := h₁, toks := s₂.toks + ([] : List (Str × Value)).length } →
      codeAny (model prog w) A (.compLoop (.ListComp elt [⟨.Tuple [.Name x₁ p1, .Tuple [.Name x₂ p2, .Name x₃ p3] k2 tp2] k1 tp, iter, [], 0⟩] scope pos) 0 (.ref e) (.ref s₂.heap.objs.size) (compEnvC scope cl H2.objs.size env))
        (compPost (model prog w) A E none Q (.ref s₂.heap.objs.size) H2.objs.size) s₃ := by
    rintro s₃ rfl
    refine PyProof.Rows.LCp.codeAny_compLoop_pair
      (fun k s' => ∃ h' tk i ys m' news', s' = { s₂ with heap := h', toks := tk } ∧ i ≤ items.size ∧ k = items.size + 1 - i ∧ ys.length = i ∧ ((∃ old, IsEnum h' e it ((i : Nat) : Int) old) ∧ h'.IsListIter it l i ∧ h'.IsList l items) ∧ Fr h₀ L h' m ∧ h'.Ns H2.objs.size m' ∧ News h₀ L h' ((s₂.heap.objs.size, lst ys) :: news') ∧
        Off4 e it H2.objs.size s₂.heap.objs.size news' ∧ Cn i ys news') ?_ (items.size + 1)
      ⟨h₁, _, 0, [], _, news, rfl, Nat.zero_le _, rfl, rfl, hst₁, F.keeps old, hns₁, fun p hp => ?_, off₀, hC0⟩
    · rintro k s' ⟨h', tk, i, ys, m', news', rfl, hi, rfl, hyl, hst', F', hn', N', off', hCi'⟩
      by_cases hlt : i < items.size
      · obtain ⟨t, ot, v₂, v₃, nt, hit, hmt, hct, hdt, R⟩ := turn i ys news' hlt hCi'
        refine W.item i _ _ _ hlt hst' fun T vals h₂ tk₂ hPv hTs hT hMid hk₂ => ?_
        obtain ⟨u, xx, hxx, rfl⟩ := hPv
        rw [hit] at hxx
        obtain rfl := Option.some.inj hxx
        refine W.go _ _ _ i T _ _ _ hMid fun h₃ hst₃ hk₃ => ?_
        have up : ∀ b o, b ∉ [e, it] → h'.get? b = some o → h₃.get? b = some o := fun b o hb q => hk₃ b o hb (hk₂ b o hb q)
        have hTw := W.apart _ _ _ hMid
        have hT₃ : IsTup h₃ T #[.int (i : Int) u, .ref t] := let ⟨o, q, r⟩ := hT; ⟨o, hk₃ T o hTw q, r⟩
        have N₃ : News h₀ L h₃ ((s₂.heap.objs.size, lst ys) :: news') := but2 N' up fun p hp => by
          rcases List.mem_cons.mp hp with rfl | hp
          · exact ⟨Ne.symm hDe, Ne.symm hDi⟩
          · exact ⟨(off' p hp).1, (off' p hp).2.1⟩
        have F₃ : Fr h₀ L h₃ m := frbut2 F' up heL hiL he₀ hi₀
        have hn₃ : h₃.Ns H2.objs.size m' := hn'.at' fun o q => up _ o (by simp [Ne.symm hCe, Ne.symm hCi]) q
        have htt : IsTup h₃ t #[v₂, v₃] := ⟨ot, (N₃ _ (.tail _ hmt)).1, hct, nt, hdt⟩
        refine assign_Tuple_tuple hh hT₃ rfl rfl fun h₄ he₄ => ?_
        have k₄ : ∀ b o, h₃.get? b = some o → h₄.get? b = some o := fun b o q => he₄ b o (Nat.ne_of_lt (Heap.lt_size q)) q
        refine assignInOrder_cons (wpAny_assign_Name (wpAny_storeName_local (lookup_relabel_local hx₁) (hn₃.at' fun o q => k₄ _ o q) (fun h₅ hn₅ hs₅ => ?_) (by simp [compEnvC, relabel, hkind])))
        have htt₅ : IsTup h₅ t #[v₂, v₃] := by
          obtain ⟨o, q, r⟩ := htt
          exact ⟨o, hs₅.extBut t o (off' _ hmt).2.2.1 (k₄ _ _ q), r⟩
        refine assignInOrder_cons ?_
        refine assign_Tuple_tuple (elts := [.Name x₂ p2, .Name x₃ p3]) (x1 := k2) (pos := tp2) hh htt₅ rfl rfl fun h₆ he₆ => ?_
        have k₆ : ∀ b o, h₅.get? b = some o → h₆.get? b = some o := fun b o q => he₆ b o (Nat.ne_of_lt (Heap.lt_size q)) q
        refine assignInOrder_cons (wpAny_assign_Name (wpAny_storeName_local (lookup_relabel_local hx₂) (hn₅.at' fun o q => k₆ _ o q) (fun h₇ hn₇ hs₇ => ?_) (by simp [compEnvC, relabel, hkind])))
        refine assignInOrder_cons (wpAny_assign_Name (wpAny_storeName_local (lookup_relabel_local hx₃) hn₇ (fun h₈ hn₈ hs₈ => ?_) (by simp [compEnvC, relabel, hkind])))
        refine assignInOrder_nil (assignInOrder_nil ?_)
        have k₈ : ∀ b o, b ≠ H2.objs.size → h₃.get? b = some o → h₈.get? b = some o := fun b o hb q => hs₈.extBut b o hb (hs₇.extBut b o hb (k₆ b o (hs₅.extBut b o hb (k₄ b o q))))
        have hst₈ := W.frame _ _ _ hst₃ fun b hb o q => k₈ b o (fun r => hCf (r ▸ hb)) q
        obtain ⟨⟨oldE, heE⟩, hiI, _⟩ := hst₈
        obtain ⟨oI, heI, rI⟩ := id hiI
        obtain ⟨oC, heC, hoC⟩ := ns_obj hn₈
        have F₈ : Fr h₀ L h₈ m := (((((F₃.keeps k₄).change hs₅ hCL hC₀).keeps k₆).change hs₇ hCL hC₀).change hs₈ hCL hC₀)
        have N₈ : News h₀ L h₈ ((e, _) :: (it, oI) :: (H2.objs.size, oC) :: (s₂.heap.objs.size, lst ys) :: news') := fun p hp => by
          rcases List.mem_cons.mp hp with rfl | hp
          · exact ⟨heE, heL, he₀⟩
          · rcases List.mem_cons.mp hp with rfl | hp
            · exact ⟨heI, hiL, hi₀⟩
            · rcases List.mem_cons.mp hp with rfl | hp
              · exact ⟨heC, hCL, hC₀⟩
              · have z := N₃ p hp
                refine ⟨k₈ _ _ ?_ z.1, z.2⟩
                rcases List.mem_cons.mp hp with rfl | hp
                · exact hDC
                · exact (off' p hp).2.2.1
        refine wpAny_mono (R _ oI oC H2.objs.size s₂.heap.objs.size u _ h₈ _ _ hoC (by simp [h12, h13]) (by simp [h23]) (by simp) F₈ N₈ off' ⟨hei, hCe, hDe, hCi, hDi, Ne.symm hDC⟩) (fun y s₄ h₄' => ?_) fun _ _ q => q
        obtain ⟨h₉, tk₉, news₉, rfl, F₉, N₉, off₉, hC₉⟩ := h₄'
        have zE := (N₉ _ (.head _)).1
        have zI := (N₉ _ (.tail _ (.head _))).1
        have zC := (N₉ _ (.tail _ (.tail _ (.head _)))).1
        have zD := (N₉ _ (.tail _ (.tail _ (.tail _ (.head _))))).1
        have N₉' : News h₀ L h₉ news₉ := fun p hp => N₉ p (.tail _ (.tail _ (.tail _ (.tail _ hp))))
        have hml₉ := hCl _ _ _ hC₉
        refine append_at (hsz := by show ys.toArray.size ≤ sizeLine; rw [List.size_toArray, hyl]; exact Nat.le_trans hi hsz) zD fun h₁₀ hs₁₀ hD₁₀ => ?_
        refine ⟨items.size + 1 - (i + 1), by omega, h₁₀, tk₉, i + 1, ys ++ [y], _, news₉, rfl, hlt, rfl, by rw [List.length_append, List.length_singleton, hyl], ⟨⟨oldE, ?_⟩, ⟨oI, hs₁₀.extBut _ _ hDi zI, rI⟩, ⟨ol, hs₁₀.extBut _ _ (off₉ _ hml₉).2.2.2 (N₉' _ hml₉).1, hcls, kk, hdat⟩⟩,
          F₉.change hs₁₀ hDL hD₀, (hoC.ns zC).sameBut hs₁₀ (Ne.symm hDC), fun p hp => ?_, off₉, hC₉⟩
        · exact hs₁₀.extBut _ _ hDe zE
        · rcases List.mem_cons.mp hp with rfl | hp
          · exact ⟨hD₁₀.trans (congrArg some (lst_snoc ys y)), hDL, hD₀⟩
          · exact ⟨hs₁₀.extBut _ _ (off₉ p hp).2.2.2 (N₉' p hp).1, (N₉' p hp).2⟩
      · obtain rfl : i = items.size := Nat.le_antisymm hi (Nat.not_lt.mp hlt)
        refine W.done _ _ _ hst' fun h₂ tk₂ hk₂ => ?_
        have F₂ := frbut2 F' hk₂ heL hiL he₀ hi₀
        have N₂ : News h₀ L h₂ ((s₂.heap.objs.size, lst ys) :: news') := but2 N' hk₂ fun p hp => by
          rcases List.mem_cons.mp hp with rfl | hp
          · exact ⟨Ne.symm hDe, Ne.symm hDi⟩
          · exact ⟨(off' p hp).1, (off' p hp).2.1⟩
        refine ⟨m', hn'.at' fun o q => hk₂ _ o (by simp [Ne.symm hCe, Ne.symm hCi]) q, fun h'' hs'' => fin ys news' hCi' _ h'' tk₂ (F₂.change hs'' hCL hC₀) (fun p hp => ?_) ?_⟩
        · refine ⟨hs''.extBut _ _ ?_ (N₂ p hp).1, (N₂ p hp).2⟩
          rcases List.mem_cons.mp hp with rfl | hp
          · exact hDC
          · exact (off' p hp).2.2.1
        · have : ∀ l : List (Addr × Obj), (∀ p ∈ l, p.1 ≠ s₂.heap.objs.size) → Off1 s₂.heap.objs.size l := by
            intro l
            induction l with
            | nil => intro _; trivial
            | cons p r ih => exact fun q => ⟨q p (.head _), ih fun p hp => q p (.tail _ hp)⟩
          exact this _ fun p hp => (off' p hp).2.2.2
    · rcases List.mem_cons.mp hp with rfl | hp
      · exact ⟨hacc, hDL, hD₀⟩
      · exact ⟨old _ _ (N p hp).1, (N p hp).2⟩
  exact codeAny_compStart_list (loop _ rfl) (wpAny_pyIter_enum (old := .none) (old _ _ hE) (loop _ rfl))

/-- enumerate of a list of the ledger's, as a source -/
theorem call_enum {elt : PySem.Expr} {x₁ x₂ x₃ : Str} {scope : Scope} {cl : List (Str × Addr)} {Fin : Shared → List Value → List (Addr × Obj) → Prop} {l : Addr} {ol : Obj} {vs : List Value} {k : Nat} {news : List (Addr × Obj)} (Cn : Nat → List Value → List (Addr × Obj) → Prop)
    (hh : A.handled = none) (F : Fr h₀ L s.heap m) (N : News h₀ L s.heap news) (hm : (l, ol) ∈ news) (hcls : ol.cls = .type "list") (hdat : ol.data = .seq vs.toArray k) (hsz : vs.length ≤ sizeLine) (h0 : Cn 0 [] news) (hCl : ∀ i ys nw, Cn i ys nw → (l, ol) ∈ nw)
    (turn : ∀ i ys nw, i < vs.length → Cn i ys nw → ∃ (t : Addr) (ot : Obj) (v₂ v₃ : Value) (nt : Nat), vs[i]? = some (.ref t) ∧ (t, ot) ∈ nw ∧ ot.cls = .type "tuple" ∧ ot.data = .seq #[v₂, v₃] nt ∧
      ∀ e it oE oI oC C D u m₂ h tk (E' : Value → Shared → Prop), NsObj oC m₂ → m₂ x₁ = some (.int (i : Int) u) → m₂ x₂ = some v₂ → m₂ x₃ = some v₃ → Fr h₀ L h m → News h₀ L h ((e, oE) :: (it, oI) :: (C, oC) :: (D, lst ys) :: nw) → Off4 e it C D nw →
        ((@Ne Nat e it) ∧ (@Ne Nat e C) ∧ (@Ne Nat e D) ∧ (@Ne Nat it C) ∧ (@Ne Nat it D) ∧ (@Ne Nat C D)) →
        wpAny (model prog w) A (eval elt (compEnvC scope cl C env)) (EnEnd h₀ L m s e oE it oI C oC D (lst ys) (fun y nw' => Cn (i + 1) (ys ++ [y]) nw')) E' { s with heap := h, toks := tk })
    (fin : ∀ ys nw h, Cn vs.length ys nw → Fin { s with heap := h } ys nw) :
    wpAny (model prog w) A (call (.type "enumerate") [.ref l]) (EnSrc prog w A h₀ L m env elt x₁ x₂ x₃ scope cl Fin) E s := by
  have hls : s.heap.IsList l vs.toArray := ⟨ol, (N _ hm).1, hcls, k, hdat⟩
  have hllt : l < s.heap.objs.size := Heap.lt_size (N _ hm).1
  have hLlt : L < s.heap.objs.size := F.ns.lt
  refine call_enumerate_list hls fun h' he hit hsz' hk => ?_
  have fresh₀ : ∀ a, s.heap.objs.size ≤ a → h₀.get? a = none := fun a ha => by
    cases q : h₀.get? a with
    | none => rfl
    | some o' => exact absurd (Heap.lt_size (F.keep a o' q)) (Nat.not_lt.mpr ha)
  refine ⟨s.heap.objs.size + 1, s.heap.objs.size, l, ol, vs.toArray, k, news, Cn, rfl, hh, he, hit, F.keeps hk, fun p hp => ⟨hk _ _ (N p hp).1, (N p hp).2⟩, hcls, hdat, by rw [List.size_toArray]; exact hsz, fresh₀ _ (Nat.le_succ _), fresh₀ _ (Nat.le_refl _),
    Nat.ne_of_gt (Nat.lt_succ_of_lt hLlt), Nat.ne_of_gt hLlt, Nat.succ_ne_self _, Nat.ne_of_lt (Nat.lt_succ_of_lt hllt), Nat.ne_of_lt hllt, fun p hp => ⟨Nat.ne_of_lt (Nat.lt_succ_of_lt (Heap.lt_size (N p hp).1)), Nat.ne_of_lt (Heap.lt_size (N p hp).1)⟩, h0, hCl, ?_, ?_⟩
  · intro i ys nw hi hc
    obtain ⟨t, ot, v₂, v₃, nt, q, a, b, c, R⟩ := turn i ys nw (by simpa using hi) hc
    exact ⟨t, ot, v₂, v₃, nt, by simpa using q, a, b, c, fun oE oI oC C D u m₂ h tk E' => R _ _ oE oI oC C D u m₂ h tk E'⟩
  · intro ys nw hc
    exact fin ys nw h' (by simpa using hc)
end
end
local macro_rules | `(tactic| k_room) => `(tactic| ((try simp only [depth_under_make, depth_under_kw, depth_in1, depth_deeper, depth_caller]); (show _ < 1000); (try dsimp only [ktrTop]); omega))
local macro_rules | `(tactic| k_units) => `(tactic| ((try simp only [units_in1, units_deeper, Around.mark_units, units_caller, units_under_make]); (show _ < 9900); (try dsimp only [ktrTop]); omega))
local macro_rules | `(tactic| k_enter) => `(tactic| (refine' code_def ?k1 ?k2 ?k3 ?k4 ?k5 ?kA ?kF ?kK ?k6 ?k7 ?k8 ?k9 ?kB ?_ ?c2 ?c3 ?c4 ?c5; (case kA => first | exact rfl | assumption); (case kF => first | exact rfl | assumption); (case kK => first | exact rfl | assumption); (case k1 => k_asm); (case k2 => k_asm); (case k3 => k_asm); (case k4 => k_asm); (case k5 => k_asm); (case k6 => k_is); (case k7 => k_is); (case k8 => k_room); (case k9 => first | exact BindsTo.of_eq rfl | exact binds_K (by k_in) rfl (by k_is) rfl rfl rfl | fail "k_enter: no rule for these arguments"); (case c5 => decide); (case kB => exact locs rfl); (case c2 => exact rfl); (case c3 => exact rfl); (case c4 => exact rfl); k_whole; intro g' L' h' FG' F' N' B' X' T'; (try dsimp only); (try k_lift B'); (try k_fold)))
local macro_rules | `(tactic| k_mem) => `(tactic| first | with_reducible assumption | exact List.mem_cons_self | (refine' List.mem_cons_of_mem _ ?_; k_mem) | (refine' List.mem_append_right _ ?_; k_mem))
def vw : Program := view PySem.Challenge.pw_pb0254_01 [0, 2, 3, 4, 6, 7, 9, 11, 13, 14, 15, 16, 17, 18, 19, 20, 21]
set_option maxHeartbeats 8000000 in
theorem left : LeftO PySem.Challenge.pw_pb0254_01 vw [Str.ofString "LedgerError", Str.ofString "Token"] (fun s => xlAt vw [] s && recOk (RowW.records PySem.Challenge.rw_pb0254_01.row.toRowW) s) (Hook.obs (kHook KF KA KA_eq)) (Hook.val (kHook KF KA KA_eq)) 4304 := fun w => by
  kernel_rfl!
theorem fillK : (fun (_ : OpenLaw) (_ : Params → Frag) => True) PySem.Challenge.rw_pb0254_01 Mine.KF := by
  k_fill
  trivial
section
/-- one entry of the dict of an object -/
abbrev en (w : World) (k : Str) (t : Tok) (v : Value) : DictEntry := ⟨PyData.keyHash w.params k, .str k t, v⟩
abbrev rdDict (w : World) (t1 t2 t3 : Tok) (tl : Addr) (at_ : Int) (ta : Tok) (nd : Addr) : Obj :=
  dictOf [en w (Str.ofString "tokens") t1 (.ref tl), en w (Str.ofString "at") t2 (.int at_ ta), en w (Str.ofString "named") t3 (.ref nd)] 3
abbrev tkDict (w : World) (t1 t2 t3 t4 : Tok) (k x : Str) (tk tx : Tok) (r : Addr) : Obj :=
  dictOf [en w (Str.ofString "kind") t1 (.str k tk), en w (Str.ofString "worth") t2 (.str x tx), en w (Str.ofString "at") t3 (.ref r), en w (Str.ofString "is_in_a") t4 (.bool false)] 4
inductive TokIn (w : World) (news : List (Addr × Obj)) : Value → Str × Str → Prop
  | mk {a d r : Addr} {t1 t2 t3 t4 tk tx : Tok} {k x : Str} : (a, instObj 282 d) ∈ news → (d, tkDict w t1 t2 t3 t4 k x tk tx r) ∈ news → TokIn w news (.ref a) (k, x)
def TokAll (w : World) (news : List (Addr × Obj)) (vs : List Value) (toks : List (Str × Str)) : Prop :=
  vs.length = toks.length ∧ ∀ (i : Nat) (v : Value) (kx : Str × Str), vs[i]? = some v → toks[i]? = some kx → TokIn w news v kx
def isWord (toks : List (Str × Str)) (i : Int) (word : Str) : Bool := decide (toks[i.toNat]? = some (Str.ofString "word", word))

theorem tok_item {prog : Program} {w : World} {A : Around} {E : Value → Shared → Prop} {s : Shared} {Q : Value → Shared → Prop} {h₀ : Heap} {L tl : Addr} {news rest : List (Addr × Obj)} {vs : List Value} {toks : List (Str × Str)} {n : Nat} {i : Int} {u : Tok} {value slice : PySem.Expr}
    (N : News h₀ L s.heap news) (hl : (tl, listOf vs.toArray n) ∈ news) (hr : ∀ p ∈ rest, p ∈ news) (V : TokAll w rest vs toks) (h0 : 0 ≤ i) (h1 : i < (vs.toArray.size : Int)) (h5 : vs.length < 1000)
    (h : ∀ a d r t1 t2 t3 t4 tk tx k x, toks[i.toNat]? = some (k, x) → News h₀ L s.heap ((a, instObj 282 d) :: (d, tkDict w t1 t2 t3 t4 k x tk tx r) :: news) → Q (.ref a) s)
    (hs : subscripted slice false (.ref tl) (.int i u) = operate [.ref tl, .int i u] (getItem (.ref tl) (.int i u)) := by with_unfolding_all rfl) :
    wpAny (model prog w) A (subscriptTail value slice (.ref tl) (.int i u)) Q E s := by
  rw [List.size_toArray] at h1
  have hlt : i.toNat < vs.length := by omega
  have hlt2 : i.toNat < toks.length := by rw [← V.1]; exact hlt
  have e1 : vs[i.toNat]? = some (vs[i.toNat]'hlt) := List.getElem?_eq_getElem hlt
  have e2 : toks[i.toNat]? = some (toks[i.toNat]'hlt2) := List.getElem?_eq_getElem hlt2
  have hl' := News.isList N hl
  have hv := V.2 _ _ _ e1 e2
  generalize hv1 : vs[i.toNat]'hlt = v at hv e1
  generalize hv2 : toks[i.toNat]'hlt2 = kx at hv e2
  cases hv with
  | @mk a d r t1 t2 t3 t4 tk tx k x ha hd =>
    refine tail_any hl'.typeIs slot_list_getitem.lookup (wpAny_getItem_list hl' h0 (by omega) (by simpa using e1) (h a d r t1 t2 t3 t4 tk tx k x e2 ?_)) hs
    intro p hp
    rcases List.mem_cons.mp hp with rfl | hp
    · exact N _ (hr _ ha)
    · rcases List.mem_cons.mp hp with rfl | hp
      · exact N _ (hr _ hd)
      · exact N _ hp
theorem len_in {prog : Program} {w : World} {A : Around} {E : Value → Shared → Prop} {s : Shared} {Q : Value → Shared → Prop} {h₀ : Heap} {L tl : Addr} {news : List (Addr × Obj)} {vs : List Value} {n : Nat}
    (N : News h₀ L s.heap news) (hl : (tl, listOf vs.toArray n) ∈ news) (h5 : vs.length < 2 ^ 62) (h : Q (.int vs.toArray.size (s.toks + 1)) { s with toks := s.toks + 1 + 1 }) : wpAny (model prog w) A (call (.builtin "len") [.ref tl]) Q E s :=
  len_list (News.isList N hl) (by rw [List.size_toArray]; omega) h
local macro_rules | `(tactic| walk_at "call builtin:len") => `(tactic| (k_here; (with_reducible show wpAny _ _ (call (Value.builtin "len") [Value.ref _]) _ _ _); k_dflt (refine' len_in ?k1 ?k2 ?k3 ?_; (case k1 => k_asm); (case k2 => k_mem); (case k3 => omega); k_whole)))
local macro_rules | `(tactic| walk_at "subscriptTail") => `(tactic| (k_here; (with_reducible show wpAny _ _ (subscriptTail _ _ (Value.ref _) (Value.int _ _)) _ _ _); with_reducible rename TokAll _ _ _ _ => hV9; k_dflt (refine' tok_item ?k1 ?k2 ?k3 hV9 ?k4 ?k5 ?k6 ?_ ?k7; (case k1 => k_asm); (case k2 => k_mem); (case k3 => exact fun p hp => List.Mem.tail _ (List.Mem.tail _ (List.Mem.tail _ hp))); (case k4 => omega); (case k5 => simp only [decide_eq_true_eq] at *; omega); (case k6 => omega); (case k7 => with_unfolding_all rfl); k_whole); intro a9 d9 r9 t1 t2 t3 t4 t5 t6 k9 x9 hx9 N9))

theorem end_bool {h₀ h' : Heap} {L : Addr} {m : Str → Option Value} {news news' : List (Addr × Obj)} {s : Shared} {Q : Value → Shared → Prop} {x y : Bool} {tk' : Nat}
    (hret : ∀ h' tk', Fr h₀ L h' m → News h₀ L h' news → Q (.bool x) { s with heap := h', toks := tk' }) (e : y = x) (F : Fr h₀ L h' m) (N : News h₀ L h' news') (hs : ∀ p ∈ news, p ∈ news') : Q (.bool y) { s with heap := h', toks := tk' } := by
  subst e
  exact hret h' tk' F fun p hp => N p (hs p hp)
theorem isWord_some {toks : List (Str × Str)} {i : Int} {word k x : Str} (h : toks[i.toNat]? = some (k, x)) : isWord toks i word = (k == Str.ofString "word" && x == word) := by
  unfold isWord
  rw [h]
  by_cases h1 : k = Str.ofString "word" <;> by_cases h2 : x = word <;> simp [h1, h2]
theorem isWord_none {toks : List (Str × Str)} {i : Int} {word : Str} {n : Nat} (h : ¬ i < (n : Int)) (e : n = toks.length) : isWord toks i word = false := by
  have : toks[i.toNat]? = none := List.getElem?_eq_none (by omega)
  unfold isWord
  rw [this]
  simp
set_option maxHeartbeats 4000000 in
theorem word_ahead_c {w : World} {p : Program} {loose : List Str} {mean : ExcName → Option Value} {mg mb : Str → Option Value} {prog : Program}
    {dp un : Nat} {gd : Option (List Code)} {cn : Str} {cs : Scope} {a : Addr} {ccd : Value} {cl : List (Str × Addr)} {outer : List Env} {A₀ : Around} {base h₀ : Heap} {L : Addr} {m : Str → Option Value} {s : Shared} {Q E : Value → Shared → Prop}
    {x dx tl nd : Addr} {t1 t2 t3 ta tk tw : Tok} {at_ ahead : Int} {n : Nat} {vs : List Value} {toks : List (Str × Str)} {word : Str} {rest : List (Addr × Obj)}
    (hk : cs.kind = .function) (hd : dp ≤ 750) (hu : un ≤ 400)
    (B : Below A₀ base outer h₀) (F : Fr h₀ L s.heap m) (X : (KF w.params).In h₀) (N : News h₀ L s.heap ((x, instObj 252 dx) :: (dx, rdDict w t1 t2 t3 tl at_ ta nd) :: (tl, listOf vs.toArray n) :: rest)) (T : Top p loose mean mg mb h₀)
    (V : TokAll w rest vs toks) (h1 : 0 ≤ at_) (h2 : at_ < 1000) (h3 : 0 ≤ ahead) (h4 : ahead < 1000) (h5 : vs.length < 1000)
    (ret : ∀ h' tk', Fr h₀ L h' m → News h₀ L h' ((x, instObj 252 dx) :: (dx, rdDict w t1 t2 t3 tl at_ ta nd) :: (tl, listOf vs.toArray n) :: rest) → Q (.bool (isWord toks (at_ + ahead) word)) { s with heap := h', toks := tk' }) :
    wpAny (model prog w) (ktrTop dp un gd cn cs L a ccd cl outer) (call (.ref 28) [.ref x, .int ahead tk, .str word tw]) Q E s := by
  refine wpAny_call ?_
  k_dflt k_enter
  k_steps
  · refine end_bool ret ?_ (by k_asm) (by k_asm) (fun p hp => List.Mem.tail _ (List.Mem.tail _ hp))
    (rename (_ : Option (Str × Str)) = some _ => hx); (rename (_ == _) = true => hk')
    rw [isWord_some hx, hk', Bool.true_and]
  · refine end_bool ret ?_ (by k_asm) (by k_asm) (fun p hp => List.Mem.tail _ (List.Mem.tail _ hp))
    (rename (_ : Option (Str × Str)) = some _ => hx); (rename (_ == _) = false => hk')
    rw [isWord_some hx, hk', Bool.false_and]
  · refine end_bool ret ?_ (by k_asm) (by k_asm) (fun p hp => hp)
    (rename ¬ (_ < _) => hb)
    rw [isWord_none hb (by rw [List.size_toArray]; exact V.1)]
end
section
theorem TokIn.mono {w : World} {a b : List (Addr × Obj)} {v : Value} {kx : Str × Str} (h : TokIn w a v kx) (hs : ∀ p ∈ a, p ∈ b) : TokIn w b v kx := by
  cases h with
  | mk h1 h2 => exact .mk (hs _ h1) (hs _ h2)
theorem TokAll.mono {w : World} {a b : List (Addr × Obj)} {vs : List Value} {toks : List (Str × Str)} (h : TokAll w a vs toks) (hs : ∀ p ∈ a, p ∈ b) : TokAll w b vs toks :=
  ⟨h.1, fun i v kx h1 h2 => (h.2 i v kx h1 h2).mono hs⟩
theorem word_ahead_m {w : World} {p : Program} {loose : List Str} {mean : ExcName → Option Value} {mg mb : Str → Option Value} {prog : Program}
    {dp un : Nat} {gd : Option (List Code)} {cn : Str} {cs : Scope} {a : Addr} {ccd : Value} {cl : List (Str × Addr)} {outer : List Env} {A₀ : Around} {base h₀ : Heap} {L : Addr} {m : Str → Option Value} {s : Shared} {Q E : Value → Shared → Prop}
    {x dx tl nd : Addr} {t1 t2 t3 ta tk tw : Tok} {at_ ahead : Int} {n : Nat} {vs : List Value} {toks : List (Str × Str)} {word : Str} {news rest : List (Addr × Obj)}
    (B : Below A₀ base outer h₀) (F : Fr h₀ L s.heap m) (X : (KF w.params).In h₀) (N : News h₀ L s.heap news) (T : Top p loose mean mg mb h₀) (hk : cs.kind = .function)
    (hx : (x, instObj 252 dx) ∈ news) (hdx : (dx, rdDict w t1 t2 t3 tl at_ ta nd) ∈ news) (htl : (tl, listOf vs.toArray n) ∈ news) (V : TokAll w rest vs toks) (hsub : ∀ p ∈ rest, p ∈ news)
    (h1 : 0 ≤ at_) (h2 : at_ < 1000) (h5 : vs.length < 1000) (hd : dp ≤ 750) (hu : un ≤ 400) (h3 : 0 ≤ ahead) (h4 : ahead < 1000)
    (ret : ∀ h' tk', Fr h₀ L h' m → News h₀ L h' news → Q (.bool (isWord toks (at_ + ahead) word)) { s with heap := h', toks := tk' }) :
    wpAny (model prog w) (ktrTop dp un gd cn cs L a ccd cl outer) (call (.ref 28) [.ref x, .int ahead tk, .str word tw]) Q E s := by
  have N2 : News h₀ L s.heap ((x, instObj 252 dx) :: (dx, rdDict w t1 t2 t3 tl at_ ta nd) :: (tl, listOf vs.toArray n) :: news) := fun p hp => by
    rcases List.mem_cons.mp hp with rfl | hp
    · exact N _ hx
    · rcases List.mem_cons.mp hp with rfl | hp
      · exact N _ hdx
      · rcases List.mem_cons.mp hp with rfl | hp
        · exact N _ htl
        · exact N _ hp
  exact word_ahead_c hk hd hu B F X N2 T (V.mono hsub) h1 h2 h3 h4 h5 fun h' tk' F' N' => ret h' tk' F' fun p hp => N' p (.tail _ (.tail _ (.tail _ hp)))

noncomputable def adv (t : List (Str × Str)) (i : Int) (a : Int) : List Str → Int
  | [] => a
  | x :: r => adv t i (if isWord t (i + a) x then a + 1 else a) r
noncomputable def need (t : List (Str × Str)) (i : Int) (a : Int) : List Str → Option Int
  | [] => some a
  | x :: r => if isWord t (i + a) x then need t i (a + 1) r else none
noncomputable def openFn (t : List (Str × Str)) (i : Int) (neg fault : Bool) (e n l : List Str) : Int :=
  if neg && !isWord t (i + 0) (Str.ofString "NOT") then 0 else
    let a := adv t i (if neg then 1 else 0) e
    if fault && isWord t (i + a) (Str.ofString "OVERFLOW") then a + 1 else
      match need t i a n with
      | none => 0
      | some b => adv t i b l
theorem end_int {h₀ h' : Heap} {L : Addr} {m : Str → Option Value} {news news' : List (Addr × Obj)} {s : Shared} {Q : Value → Shared → Prop} {x y : Int} {t : Tok} {tk' : Nat}
    (hret : ∀ t h' tk', Fr h₀ L h' m → News h₀ L h' news → Q (.int x t) { s with heap := h', toks := tk' }) (F : Fr h₀ L h' m) (N : News h₀ L h' news') (hs : ∀ p ∈ news, p ∈ news') (e : y = x) : Q (.int y t) { s with heap := h', toks := tk' } := by
  subst e
  exact hret t h' tk' F fun p hp => N p (hs p hp)
local macro_rules | `(tactic| ktr_rel) => `(tactic| (repeat' (first | exact List.forall_mem_nil _ | (refine' List.forall_mem_cons.mpr ⟨?a9, ?b9⟩; (case a9 => k_mem)))) <;> (intro p9 hp9; repeat' (first | exact hp9 | exact (show ∀ q ∈ _, q ∈ _ by assumption) _ hp9 | refine' List.Mem.tail _ ?_)))
local macro_rules | `(tactic| walk_at "call ref") => `(tactic| (k_here; (with_reducible show wpAny _ _ (call (Value.ref 28) [Value.ref _, Value.int _ _, Value.str _ _]) _ _ _); (with_reducible rename TokAll _ _ _ _ => hV9); k_dflt (refine' word_ahead_m ?k1 ?k2 ?k3 ?k4 ?k5 ?kK ?m1 ?m2 ?m3 hV9 ?sb ?b1 ?b2 ?b3 ?kd ?ku ?b4 ?b5 ?_; (case k1 => k_asm); (case k2 => k_asm); (case k3 => k_asm); (case k4 => k_asm); (case k5 => k_asm); (case kK => first | exact rfl | assumption); (case m1 => k_mem); (case m2 => k_mem); (case m3 => k_mem); (case sb => ktr_rel); (case b1 => assumption); (case b2 => first | assumption | omega); (case b3 => assumption); (case kd => ((try dsimp only [ktrTop, Around.deeper]); omega)); (case ku => ((try dsimp only [ktrTop, Around.deeper]); omega)); (case b4 => omega); (case b5 => omega); k_whole); intro h9 tk9 F9 N9; (try k_fold)))


inductive Ws : List Value → List Str → Prop
  | nil : Ws [] []
  | cons {vs : List Value} {es : List Str} (y : Str) (t : Tok) : Ws vs es → Ws (.str y t :: vs) (y :: es)
theorem Ws.len : ∀ {vs : List Value} {es : List Str}, Ws vs es → vs.length = es.length
  | _, _, .nil => rfl
  | _, _, .cons _ _ h => by simp only [List.length_cons, h.len]
theorem Ws.at : ∀ {vs : List Value} {es : List Str}, Ws vs es → ∀ (i : Nat) (v : Value), vs[i]? = some v → ∃ y t, v = .str y t ∧ es[i]? = some y
  | _, _, .cons m t _, 0, v, e => by simp at e; exact ⟨m, t, e.symm, rfl⟩
  | _, _, .cons _ _ h, i + 1, v, e => by simpa using h.at i v (by simpa using e)
theorem adv_snoc (t : List (Str × Str)) (i a : Int) (es : List Str) (y : Str) : adv t i a (es ++ [y]) = if isWord t (i + adv t i a es) y then adv t i a es + 1 else adv t i a es := by
  induction es generalizing a with
  | nil => rfl
  | cons e r ih => rw [List.cons_append, adv, ih]; rfl
theorem adv_bound (t : List (Str × Str)) (i a : Int) (es : List Str) : a ≤ adv t i a es ∧ adv t i a es ≤ a + (es.length : Int) := by
  induction es generalizing a with
  | nil => simp [adv]
  | cons e r ih =>
    rw [adv, List.length_cons]
    split
    · have := ih (a + 1); omega
    · have := ih a; omega
theorem need_snoc (t : List (Str × Str)) (i a : Int) (es : List Str) (y : Str) : need t i a (es ++ [y]) = (need t i a es).bind fun b => if isWord t (i + b) y then some (b + 1) else none := by
  induction es generalizing a with
  | nil => simp [need]
  | cons e r ih =>
    rw [List.cons_append, need, need]
    split
    · exact ih _
    · rfl
theorem need_more (t : List (Str × Str)) (i a : Int) (es r : List Str) (h : need t i a es = none) : need t i a (es ++ r) = none := by
  induction es generalizing a with
  | nil => cases h
  | cons e es ih =>
    rw [List.cons_append, need]
    rw [need] at h
    split at h
    · rename_i h1; rw [if_pos h1]; exact ih _ h
    · rename_i h1; rw [if_neg h1]
theorem need_bound (t : List (Str × Str)) (i a b : Int) (es : List Str) (h : need t i a es = some b) : b = a + (es.length : Int) := by
  induction es generalizing a with
  | nil => simp [need] at h; simp [h]
  | cons e r ih =>
    rw [need] at h
    split at h
    · have := ih _ h; rw [List.length_cons]; omega
    · cases h
theorem take_snoc {α : Type} {es : List α} {i : Nat} {y : α} (h : es[i]? = some y) : es.take (i + 1) = es.take i ++ [y] := by
  rw [List.take_add_one, h]; rfl
theorem r_adv1 {t : List (Str × Str)} {j a : Int} {es : List Str} {i : Nat} {y : Str} {tk : Tok} (hw : es[i]? = some y) (hb : isWord t (j + adv t j a (es.take i)) y = true) : ∃ u, Value.int (adv t j a (es.take i) + 1) tk = .int (adv t j a (es.take (i + 1))) u :=
  ⟨tk, by rw [take_snoc hw, adv_snoc, hb]; rfl⟩
theorem r_adv0 {t : List (Str × Str)} {j a : Int} {es : List Str} {i : Nat} {y : Str} {tk : Tok} (hw : es[i]? = some y) (hb : isWord t (j + adv t j a (es.take i)) y = false) : ∃ u, Value.int (adv t j a (es.take i)) tk = .int (adv t j a (es.take (i + 1))) u :=
  ⟨tk, by rw [take_snoc hw, adv_snoc, hb]; rfl⟩
theorem r_need1 {t : List (Str × Str)} {j a k : Int} {es : List Str} {i : Nat} {y : Str} {tk : Tok} (hw : es[i]? = some y) (hk : need t j a (es.take i) = some k) (hb : isWord t (j + k) y = true) : ∃ u b, Value.int (k + 1) tk = .int b u ∧ need t j a (es.take (i + 1)) = some b :=
  ⟨tk, k + 1, rfl, by rw [take_snoc hw, need_snoc, hk]; show (if isWord t (j + k) y = true then some (k + 1) else none) = _; rw [if_pos hb]⟩
theorem r_need0 {t : List (Str × Str)} {j a k : Int} {es : List Str} {i : Nat} {y : Str} (hw : es[i]? = some y) (hk : need t j a (es.take i) = some k) (hb : isWord t (j + k) y = false) : need t j a es = none := by
  have h : need t j a (es.take (i + 1)) = none := by rw [take_snoc hw, need_snoc, hk]; show (if isWord t (j + k) y = true then some (k + 1) else none) = _; rw [hb]; rfl
  rw [← List.take_append_drop (i + 1) es]
  exact need_more _ _ _ _ _ h
abbrev tupOf (vs : List Value) (n : Nat) : Obj := { cls := .type "tuple", data := .seq vs.toArray n }
def fnBody : Stmt → List Stmt
  | .FunctionDef (body := b) .. => b
  | _ => []
def fnScope : Stmt → Scope
  | .FunctionDef (scope := sc) .. => sc
  | _ => default
theorem map_say {m : Str → Option Value} {y : Str} {a : Value} (h : m y = some a) : m = fun z => if z = y then some a else m z := by
  funext z
  by_cases e : z = y
  · rw [if_pos e, e, h]
  · rw [if_neg e]

set_option maxHeartbeats 4000000 in
/-- the loops of opening_length, behind its words -/
theorem opening_tail {w : World} {p : Program} {loose : List Str} {mean : ExcName → Option Value} {mg mb : Str → Option Value} {prog : Program}
    {dp un : Nat} {gd : Option (List Code)} {outer : List Env} {A₀ : Around} {base h₀ : Heap} {L : Addr} {m : Str → Option Value} {s : Shared} {Q : Flow → Shared → Prop} {E : Value → Shared → Prop}
    {x dx tl nd e1 e2 e3 : Addr} {t1 t2 t3 ta tw tz : Tok} {at_ a0 : Int} {n n1 n2 n3 : Nat} {vs v1 v2 v3 : List Value} {toks : List (Str × Str)} {news rest : List (Addr × Obj)} {key : Str} {ea ne la : List Str}
    (hE : PassesOwn (model prog w) (ktrTop dp un gd (Str.ofString "opening_length") (fnScope (stm 4)) L 42 (.ref 41) [] outer) (envX (Str.ofString "opening_length") (fnScope (stm 4)) L 42 (.ref 41) []) E) (hd : dp ≤ 670) (hu : un ≤ 320)
    (B : Below A₀ base outer h₀) (F : Fr h₀ L s.heap m) (X : (KF w.params).In h₀) (N : News h₀ L s.heap news) (T : Top p loose mean mg mb h₀)
    (hx : (x, instObj 252 dx) ∈ news) (hdx : (dx, rdDict w t1 t2 t3 tl at_ ta nd) ∈ news) (htl : (tl, listOf vs.toArray n) ∈ news) (V : TokAll w rest vs toks) (hsub : ∀ p ∈ rest, p ∈ news)
    (h1 : 0 ≤ at_) (h2 : at_ < 1000) (h5 : vs.length < 1000)
    (m1 : (e1, tupOf v1 n1) ∈ news) (w1 : Ws v1 ea) (m2 : (e2, tupOf v2 n2) ∈ news) (w2 : Ws v2 ne) (m3 : (e3, tupOf v3 n3) ∈ news) (w3 : Ws v3 la) (b1 : ea.length ≤ 9) (b2 : ne.length ≤ 9) (b3 : la.length ≤ 9)
    (hr : m (Str.ofString "reader") = some (.ref x)) (hky : m (Str.ofString "key") = some (.str key tw)) (ha : m (Str.ofString "ahead") = some (.int a0 tz)) (g1 : m (Str.ofString "early") = some (.ref e1)) (g2 : m (Str.ofString "needed") = some (.ref e2)) (g3 : m (Str.ofString "late") = some (.ref e3))
    (a1 : 0 ≤ a0) (a2 : a0 ≤ 9)
    (ret : ∀ t h' tk' m', Fr h₀ L h' m' → News h₀ L h' news →
      Q (.ret (.int (if (key == Str.ofString "fault") && isWord toks (at_ + adv toks at_ a0 ea) (Str.ofString "OVERFLOW") then adv toks at_ a0 ea + 1 else match need toks at_ (adv toks at_ a0 ea) ne with | none => 0 | some b => adv toks at_ b la) t)) { s with heap := h', toks := tk' }) :
    wpAny (model prog w) (ktrTop dp un gd (Str.ofString "opening_length") (fnScope (stm 4)) L 42 (.ref 41) [] outer) (execs ((fnBody (stm 4)).drop 3) (envX (Str.ofString "opening_length") (fnScope (stm 4)) L 42 (.ref 41) [])) Q E s := by
  have e : m = fun z => if z = Str.ofString "reader" then some (.ref x) else if z = Str.ofString "key" then some (.str key tw) else if z = Str.ofString "ahead" then some (.int a0 tz) else if z = Str.ofString "early" then some (.ref e1) else if z = Str.ofString "needed" then some (.ref e2) else if z = Str.ofString "late" then some (.ref e3) else m z := by
    funext z
    repeat' (first | rfl | (split; (rename_i h; rw [h]; assumption)))
  rw [e] at F
  clear hr hky ha g1 g2 g3 e
  show wpAny _ (ktrTop dp un gd (Str.ofString "opening_length") ⟨_, _, _, _, _⟩ L 42 (.ref 41) [] outer) (execs (_ :: _) (envX _ _ L _ _ _)) Q E s
  k_steps
  (rename Fr _ _ _ _ => F1); (rename News _ _ _ _ => N1)
  refine' For_invVF F1 rfl rfl ?_ (hE := hE)
  refine ld F1 (by rfl) ?_
  refine iter_one (Str.ofString "ahead") [] (fun i v => ∃ t, v = .int (adv toks at_ a0 (ea.take i)) t) rfl m1 (.inr rfl) rfl F1 N1 rfl ⟨_, rfl⟩ ?_ ?_
  · rintro i v a u h tk I oI hv ⟨ta', rfl⟩ hoff F2 N2
    obtain ⟨word, tw', rfl, hw⟩ := w1.at _ _ hv
    have bd := adv_bound toks at_ a0 (ea.take i)
    rw [List.length_take] at bd
    clear F1 N1
    with_reducible show wpAny _ _ _ _ _ _
    k_fold
    k_steps
    all_goals (
      (rename Fr _ _ _ _ => F3); (rename News _ _ _ _ => N3); (rename (isWord _ _ _ = _) => hb)
      exact gp_one F3 N3 (by ktr_rel) hoff m1 (by rfl) (by first | exact r_adv1 hw hb | exact r_adv0 hw hb) (by intro z z1 z2 z3; simp only [if_neg z1, if_neg z2, z3, Bool.false_eq_true, if_false]))
  rintro u a h tk ⟨tb, rfl⟩ F2 N2
  rw [w1.len, List.take_length] at F2
  clear F1 N1
  have bd := adv_bound toks at_ a0 ea
  generalize hA : adv toks at_ a0 ea = A1 at F2 ret bd
  with_reducible show wpAny _ _ _ _ _ _
  k_steps
  · (rename Fr _ _ _ _ => F3); (rename News _ _ _ _ => N3); (rename (isWord _ _ _ = _) => hb); (rename ((_ == _) = _) => hky)
    exact end_ret ret F3 N3 (by ktr_rel) (by rw [hky, hb]; rfl)
  all_goals (
    (rename Fr _ _ _ _ => F1); (rename News _ _ _ _ => N1)
    refine' For_invVF F1 rfl rfl ?_ (hE := hE)
    refine ld F1 (by rfl) ?_
    refine iter_one (Str.ofString "ahead") [] (fun i v => ∃ t b, v = .int b t ∧ need toks at_ A1 (ne.take i) = some b) rfl m2 (.inr rfl) rfl F1 N1 rfl ⟨_, _, rfl, rfl⟩ ?_ ?_)
  all_goals first
  | (rintro i v a u3 h4 tk4 I oI hv ⟨ta', k, rfl, hk⟩ hoff F2 N2
     obtain ⟨word, tw', rfl, hw⟩ := w2.at _ _ hv
     have bk := need_bound _ _ _ _ _ hk
     rw [List.length_take] at bk
     clear F1 N1
     with_reducible show wpAny _ _ _ _ _ _
     k_fold
     k_steps
     all_goals first
     | ((rename Fr _ _ _ _ => F3); (rename News _ _ _ _ => N3); (rename (isWord _ _ _ = _) => hb)
        exact gp_one F3 N3 (by ktr_rel) hoff m2 (by rfl) (r_need1 hw hk hb) (by intro z z1 z2 z3; simp only [if_neg z1, if_neg z2, z3, Bool.false_eq_true, if_false]))
     | ((rename Fr _ _ _ _ => F3); (rename News _ _ _ _ => N3); (rename (isWord _ _ _ = _) => hb)
        show Q (.ret (.int 0 _)) _
        refine end_ret ret F3 N3 (by ktr_rel) ?_
        rw [r_need0 hw hk hb]
        try (rename ((_ == _) = _) => hky; rw [hky])
        try (rename (isWord _ _ (Str.ofString "OVERFLOW") = _) => hov; rw [hov])
        rfl))
  | (rintro u3 a h4 tk4 ⟨tc, k, rfl, hk⟩ F2 N2
     rw [w2.len, List.take_length] at hk
     have bk := need_bound _ _ _ _ _ hk
     clear F1 N1
     with_reducible show wpAny _ _ _ _ _ _
     k_steps
     (rename Fr _ _ _ _ => F1); (rename News _ _ _ _ => N1)
     refine' For_invVF F1 rfl rfl ?_ (hE := hE)
     refine ld F1 (by rfl) ?_
     refine iter_one (Str.ofString "ahead") [] (fun i v => ∃ t, v = .int (adv toks at_ k (la.take i)) t) rfl m3 (.inr rfl) rfl F1 N1 rfl ⟨_, rfl⟩ ?_ ?_
     · rintro i v a u5 h5' tk5 I oI hv ⟨ta', rfl⟩ hoff F2 N2
       obtain ⟨word, tw', rfl, hw⟩ := w3.at _ _ hv
       have bd3 := adv_bound toks at_ k (la.take i)
       rw [List.length_take] at bd3
       clear F1 N1
       with_reducible show wpAny _ _ _ _ _ _
       k_fold
       k_steps
       all_goals (
         (rename Fr _ _ _ _ => F3); (rename News _ _ _ _ => N3); (rename (isWord _ _ _ = _) => hb)
         exact gp_one F3 N3 (by ktr_rel) hoff m3 (by rfl) (by first | exact r_adv1 hw hb | exact r_adv0 hw hb) (by intro z z1 z2 z3; simp only [if_neg z1, if_neg z2, z3, Bool.false_eq_true, if_false]))
     · rintro u6 a h6 tk6 ⟨td, rfl⟩ F2 N2
       rw [w3.len, List.take_length] at F2
       clear F1 N1
       with_reducible show wpAny _ _ _ _ _ _
       k_steps
       (rename Fr _ _ _ _ => F3); (rename News _ _ _ _ => N3)
       refine end_ret ret F3 N3 (by ktr_rel) ?_
       rw [hk]
       try (rename ((_ == _) = _) => hky; rw [hky])
       try (rename (isWord _ _ (Str.ofString "OVERFLOW") = _) => hov; rw [hov])
       rfl)
end
section
local macro_rules | `(tactic| ktr_rel) => `(tactic| (repeat' (first | exact List.forall_mem_nil _ | (refine' List.forall_mem_cons.mpr ⟨?a9, ?b9⟩; (case a9 => k_mem)))) <;> (intro p9 hp9; repeat' (first | exact hp9 | exact (show ∀ q ∈ _, q ∈ _ by assumption) _ hp9 | refine' List.Mem.tail _ ?_)))
local macro_rules | `(tactic| ktr_unf) => `(tactic| (first | exact Ws.nil | exact Ws.cons _ _ Ws.nil | exact Ws.cons _ _ (Ws.cons _ _ Ws.nil)))
local macro_rules | `(tactic| walk_at "call ref") => `(tactic| (k_here; (with_reducible show wpAny _ _ (call (Value.ref 28) [Value.ref _, Value.int _ _, Value.str _ _]) _ _ _); (with_reducible rename TokAll _ _ _ _ => hV9); k_dflt (refine' word_ahead_m ?k1 ?k2 ?k3 ?k4 ?k5 ?kK ?m1 ?m2 ?m3 hV9 ?sb ?b1 ?b2 ?b3 ?kd ?ku ?b4 ?b5 ?_; (case k1 => k_asm); (case k2 => k_asm); (case k3 => k_asm); (case k4 => k_asm); (case k5 => k_asm); (case kK => first | exact rfl | assumption); (case m1 => k_mem); (case m2 => k_mem); (case m3 => k_mem); (case sb => ktr_rel); (case b1 => assumption); (case b2 => first | assumption | omega); (case b3 => assumption); (case kd => ((try dsimp only [ktrTop, Around.deeper]); omega)); (case ku => ((try dsimp only [ktrTop, Around.deeper]); omega)); (case b4 => omega); (case b5 => omega); k_whole); intro h9 tk9 F9 N9; (try k_fold)))
local macro_rules | `(tactic| walk_at "execs cons") => `(tactic| (k_here; (with_reducible show wpAny _ _ (execs (Stmt.For _ (Expr.Name (Str.ofString "early") _) _ _ _ :: _) _) _ _ _); (with_reducible rename TokAll _ _ _ _ => hV9); k_dflt (refine' opening_tail ?kE ?kd ?ku ?k1 ?k2 ?k3 ?k4 ?k5 ?m1 ?m2 ?m3 hV9 ?sb ?b1 ?b2 ?b3 ?n1 ?w1 ?n2 ?w2 ?n3 ?w3 ?c1 ?c2 ?c3 ?r1 ?r2 ?r3 ?r4 ?r5 ?r6 ?a1 ?a2 ?_; (case kE => passes_own); (case kd => ((try dsimp only [ktrTop, Around.deeper]); omega)); (case ku => ((try dsimp only [ktrTop, Around.deeper]); omega)); (case k1 => k_asm); (case k2 => k_asm); (case k3 => k_asm); (case k4 => k_asm); (case k5 => k_asm); (case r1 => exact rfl); (case r2 => exact rfl); (case r3 => exact rfl); (case r4 => exact rfl); (case r5 => exact rfl); (case r6 => exact rfl); (case m1 => k_mem); (case m2 => k_mem); (case m3 => k_mem); (case sb => ktr_rel); (case b1 => assumption); (case b2 => assumption); (case b3 => assumption); (case n1 => k_mem); (case n2 => k_mem); (case n3 => k_mem); (case w1 => ktr_unf); (case w2 => ktr_unf); (case w3 => ktr_unf); (case c1 => decide); (case c2 => decide); (case c3 => decide); (case a1 => decide); (case a2 => decide)); k_whole; intro t9 h9 tk9 m9 F9 N9; (try k_fold)))
theorem end_open {h₀ h' : Heap} {L : Addr} {m : Str → Option Value} {news news' : List (Addr × Obj)} {s : Shared} {Q : Value → Shared → Prop} {x y : Int} {t : Tok} {tk' : Nat}
    (hret : ∀ t h' tk', Fr h₀ L h' m → News h₀ L h' news → Q (.int x t) { s with heap := h', toks := tk' }) (F : Fr h₀ L h' m) (N : News h₀ L h' news') (hs : ∀ p ∈ news, p ∈ news') (e : y = x) : Q (.int y t) { s with heap := h', toks := tk' } := by
  subst e
  exact hret t h' tk' F fun p hp => N p (hs p hp)

set_option maxHeartbeats 4000000 in
theorem opening_size {w : World} {p : Program} {loose : List Str} {mean : ExcName → Option Value} {mg mb : Str → Option Value} {prog : Program}
    {dp un : Nat} {gd : Option (List Code)} {cn : Str} {cs : Scope} {a : Addr} {ccd : Value} {cl : List (Str × Addr)} {outer : List Env} {A₀ : Around} {base h₀ : Heap} {L : Addr} {m : Str → Option Value} {s : Shared} {Q E : Value → Shared → Prop}
    {x dx tl nd : Addr} {t1 t2 t3 ta tw : Tok} {at_ : Int} {n : Nat} {vs : List Value} {toks : List (Str × Str)} {news rest : List (Addr × Obj)}
    (hk : cs.kind = .function) (hd : dp ≤ 650) (hu : un ≤ 300)
    (B : Below A₀ base outer h₀) (F : Fr h₀ L s.heap m) (X : (KF w.params).In h₀) (N : News h₀ L s.heap news) (T : Top p loose mean mg mb h₀)
    (hx : (x, instObj 252 dx) ∈ news) (hdx : (dx, rdDict w t1 t2 t3 tl at_ ta nd) ∈ news) (htl : (tl, listOf vs.toArray n) ∈ news) (V : TokAll w rest vs toks) (hsub : ∀ p ∈ rest, p ∈ news)
    (h1 : 0 ≤ at_) (h2 : at_ < 1000) (h5 : vs.length < 1000)
    (ret : ∀ t h' tk', Fr h₀ L h' m → News h₀ L h' news → Q (.int (openFn toks at_ false false [Str.ofString "ON"] [Str.ofString "SIZE", Str.ofString "ERROR"] []) t) { s with heap := h', toks := tk' }) :
    wpAny (model prog w) (ktrTop dp un gd cn cs L a ccd cl outer) (call (.ref 42) [.ref x, .str (Str.ofString "size") tw]) Q E s := by
  refine wpAny_call ?_
  k_dflt k_enter
  k_steps
  (rename Fr _ _ _ _ => F3); (rename News _ _ _ _ => N3)
  exact end_open ret F3 N3 (by ktr_rel) rfl

set_option maxHeartbeats 4000000 in
theorem opening_not_size {w : World} {p : Program} {loose : List Str} {mean : ExcName → Option Value} {mg mb : Str → Option Value} {prog : Program}
    {dp un : Nat} {gd : Option (List Code)} {cn : Str} {cs : Scope} {a : Addr} {ccd : Value} {cl : List (Str × Addr)} {outer : List Env} {A₀ : Around} {base h₀ : Heap} {L : Addr} {m : Str → Option Value} {s : Shared} {Q E : Value → Shared → Prop}
    {x dx tl nd : Addr} {t1 t2 t3 ta tw : Tok} {at_ : Int} {n : Nat} {vs : List Value} {toks : List (Str × Str)} {news rest : List (Addr × Obj)}
    (hk : cs.kind = .function) (hd : dp ≤ 650) (hu : un ≤ 300)
    (B : Below A₀ base outer h₀) (F : Fr h₀ L s.heap m) (X : (KF w.params).In h₀) (N : News h₀ L s.heap news) (T : Top p loose mean mg mb h₀)
    (hx : (x, instObj 252 dx) ∈ news) (hdx : (dx, rdDict w t1 t2 t3 tl at_ ta nd) ∈ news) (htl : (tl, listOf vs.toArray n) ∈ news) (V : TokAll w rest vs toks) (hsub : ∀ p ∈ rest, p ∈ news)
    (h1 : 0 ≤ at_) (h2 : at_ < 1000) (h5 : vs.length < 1000)
    (ret : ∀ t h' tk', Fr h₀ L h' m → News h₀ L h' news → Q (.int (openFn toks at_ true false [Str.ofString "ON"] [Str.ofString "SIZE", Str.ofString "ERROR"] []) t) { s with heap := h', toks := tk' }) :
    wpAny (model prog w) (ktrTop dp un gd cn cs L a ccd cl outer) (call (.ref 42) [.ref x, .str (Str.ofString "not size") tw]) Q E s := by
  refine wpAny_call ?_
  k_dflt k_enter
  k_steps
  all_goals first
  | ((rename Fr _ _ _ _ => F3); (rename News _ _ _ _ => N3); (rename (isWord _ _ _ = true) => hb)
     refine end_open ret F3 N3 (by ktr_rel) ?_
     unfold openFn; rw [hb]; rfl)
  | ((rename Fr _ _ _ _ => F3); (rename News _ _ _ _ => N3); (rename (isWord _ _ _ = false) => hb)
     refine end_open ret F3 N3 (by ktr_rel) ?_
     unfold openFn; rw [hb]; rfl)

set_option maxHeartbeats 4000000 in
theorem opening_over {w : World} {p : Program} {loose : List Str} {mean : ExcName → Option Value} {mg mb : Str → Option Value} {prog : Program}
    {dp un : Nat} {gd : Option (List Code)} {cn : Str} {cs : Scope} {a : Addr} {ccd : Value} {cl : List (Str × Addr)} {outer : List Env} {A₀ : Around} {base h₀ : Heap} {L : Addr} {m : Str → Option Value} {s : Shared} {Q E : Value → Shared → Prop}
    {x dx tl nd : Addr} {t1 t2 t3 ta tw : Tok} {at_ : Int} {n : Nat} {vs : List Value} {toks : List (Str × Str)} {news rest : List (Addr × Obj)}
    (hk : cs.kind = .function) (hd : dp ≤ 650) (hu : un ≤ 300)
    (B : Below A₀ base outer h₀) (F : Fr h₀ L s.heap m) (X : (KF w.params).In h₀) (N : News h₀ L s.heap news) (T : Top p loose mean mg mb h₀)
    (hx : (x, instObj 252 dx) ∈ news) (hdx : (dx, rdDict w t1 t2 t3 tl at_ ta nd) ∈ news) (htl : (tl, listOf vs.toArray n) ∈ news) (V : TokAll w rest vs toks) (hsub : ∀ p ∈ rest, p ∈ news)
    (h1 : 0 ≤ at_) (h2 : at_ < 1000) (h5 : vs.length < 1000)
    (ret : ∀ t h' tk', Fr h₀ L h' m → News h₀ L h' news → Q (.int (openFn toks at_ false false [Str.ofString "ON"] [Str.ofString "OVERFLOW"] []) t) { s with heap := h', toks := tk' }) :
    wpAny (model prog w) (ktrTop dp un gd cn cs L a ccd cl outer) (call (.ref 42) [.ref x, .str (Str.ofString "over") tw]) Q E s := by
  refine wpAny_call ?_
  k_dflt k_enter
  k_steps
  (rename Fr _ _ _ _ => F3); (rename News _ _ _ _ => N3)
  exact end_open ret F3 N3 (by ktr_rel) rfl

set_option maxHeartbeats 4000000 in
theorem opening_not_over {w : World} {p : Program} {loose : List Str} {mean : ExcName → Option Value} {mg mb : Str → Option Value} {prog : Program}
    {dp un : Nat} {gd : Option (List Code)} {cn : Str} {cs : Scope} {a : Addr} {ccd : Value} {cl : List (Str × Addr)} {outer : List Env} {A₀ : Around} {base h₀ : Heap} {L : Addr} {m : Str → Option Value} {s : Shared} {Q E : Value → Shared → Prop}
    {x dx tl nd : Addr} {t1 t2 t3 ta tw : Tok} {at_ : Int} {n : Nat} {vs : List Value} {toks : List (Str × Str)} {news rest : List (Addr × Obj)}
    (hk : cs.kind = .function) (hd : dp ≤ 650) (hu : un ≤ 300)
    (B : Below A₀ base outer h₀) (F : Fr h₀ L s.heap m) (X : (KF w.params).In h₀) (N : News h₀ L s.heap news) (T : Top p loose mean mg mb h₀)
    (hx : (x, instObj 252 dx) ∈ news) (hdx : (dx, rdDict w t1 t2 t3 tl at_ ta nd) ∈ news) (htl : (tl, listOf vs.toArray n) ∈ news) (V : TokAll w rest vs toks) (hsub : ∀ p ∈ rest, p ∈ news)
    (h1 : 0 ≤ at_) (h2 : at_ < 1000) (h5 : vs.length < 1000)
    (ret : ∀ t h' tk', Fr h₀ L h' m → News h₀ L h' news → Q (.int (openFn toks at_ true false [Str.ofString "ON"] [Str.ofString "OVERFLOW"] []) t) { s with heap := h', toks := tk' }) :
    wpAny (model prog w) (ktrTop dp un gd cn cs L a ccd cl outer) (call (.ref 42) [.ref x, .str (Str.ofString "not over") tw]) Q E s := by
  refine wpAny_call ?_
  k_dflt k_enter
  k_steps
  all_goals first
  | ((rename Fr _ _ _ _ => F3); (rename News _ _ _ _ => N3); (rename (isWord _ _ _ = true) => hb)
     refine end_open ret F3 N3 (by ktr_rel) ?_
     unfold openFn; rw [hb]; rfl)
  | ((rename Fr _ _ _ _ => F3); (rename News _ _ _ _ => N3); (rename (isWord _ _ _ = false) => hb)
     refine end_open ret F3 N3 (by ktr_rel) ?_
     unfold openFn; rw [hb]; rfl)

set_option maxHeartbeats 4000000 in
theorem opening_end {w : World} {p : Program} {loose : List Str} {mean : ExcName → Option Value} {mg mb : Str → Option Value} {prog : Program}
    {dp un : Nat} {gd : Option (List Code)} {cn : Str} {cs : Scope} {a : Addr} {ccd : Value} {cl : List (Str × Addr)} {outer : List Env} {A₀ : Around} {base h₀ : Heap} {L : Addr} {m : Str → Option Value} {s : Shared} {Q E : Value → Shared → Prop}
    {x dx tl nd : Addr} {t1 t2 t3 ta tw : Tok} {at_ : Int} {n : Nat} {vs : List Value} {toks : List (Str × Str)} {news rest : List (Addr × Obj)}
    (hk : cs.kind = .function) (hd : dp ≤ 650) (hu : un ≤ 300)
    (B : Below A₀ base outer h₀) (F : Fr h₀ L s.heap m) (X : (KF w.params).In h₀) (N : News h₀ L s.heap news) (T : Top p loose mean mg mb h₀)
    (hx : (x, instObj 252 dx) ∈ news) (hdx : (dx, rdDict w t1 t2 t3 tl at_ ta nd) ∈ news) (htl : (tl, listOf vs.toArray n) ∈ news) (V : TokAll w rest vs toks) (hsub : ∀ p ∈ rest, p ∈ news)
    (h1 : 0 ≤ at_) (h2 : at_ < 1000) (h5 : vs.length < 1000)
    (ret : ∀ t h' tk', Fr h₀ L h' m → News h₀ L h' news → Q (.int (openFn toks at_ false false [Str.ofString "AT"] [Str.ofString "END"] []) t) { s with heap := h', toks := tk' }) :
    wpAny (model prog w) (ktrTop dp un gd cn cs L a ccd cl outer) (call (.ref 42) [.ref x, .str (Str.ofString "end") tw]) Q E s := by
  refine wpAny_call ?_
  k_dflt k_enter
  k_steps
  (rename Fr _ _ _ _ => F3); (rename News _ _ _ _ => N3)
  exact end_open ret F3 N3 (by ktr_rel) rfl

set_option maxHeartbeats 4000000 in
theorem opening_not_end {w : World} {p : Program} {loose : List Str} {mean : ExcName → Option Value} {mg mb : Str → Option Value} {prog : Program}
    {dp un : Nat} {gd : Option (List Code)} {cn : Str} {cs : Scope} {a : Addr} {ccd : Value} {cl : List (Str × Addr)} {outer : List Env} {A₀ : Around} {base h₀ : Heap} {L : Addr} {m : Str → Option Value} {s : Shared} {Q E : Value → Shared → Prop}
    {x dx tl nd : Addr} {t1 t2 t3 ta tw : Tok} {at_ : Int} {n : Nat} {vs : List Value} {toks : List (Str × Str)} {news rest : List (Addr × Obj)}
    (hk : cs.kind = .function) (hd : dp ≤ 650) (hu : un ≤ 300)
    (B : Below A₀ base outer h₀) (F : Fr h₀ L s.heap m) (X : (KF w.params).In h₀) (N : News h₀ L s.heap news) (T : Top p loose mean mg mb h₀)
    (hx : (x, instObj 252 dx) ∈ news) (hdx : (dx, rdDict w t1 t2 t3 tl at_ ta nd) ∈ news) (htl : (tl, listOf vs.toArray n) ∈ news) (V : TokAll w rest vs toks) (hsub : ∀ p ∈ rest, p ∈ news)
    (h1 : 0 ≤ at_) (h2 : at_ < 1000) (h5 : vs.length < 1000)
    (ret : ∀ t h' tk', Fr h₀ L h' m → News h₀ L h' news → Q (.int (openFn toks at_ true false [Str.ofString "AT"] [Str.ofString "END"] []) t) { s with heap := h', toks := tk' }) :
    wpAny (model prog w) (ktrTop dp un gd cn cs L a ccd cl outer) (call (.ref 42) [.ref x, .str (Str.ofString "not end") tw]) Q E s := by
  refine wpAny_call ?_
  k_dflt k_enter
  k_steps
  all_goals first
  | ((rename Fr _ _ _ _ => F3); (rename News _ _ _ _ => N3); (rename (isWord _ _ _ = true) => hb)
     refine end_open ret F3 N3 (by ktr_rel) ?_
     unfold openFn; rw [hb]; rfl)
  | ((rename Fr _ _ _ _ => F3); (rename News _ _ _ _ => N3); (rename (isWord _ _ _ = false) => hb)
     refine end_open ret F3 N3 (by ktr_rel) ?_
     unfold openFn; rw [hb]; rfl)

set_option maxHeartbeats 4000000 in
theorem opening_invalid {w : World} {p : Program} {loose : List Str} {mean : ExcName → Option Value} {mg mb : Str → Option Value} {prog : Program}
    {dp un : Nat} {gd : Option (List Code)} {cn : Str} {cs : Scope} {a : Addr} {ccd : Value} {cl : List (Str × Addr)} {outer : List Env} {A₀ : Around} {base h₀ : Heap} {L : Addr} {m : Str → Option Value} {s : Shared} {Q E : Value → Shared → Prop}
    {x dx tl nd : Addr} {t1 t2 t3 ta tw : Tok} {at_ : Int} {n : Nat} {vs : List Value} {toks : List (Str × Str)} {news rest : List (Addr × Obj)}
    (hk : cs.kind = .function) (hd : dp ≤ 650) (hu : un ≤ 300)
    (B : Below A₀ base outer h₀) (F : Fr h₀ L s.heap m) (X : (KF w.params).In h₀) (N : News h₀ L s.heap news) (T : Top p loose mean mg mb h₀)
    (hx : (x, instObj 252 dx) ∈ news) (hdx : (dx, rdDict w t1 t2 t3 tl at_ ta nd) ∈ news) (htl : (tl, listOf vs.toArray n) ∈ news) (V : TokAll w rest vs toks) (hsub : ∀ p ∈ rest, p ∈ news)
    (h1 : 0 ≤ at_) (h2 : at_ < 1000) (h5 : vs.length < 1000)
    (ret : ∀ t h' tk', Fr h₀ L h' m → News h₀ L h' news → Q (.int (openFn toks at_ false false [] [Str.ofString "INVALID"] [Str.ofString "KEY"]) t) { s with heap := h', toks := tk' }) :
    wpAny (model prog w) (ktrTop dp un gd cn cs L a ccd cl outer) (call (.ref 42) [.ref x, .str (Str.ofString "invalid") tw]) Q E s := by
  refine wpAny_call ?_
  k_dflt k_enter
  k_steps
  (rename Fr _ _ _ _ => F3); (rename News _ _ _ _ => N3)
  exact end_open ret F3 N3 (by ktr_rel) rfl

set_option maxHeartbeats 4000000 in
theorem opening_not_invalid {w : World} {p : Program} {loose : List Str} {mean : ExcName → Option Value} {mg mb : Str → Option Value} {prog : Program}
    {dp un : Nat} {gd : Option (List Code)} {cn : Str} {cs : Scope} {a : Addr} {ccd : Value} {cl : List (Str × Addr)} {outer : List Env} {A₀ : Around} {base h₀ : Heap} {L : Addr} {m : Str → Option Value} {s : Shared} {Q E : Value → Shared → Prop}
    {x dx tl nd : Addr} {t1 t2 t3 ta tw : Tok} {at_ : Int} {n : Nat} {vs : List Value} {toks : List (Str × Str)} {news rest : List (Addr × Obj)}
    (hk : cs.kind = .function) (hd : dp ≤ 650) (hu : un ≤ 300)
    (B : Below A₀ base outer h₀) (F : Fr h₀ L s.heap m) (X : (KF w.params).In h₀) (N : News h₀ L s.heap news) (T : Top p loose mean mg mb h₀)
    (hx : (x, instObj 252 dx) ∈ news) (hdx : (dx, rdDict w t1 t2 t3 tl at_ ta nd) ∈ news) (htl : (tl, listOf vs.toArray n) ∈ news) (V : TokAll w rest vs toks) (hsub : ∀ p ∈ rest, p ∈ news)
    (h1 : 0 ≤ at_) (h2 : at_ < 1000) (h5 : vs.length < 1000)
    (ret : ∀ t h' tk', Fr h₀ L h' m → News h₀ L h' news → Q (.int (openFn toks at_ true false [] [Str.ofString "INVALID"] [Str.ofString "KEY"]) t) { s with heap := h', toks := tk' }) :
    wpAny (model prog w) (ktrTop dp un gd cn cs L a ccd cl outer) (call (.ref 42) [.ref x, .str (Str.ofString "not invalid") tw]) Q E s := by
  refine wpAny_call ?_
  k_dflt k_enter
  k_steps
  all_goals first
  | ((rename Fr _ _ _ _ => F3); (rename News _ _ _ _ => N3); (rename (isWord _ _ _ = true) => hb)
     refine end_open ret F3 N3 (by ktr_rel) ?_
     unfold openFn; rw [hb]; rfl)
  | ((rename Fr _ _ _ _ => F3); (rename News _ _ _ _ => N3); (rename (isWord _ _ _ = false) => hb)
     refine end_open ret F3 N3 (by ktr_rel) ?_
     unfold openFn; rw [hb]; rfl)

set_option maxHeartbeats 4000000 in
theorem opening_fault {w : World} {p : Program} {loose : List Str} {mean : ExcName → Option Value} {mg mb : Str → Option Value} {prog : Program}
    {dp un : Nat} {gd : Option (List Code)} {cn : Str} {cs : Scope} {a : Addr} {ccd : Value} {cl : List (Str × Addr)} {outer : List Env} {A₀ : Around} {base h₀ : Heap} {L : Addr} {m : Str → Option Value} {s : Shared} {Q E : Value → Shared → Prop}
    {x dx tl nd : Addr} {t1 t2 t3 ta tw : Tok} {at_ : Int} {n : Nat} {vs : List Value} {toks : List (Str × Str)} {news rest : List (Addr × Obj)}
    (hk : cs.kind = .function) (hd : dp ≤ 650) (hu : un ≤ 300)
    (B : Below A₀ base outer h₀) (F : Fr h₀ L s.heap m) (X : (KF w.params).In h₀) (N : News h₀ L s.heap news) (T : Top p loose mean mg mb h₀)
    (hx : (x, instObj 252 dx) ∈ news) (hdx : (dx, rdDict w t1 t2 t3 tl at_ ta nd) ∈ news) (htl : (tl, listOf vs.toArray n) ∈ news) (V : TokAll w rest vs toks) (hsub : ∀ p ∈ rest, p ∈ news)
    (h1 : 0 ≤ at_) (h2 : at_ < 1000) (h5 : vs.length < 1000)
    (ret : ∀ t h' tk', Fr h₀ L h' m → News h₀ L h' news → Q (.int (openFn toks at_ false true [Str.ofString "ON"] [Str.ofString "EXCEPTION"] []) t) { s with heap := h', toks := tk' }) :
    wpAny (model prog w) (ktrTop dp un gd cn cs L a ccd cl outer) (call (.ref 42) [.ref x, .str (Str.ofString "fault") tw]) Q E s := by
  refine wpAny_call ?_
  k_dflt k_enter
  k_steps
  (rename Fr _ _ _ _ => F3); (rename News _ _ _ _ => N3)
  exact end_open ret F3 N3 (by ktr_rel) rfl

set_option maxHeartbeats 4000000 in
theorem opening_not_fault {w : World} {p : Program} {loose : List Str} {mean : ExcName → Option Value} {mg mb : Str → Option Value} {prog : Program}
    {dp un : Nat} {gd : Option (List Code)} {cn : Str} {cs : Scope} {a : Addr} {ccd : Value} {cl : List (Str × Addr)} {outer : List Env} {A₀ : Around} {base h₀ : Heap} {L : Addr} {m : Str → Option Value} {s : Shared} {Q E : Value → Shared → Prop}
    {x dx tl nd : Addr} {t1 t2 t3 ta tw : Tok} {at_ : Int} {n : Nat} {vs : List Value} {toks : List (Str × Str)} {news rest : List (Addr × Obj)}
    (hk : cs.kind = .function) (hd : dp ≤ 650) (hu : un ≤ 300)
    (B : Below A₀ base outer h₀) (F : Fr h₀ L s.heap m) (X : (KF w.params).In h₀) (N : News h₀ L s.heap news) (T : Top p loose mean mg mb h₀)
    (hx : (x, instObj 252 dx) ∈ news) (hdx : (dx, rdDict w t1 t2 t3 tl at_ ta nd) ∈ news) (htl : (tl, listOf vs.toArray n) ∈ news) (V : TokAll w rest vs toks) (hsub : ∀ p ∈ rest, p ∈ news)
    (h1 : 0 ≤ at_) (h2 : at_ < 1000) (h5 : vs.length < 1000)
    (ret : ∀ t h' tk', Fr h₀ L h' m → News h₀ L h' news → Q (.int (openFn toks at_ true false [Str.ofString "ON"] [Str.ofString "EXCEPTION"] []) t) { s with heap := h', toks := tk' }) :
    wpAny (model prog w) (ktrTop dp un gd cn cs L a ccd cl outer) (call (.ref 42) [.ref x, .str (Str.ofString "not fault") tw]) Q E s := by
  refine wpAny_call ?_
  k_dflt k_enter
  k_steps
  all_goals first
  | ((rename Fr _ _ _ _ => F3); (rename News _ _ _ _ => N3); (rename (isWord _ _ _ = true) => hb)
     refine end_open ret F3 N3 (by ktr_rel) ?_
     unfold openFn; rw [hb]; rfl)
  | ((rename Fr _ _ _ _ => F3); (rename News _ _ _ _ => N3); (rename (isWord _ _ _ = false) => hb)
     refine end_open ret F3 N3 (by ktr_rel) ?_
     unfold openFn; rw [hb]; rfl)
end
section
inductive TupIn (news : List (Addr × Obj)) : Value → Str × Str → Prop
  | mk {t : Addr} {k x : Str} {tk tx : Tok} {n : Nat} : (t, ({ cls := .type "tuple", data := .seq #[.str k tk, .str x tx] n } : Obj)) ∈ news → TupIn news (.ref t) (k, x)
theorem TupIn.mono {a b : List (Addr × Obj)} {v : Value} {kx : Str × Str} (h : TupIn a v kx) (hs : ∀ p ∈ a, p ∈ b) : TupIn b v kx := by
  cases h with
  | mk h1 => exact .mk (hs _ h1)
inductive TupAll (news : List (Addr × Obj)) : List Value → List (Str × Str) → Prop
  | nil : TupAll news [] []
  | snoc {vs : List Value} {v : Value} {toks : List (Str × Str)} {kx : Str × Str} : TupAll news vs toks → TupIn news v kx → TupAll news (vs ++ [v]) (toks ++ [kx])
theorem TupAll.mono {a b : List (Addr × Obj)} {vs : List Value} {toks : List (Str × Str)} (h : TupAll a vs toks) (hs : ∀ p ∈ a, p ∈ b) : TupAll b vs toks := by
  induction h with
  | nil => exact .nil
  | snoc _ h ih => exact .snoc ih (h.mono hs)
theorem TupAll.len {a : List (Addr × Obj)} {vs : List Value} {toks : List (Str × Str)} (h : TupAll a vs toks) : vs.length = toks.length := by
  induction h with
  | nil => rfl
  | snoc _ _ ih => simp [ih]
theorem TupAll.at {a : List (Addr × Obj)} {vs : List Value} {toks : List (Str × Str)} (h : TupAll a vs toks) : ∀ (i : Nat) (v : Value), vs[i]? = some v → ∃ kx, toks[i]? = some kx ∧ TupIn a v kx := by
  induction h with
  | nil => intro i v e; simp at e
  | @snoc vs v toks kx h hv ih =>
    intro i u e
    by_cases hi : i < vs.length
    · rw [List.getElem?_append_left hi] at e
      rw [List.getElem?_append_left (by rw [← h.len]; exact hi)]
      exact ih i u e
    · by_cases hi2 : i = vs.length
      · subst hi2
        simp at e
        subst e
        exact ⟨kx, by rw [h.len]; simp, hv⟩
      · rw [List.getElem?_eq_none (by rw [List.length_append, List.length_singleton]; omega)] at e
        cases e
theorem off1_mem {D : Addr} : ∀ {l : List (Addr × Obj)}, LCg.Off1 D l → ∀ p ∈ l, p.1 ≠ D
  | [], _, _, h => nomatch h
  | _ :: _, x, p, h => by
    rcases List.mem_cons.mp h with rfl | h
    · exact x.1
    · exact off1_mem x.2 p h
theorem strValues_len (l : List (Str × Tok)) : (strValues l).length = l.length := by simp [strValues]
theorem strValues_at : ∀ {l : List (Str × Tok)} {i : Nat} {v : Value}, (strValues l)[i]? = some v → ∃ a t, l[i]? = some (a, t) ∧ v = .str a t
  | [], i, v, h => by simp [strValues] at h
  | (a, t) :: l, 0, v, h => by simp [strValues] at h; exact ⟨a, t, rfl, h.symm⟩
  | (a, t) :: l, i + 1, v, h => by
    have h' : (strValues l)[i]? = some v := by simpa [strValues] using h
    obtain ⟨b, u, e, r⟩ := strValues_at h'
    exact ⟨b, u, by simpa using e, r⟩
abbrev wordK : Str := Str.ofString "word"
local macro_rules | `(tactic| walk_at "call builtin:str.split") => `(tactic| (k_here; (with_reducible show wpAny _ _ (call (Value.builtin "str.split") _) _ _ _); (refine KSpl.split1 (by k_asm) (by k_asm) (by decide) ?_ (by first | assumption | size_fits)); (intro D' l' h' k' e' a' F' N' l1); (try k_lt l1)))
local macro_rules | `(tactic| walk_at "eval ListComp") => `(tactic| (k_here; k_dflt (refine LCg.ListComp_U (F₀ := by k_asm) (by rfl) (by decide) (by rfl) (by decide) (by rfl) ?_)))
local macro_rules | `(tactic| walk_at "CompSrc") => `(tactic| (k_here; k_dflt (refine LCg.CompSrc.ledger (by rfl) (by k_asm) (by k_asm) (by k_mem) (by first | assumption | size_fits | skip) ?_); intro g'))
def wtoks (text : Str) : List (Str × Str) := (Txt.split text (Str.ofString " ")).map fun x => (wordK, x)
theorem words_turn {l : List (Str × Tok)} {text : Str} {i : Nat} {v : Value} {own : List (Addr × Obj)} {ys : List Value} {t : Addr} {tk : Tok} (he : l.map (·.1) = Txt.split text (Str.ofString " ")) (hP : (strValues l).toArray[i]? = some v) (hT : TupAll own ys ((wtoks text).take i)) :
    TupAll ((t, ({ cls := .type "tuple", data := .seq #[.str (Str.ofString "word") tk, v] } : Obj)) :: own) (ys ++ [.ref t]) ((wtoks text).take (i + 1)) := by
  obtain ⟨a, u, e, rfl⟩ := strValues_at (by simpa using hP)
  have e2 : (wtoks text)[i]? = some (wordK, a) := by
    unfold wtoks
    rw [← he, List.map_map, List.getElem?_map, e]; rfl
  rw [take_snoc e2]
  exact .snoc (hT.mono fun p hp => .tail _ hp) (.mk (.head _))
theorem words_all {l : List (Str × Tok)} {text : Str} {own : List (Addr × Obj)} {ys : List Value} (he : l.map (·.1) = Txt.split text (Str.ofString " ")) (hT : TupAll own ys ((wtoks text).take (strValues l).toArray.size)) : TupAll own ys (wtoks text) := by
  have e : (strValues l).toArray.size = (wtoks text).length := by
    unfold wtoks
    rw [List.size_toArray, strValues_len, ← he, List.length_map, List.length_map]
  rw [e, List.take_length] at hT
  exact hT
set_option maxHeartbeats 4000000 in
theorem words_c {w : World} {p : Program} {loose : List Str} {mean : ExcName → Option Value} {mg mb : Str → Option Value} {prog : Program}
    {dp un : Nat} {gd : Option (List Code)} {cn : Str} {cs : Scope} {a : Addr} {ccd : Value} {cl : List (Str × Addr)} {outer : List Env} {A₀ : Around} {base h₀ : Heap} {L : Addr} {m : Str → Option Value} {s : Shared} {Q E : Value → Shared → Prop}
    {news : List (Addr × Obj)} {text : Str} {tw : Tok}
    (hk : cs.kind = .function) (hd : dp ≤ 650) (hu : un ≤ 300)
    (B : Below A₀ base outer h₀) (F : Fr h₀ L s.heap m) (X : (KF w.params).In h₀) (N : News h₀ L s.heap news) (T : Top p loose mean mg mb h₀)
    (hx : (text == Str.ofString "") = false) (hsz : text.length + 2 ≤ sizeLine)
    (ret : ∀ D vs n own h' tk', Fr h₀ L h' m → News h₀ L h' ((D, listOf vs.toArray n) :: (own ++ news)) → TupAll own vs (wtoks text) → (∀ p ∈ news, p.1 ≠ D) → Q (.ref D) { s with heap := h', toks := tk' }) :
    wpAny (model prog w) (ktrTop dp un gd cn cs L a ccd cl outer) (call (.ref 310) [.str text tw]) Q E s := by
  refine wpAny_call ?_
  k_dflt k_enter
  k_steps
  · (rename (List.map _ _ = Txt.split _ _) => he)
    refine comp_ind (fun i ys nw => ∃ own, nw = own ++ ((_, listOf (strValues _).toArray 0) :: news) ∧ TupAll own ys ((wtoks text).take i)) ⟨[], rfl, .nil⟩ ?_ ?_
    · rintro ys nw ⟨own, rfl, hT⟩
      have hT2 := words_all he hT
      unfold LCg.FinE
      intro D h tk F3 N3 o1
      k_steps
      (rename Fr _ _ _ _ => F4); (rename News _ _ _ _ => N4)
      exact ret D ys ys.length own _ _ F4 (fun p hp => N4 p (by
        rcases List.mem_cons.mp hp with rfl | hp
        · exact .head _
        · refine .tail _ ?_
          rcases List.mem_append.mp hp with hp | hp
          · exact List.mem_append_left _ hp
          · exact List.mem_append_right _ (.tail _ hp))) hT2 fun p hp => off1_mem o1 p (List.mem_append_right _ (.tail _ hp))
    · rintro i ys nw hi ⟨own, rfl, hT⟩ v I oI C' oC D m₂ h tk E' hP hC hx F2 N2 off ne
      with_reducible show wpAny _ _ _ _ _ _
      k_steps
      (rename Fr _ _ _ _ => F4); (rename News _ _ _ (_ :: _) => N4); (rename ((_ < _) ∧ _) => hl)
      obtain ⟨g1, g2, g3, _⟩ := hl
      exact LCg.CompEnd.intro F4 N4 (_ :: (own ++ _)) (fun p hp => by
        rcases List.mem_cons.mp hp with rfl | hp
        · exact .tail _ (.head _)
        · rcases List.mem_cons.mp hp with rfl | hp
          · exact .tail _ (.tail _ (.head _))
          · rcases List.mem_cons.mp hp with rfl | hp
            · exact .tail _ (.tail _ (.tail _ (.head _)))
            · rcases List.mem_cons.mp hp with rfl | hp
              · exact .head _
              · exact .tail _ (.tail _ (.tail _ (.tail _ hp)))) ⟨⟨Nat.ne_of_gt g1, Nat.ne_of_gt g2, Nat.ne_of_gt g3⟩, off⟩
        (.inr ⟨_, .tail _ (List.mem_append_right _ (.head _)), rfl, _, rfl⟩) ⟨_, rfl, words_turn he hP hT⟩
  · (rename (_ != _) = false => hbad)
    exact absurd hbad (by simp only [bne, hx]; decide)
end
section
local macro_rules | `(tactic| ktr_rel) => `(tactic| (repeat' (first | exact List.forall_mem_nil _ | (refine' List.forall_mem_cons.mpr ⟨?a9, ?b9⟩; (case a9 => k_mem)))) <;> (intro p9 hp9; repeat' (first | exact hp9 | exact (show ∀ q ∈ _, q ∈ _ by assumption) _ hp9 | refine' List.Mem.tail _ ?_)))
local macro_rules | `(tactic| walk_at "eval ListComp") => `(tactic| (k_here; k_dflt (refine ListComp_E (F₀ := by k_asm) (by rfl) (by decide) (by rfl) (by decide) (by rfl) (by rfl) (by rfl) (by decide) (by decide) (by decide) ?_)))
theorem TokAll.snoc {w : World} {a : List (Addr × Obj)} {vs : List Value} {v : Value} {toks : List (Str × Str)} {kx : Str × Str} (h : TokAll w a vs toks) (hv : TokIn w a v kx) : TokAll w a (vs ++ [v]) (toks ++ [kx]) := by
  refine ⟨by rw [List.length_append, List.length_append, h.1]; rfl, fun i u ky e1 e2 => ?_⟩
  by_cases hi : i < vs.length
  · rw [List.getElem?_append_left hi] at e1
    rw [List.getElem?_append_left (by rw [← h.1]; exact hi)] at e2
    exact h.2 i u ky e1 e2
  · by_cases hi2 : i = vs.length
    · subst hi2
      have z1 : v = u := by simpa using e1
      have z2 : kx = ky := by rw [h.1] at e2; simpa using e2
      rw [← z1, ← z2]; exact hv
    · rw [List.getElem?_eq_none (by rw [List.length_append, List.length_singleton]; omega)] at e1
      cases e1
theorem TokAll.nil {w : World} {a : List (Addr × Obj)} : TokAll w a [] [] := ⟨rfl, fun i v kx e => by simp at e⟩
theorem tok_end {w : World} {h₀ h' : Heap} {L : Addr} {m : Str → Option Value} {s : Shared} {e it C D x d R : Addr} {oE oI oC oD oR : Obj} {t1 t2 t3 t4 tk ty : Tok} {k y : Str} {r : Addr} {own news : List (Addr × Obj)} {toks : List (Str × Str)} {i : Nat} {ys : List Value} {tk' : Nat}
    (F : Fr h₀ L h' m) (N : News h₀ L h' ((x, instObj 282 d) :: (d, tkDict w t1 t2 t3 t4 k y tk ty r) :: (R, oR) :: (e, oE) :: (it, oI) :: (C, oC) :: (D, oD) :: (own ++ news))) (hkx : toks[i]? = some (k, y)) (hT : TokAll w own ys (toks.take i)) (off : Off4 e it C D (own ++ news))
    (n1 : @Ne Nat x e) (n2 : @Ne Nat x it) (n3 : @Ne Nat x C) (n4 : @Ne Nat x D) (n5 : @Ne Nat d e) (n6 : @Ne Nat d it) (n7 : @Ne Nat d C) (n8 : @Ne Nat d D) :
    EnEnd h₀ L m s e oE it oI C oC D oD (fun y nw' => ∃ own, nw' = own ++ news ∧ TokAll w own (ys ++ [y]) (toks.take (i + 1))) (.ref x) { s with heap := h', toks := tk' } := by
  refine EnEnd.intro F N ((x, instObj 282 d) :: (d, tkDict w t1 t2 t3 t4 k y tk ty r) :: (own ++ news)) ?_ ?_ ⟨(x, instObj 282 d) :: (d, tkDict w t1 t2 t3 t4 k y tk ty r) :: own, rfl, ?_⟩
  · intro p hp
    simp only [List.mem_cons] at hp ⊢
    rcases hp with hp | hp | hp | hp | hp | hp | hp <;> simp only [hp, true_or, or_true]
  · intro p hp
    rcases List.mem_cons.mp hp with rfl | hp
    · exact ⟨n1, n2, n3, n4⟩
    · rcases List.mem_cons.mp hp with rfl | hp
      · exact ⟨n5, n6, n7, n8⟩
      · exact off p hp
  · rw [take_snoc hkx]
    exact TokAll.snoc (hT.mono fun p hp => .tail _ (.tail _ hp)) (.mk (.head _) (.tail _ (.head _)))
set_option maxHeartbeats 4000000 in
theorem reader_c {w : World} {p : Program} {loose : List Str} {mean : ExcName → Option Value} {mg mb : Str → Option Value} {prog : Program}
    {dp un : Nat} {gd : Option (List Code)} {cn : Str} {cs : Scope} {a : Addr} {ccd : Value} {cl : List (Str × Addr)} {outer : List Env} {A₀ : Around} {base h₀ : Heap} {L : Addr} {m : Str → Option Value} {s : Shared} {Q E : Value → Shared → Prop}
    {news : List (Addr × Obj)} {l : Addr} {vs : List Value} {n : Nat} {toks : List (Str × Str)}
    (hk : cs.kind = .function) (hd : dp ≤ 650) (hu : un ≤ 300)
    (B : Below A₀ base outer h₀) (F : Fr h₀ L s.heap m) (X : (KF w.params).In h₀) (N : News h₀ L s.heap news) (T : Top p loose mean mg mb h₀)
    (hl : (l, listOf vs.toArray n) ∈ news) (V : TupAll news vs toks) (h5 : vs.length < 1000)
    (ret : ∀ x dx tl nd us n' t1 t2 t3 ta own h' tk', Fr h₀ L h' m → News h₀ L h' ((x, instObj 252 dx) :: (dx, rdDict w t1 t2 t3 tl 0 ta nd) :: (tl, listOf us.toArray n') :: (own ++ news)) → TokAll w own us toks →
      (@Ne Nat x dx) → (@Ne Nat tl dx) → (∀ p ∈ own ++ news, p.1 ≠ dx) → Q (.ref x) { s with heap := h', toks := tk' }) :
    wpAny (model prog w) (ktrTop dp un gd cn cs L a ccd cl outer) (call (.ref 315) [.ref l]) Q E s := by
  refine wpAny_call ?_
  k_dflt k_enter
  k_steps
  (rename Fr _ _ _ _ => F1); (rename News _ _ _ _ => N1)
  refine call_enum (fun i ys nw => ∃ own, nw = own ++ news ∧ TokAll w own ys (toks.take i)) rfl F1 N1 hl rfl rfl (Nat.le_trans (Nat.le_of_lt h5) (by size_fits)) ⟨[], rfl, .nil⟩ (fun i ys nw hc => let ⟨own, e, _⟩ := hc; e ▸ List.mem_append_right _ hl) ?_ ?_
  · rintro i ys nw hi ⟨own, rfl, hT⟩
    obtain ⟨kx, hkx, hv⟩ := V.at i _ (List.getElem?_eq_getElem hi)
    generalize hvi : vs[i] = v at hv
    cases hv with
    | @mk t k x tk tx nt hm =>
      refine ⟨t, _, _, _, nt, by rw [List.getElem?_eq_getElem hi, hvi], List.mem_append_right _ hm, rfl, rfl, ?_⟩
      intro e it oE oI oC C D u m₂ h tk E' hC hx1 hx2 hx3 F2 N2 off ne
      clear F1 N1
      with_reducible show wpAny _ _ _ _ _ _
      k_steps
      (rename Fr _ _ _ _ => F4); (rename News _ _ _ (_ :: _) => N4)
      exact tok_end F4 N4 hkx hT off (by k_ne) (by k_ne) (by k_ne) (by k_ne) (by k_ne) (by k_ne) (by k_ne) (by k_ne)
  · rintro ys nw h ⟨own, rfl, hT⟩
    have e : vs.length = toks.length := V.len
    rw [e, List.take_length] at hT
    unfold LCg.FinE
    intro D h tk F3 N3 o1
    k_steps
    (rename Fr _ _ _ _ => F4); (rename News _ _ _ (_ :: _) => N4)
    refine ret _ _ _ _ ys _ _ _ _ _ own _ _ F4 (fun p hp => N4 p (.tail _ hp)) hT (by k_ne) (by k_ne) (by k_all)
end
local macro_rules | `(tactic| ktr_unf) => `(tactic| (repeat' (first | exact List.forall_mem_nil _ | (refine' List.forall_mem_cons.mpr ⟨?a9, ?b9⟩; (case a9 => k_mem)))) <;> (intro p9 hp9; repeat' (first | exact hp9 | exact (show ∀ q ∈ _, q ∈ _ by with_reducible assumption) _ hp9 | exact List.mem_append_left _ hp9 | refine' List.mem_cons_of_mem _ ?_ | refine' List.mem_append_right _ ?_)))
section
def dat (kx : Str × Str) : Dat := .tuple [.str kx.1, .str kx.2]
theorem dat_inj {a b : Str × Str} (h : dat a = dat b) : a = b := by
  unfold dat at h
  injection h with h
  injection h with h1 h2
  injection h2 with h2 _
  injection h1 with h1
  injection h2 with h2
  exact Prod.ext h1 h2
theorem datAll_of {news : List (Addr × Obj)} : ∀ {vs : List Value} {toks : List (Str × Str)}, vs.length = toks.length → (∀ (i : Nat) (v : Value), vs[i]? = some v → ∃ kx, toks[i]? = some kx ∧ TupIn news v kx) → DatAll news vs (toks.map dat)
  | [], [], _, _ => .nil
  | [], _ :: _, h, _ => by cases h
  | _ :: _, [], h, _ => by cases h
  | v :: vs, kx :: toks, h, f => by
    refine .cons ?_ (datAll_of (by simpa using h) fun i u e => by simpa using f (i + 1) u (by simpa using e))
    obtain ⟨ky, e, hv⟩ := f 0 v rfl
    obtain rfl : kx = ky := by simpa using e
    cases hv with
    | mk hm => exact .tuple (vs := [_, _]) hm (.cons (.str _ _) (.cons (.str _ _) .nil))
theorem TupAll.datSub {news : List (Addr × Obj)} {vs : List Value} {toks : List (Str × Str)} (h : TupAll news vs toks) (a b : Nat) : DatAll news ((vs.drop a).take b) (((toks.drop a).take b).map dat) := by
  refine datAll_of (by simp [h.len]) fun i v e => ?_
  rw [List.getElem?_take] at e
  split at e
  · rename_i hi
    rw [List.getElem?_drop] at e
    obtain ⟨kx, q, r⟩ := h.at _ _ e
    exact ⟨kx, by rw [List.getElem?_take, if_pos hi, List.getElem?_drop]; exact q, r⟩
  · cases e
theorem TupAll.dat {news : List (Addr × Obj)} {vs : List Value} {toks : List (Str × Str)} (h : TupAll news vs toks) : DatAll news vs (toks.map Mine.dat) := datAll_of h.len h.at
theorem pick_eq {vs : List Value} {b e : Int} (h0 : 0 ≤ b) (h1 : b ≤ e) : kms_pick vs (some b) (some e) = (vs.drop b.toNat).take (e - b).toNat := by
  unfold kms_pick kms_lo kms_hi
  simp only [if_neg (show ¬ b < 0 by omega), if_neg (show ¬ e < 0 by omega)]
  rw [kmk_drop_min]
  by_cases hb : b.toNat ≤ vs.length
  · rw [Nat.min_eq_left hb]
    by_cases he : e.toNat ≤ vs.length
    · rw [Nat.min_eq_left he]; congr 1; omega
    · rw [Nat.min_eq_right (by omega)]
      rw [List.take_of_length_le (by rw [List.length_drop]; omega), List.take_of_length_le (by rw [List.length_drop]; omega)]
  · have hn : vs.drop b.toNat = [] := List.drop_eq_nil_of_le (by omega)
    rw [hn]; simp
def okTok (kx : Str × Str) : Bool := PyData.strOk kx.1 && PyData.strOk kx.2
theorem okDat {toks : List (Str × Str)} (h : ∀ kx ∈ toks, okTok kx = true) : ∀ d ∈ toks.map dat, kqdOk 8 d = true := by
  intro d hd
  obtain ⟨kx, hk, rfl⟩ := List.mem_map.mp hd
  have := Bool.and_eq_true_iff.mp (h kx hk)
  simp [dat, kqdOk, this.1, this.2]
theorem map_dat_inj : ∀ {a b : List (Str × Str)}, a.map dat = b.map dat → a = b
  | [], [], _ => rfl
  | [], _ :: _, h => by cases h
  | _ :: _, [], h => by cases h
  | x :: a, y :: b, h => by
    rw [List.map_cons, List.map_cons] at h
    injection h with h1 h2
    rw [dat_inj h1, map_dat_inj h2]
theorem eq_slice {prog : Program} {w : World} {A : Around} {E : Value → Shared → Prop} {s : Shared} {h₀ : Heap} {L a c : Addr} {news n₁ n₂ : List (Addr × Obj)} {vs us : List Value} {kb : Nat} {toks ws : List (Str × Str)} {b e : Int} {Q : Value → Shared → Prop}
    (N : News h₀ L s.heap news) (ma : (a, listOf (kms_pick vs (some b) (some e)).toArray 0) ∈ news) (V : TupAll n₁ vs toks) (sa : ∀ p ∈ n₁, p ∈ news) (mb : (c, listOf us.toArray kb) ∈ news) (W : TupAll n₂ us ws) (sb : ∀ p ∈ n₂, p ∈ news)
    (oa : ∀ kx ∈ toks, okTok kx = true) (ob : ∀ kx ∈ ws, okTok kx = true) (hu : A.units + 64 < cLine) (h0 : 0 ≤ b) (h1 : b ≤ e) (h : Q (.bool (decide ((toks.drop b.toNat).take (e - b).toNat = ws))) s) :
    wpAny (model prog w) A (compareOp .Eq (.ref a) (.ref c)) Q E s := by
  rw [pick_eq h0 h1] at ma
  refine kqd_eq N ma rfl rfl (V.datSub b.toNat (e - b).toNat) sa mb rfl rfl W.dat sb (okDat fun kx hk => oa kx (List.mem_of_mem_drop (List.mem_of_mem_take hk))) (okDat ob) hu ?_
  exact (congrArg (fun q => Q (Value.bool q) s) (decide_eq_decide.mpr ⟨map_dat_inj, fun q => by rw [q]⟩)).mpr h
structure TextOk (x : Str) : Prop where
  ne : (x == Str.ofString "") = false
  sz : x.length + 2 ≤ sizeLine
  few : (wtoks x).length < 1000
  ok : ∀ kx ∈ wtoks x, okTok kx = true
def longStep (t : List (Str × Str)) (b : Int) (f : Int) (x : Str) : Int :=
  if (t.drop b.toNat).take (wtoks x).length = wtoks x then (if ((wtoks x).length : Int) > f then ((wtoks x).length : Int) else f) else f
def longest (t : List (Str × Str)) (b : Int) (texts : List Str) : Int := texts.foldl (longStep t b) 0
theorem longest_snoc {t : List (Str × Str)} {b : Int} {texts : List Str} {i : Nat} {x : Str} (h : texts[i]? = some x) : longest t b (texts.take (i + 1)) = longStep t b (longest t b (texts.take i)) x := by
  rw [take_snoc h]; unfold longest; rw [List.foldl_append]; rfl
theorem r_long1 {t : List (Str × Str)} {b : Int} {texts : List Str} {i : Nat} {x : Str} {us : List Value} {tk : Tok} (hw : texts[i]? = some x) (hn : us.length = (wtoks x).length) (hb : (t.drop b.toNat).take (b + ((us.toArray.size : Nat) : Int) - b).toNat = wtoks x) :
    ∃ u, Value.int (if ((us.toArray.size : Nat) : Int) > longest t b (texts.take i) then ((us.toArray.size : Nat) : Int) else longest t b (texts.take i)) tk = .int (longest t b (texts.take (i + 1))) u := by
  refine ⟨tk, ?_⟩
  rw [List.size_toArray] at hb ⊢
  rw [longest_snoc hw]
  unfold longStep
  rw [show (b + ((us.length : Nat) : Int) - b).toNat = (wtoks x).length by omega] at hb
  rw [if_pos hb, hn]
theorem r_long0 {t : List (Str × Str)} {b : Int} {texts : List Str} {i : Nat} {x : Str} {us : List Value} {tk : Tok} (hw : texts[i]? = some x) (hn : us.length = (wtoks x).length) (hb : ¬ (t.drop b.toNat).take (b + ((us.toArray.size : Nat) : Int) - b).toNat = wtoks x) :
    ∃ u, Value.int (longest t b (texts.take i)) tk = .int (longest t b (texts.take (i + 1))) u := by
  refine ⟨tk, ?_⟩
  rw [List.size_toArray] at hb
  rw [longest_snoc hw]
  unfold longStep
  rw [show (b + ((us.length : Nat) : Int) - b).toNat = (wtoks x).length by omega] at hb
  rw [if_neg hb]
local macro_rules | `(tactic| walk_at "call builtin:len") => `(tactic| (k_here; (with_reducible show wpAny _ _ (call (Value.builtin "len") [Value.ref _]) _ _ _); k_dflt (refine' len_in ?k1 ?k2 ?k3 ?_; (case k1 => k_asm); (case k2 => k_mem); (case k3 => omega); k_whole)))
local macro_rules | `(tactic| walk_at "call ref") => `(tactic| (k_here; (with_reducible show wpAny _ _ (call (Value.ref 310) [Value.str _ _]) _ _ _); (with_reducible rename TextOk _ => hX9); k_dflt (refine' words_c ?kK ?kd ?ku ?k1 ?k2 ?k3 ?k4 ?k5 (TextOk.ne hX9) (TextOk.sz hX9) ?_; (case kK => first | exact rfl | assumption); (case kd => ((try dsimp only [ktrTop, Around.deeper]); omega)); (case ku => ((try dsimp only [ktrTop, Around.deeper]); omega)); (case k1 => k_asm); (case k2 => k_asm); (case k3 => k_asm); (case k4 => k_asm); (case k5 => k_asm); k_whole); intro D9 us9 n9 own9 h9 tk9 F9 N9 V9 off9; (have hLen9 := TupAll.len V9); (have hFew9 := TextOk.few hX9); (try k_fold)))
local macro_rules | `(tactic| walk_at "subscriptTail Name Slice ref ref") => `(tactic| (k_here; (with_reducible show wpAny _ _ (subscriptTail _ (PySem.Expr.Slice _ _ none _) (Value.ref _) (Value.ref _)) _ _ _); k_dflt (refine' kms_slice_lit ?F ?N ?l ?p ?q ?e ?_ ?s ?t ?z; (case F => k_asm); (case N => k_asm); (case l => exact News.isList (by k_asm) (by k_mem)); (case p => kmk_part); (case q => kmk_part); (case e => exact rfl); (case s => with_unfolding_all rfl); (case t => kmk_pure); (case z => assumption)); intro D' h' F' N' l1; (try k_lt l1); (try k_sweep)))
local macro_rules | `(tactic| walk_at "compareOp Eq ref ref") => `(tactic| (k_here; (with_reducible show wpAny _ _ (compareOp CmpOp.Eq (Value.ref _) (Value.ref _)) _ _ _); (with_reducible rename TextOk _ => hX9); k_dflt (refine' eq_slice ?N ?ma ?V ?sa ?mb ?W ?sb ?oa (TextOk.ok hX9) ?hu ?h0 ?h1 ?_; (case N => k_asm); (case ma => k_mem); (case mb => k_mem); (case V => assumption); (case W => assumption); (case sa => ktr_unf); (case sb => ktr_unf); (case oa => assumption); (case hu => k_units); (case h0 => assumption); (case h1 => omega); k_whole)))
set_option maxHeartbeats 4000000 in
theorem longest_c {w : World} {p : Program} {loose : List Str} {mean : ExcName → Option Value} {mg mb : Str → Option Value} {prog : Program}
    {dp un : Nat} {gd : Option (List Code)} {cn : Str} {cs : Scope} {a : Addr} {ccd : Value} {cl : List (Str × Addr)} {outer : List Env} {A₀ : Around} {base h₀ : Heap} {L : Addr} {m : Str → Option Value} {s : Shared} {Q E : Value → Shared → Prop}
    {news rest : List (Addr × Obj)} {l sl : Addr} {vs ss : List Value} {n n2 : Nat} {toks : List (Str × Str)} {texts : List Str} {b : Int} {tb : Tok}
    (hk : cs.kind = .function) (hd : dp ≤ 600) (hu : un ≤ 250)
    (B : Below A₀ base outer h₀) (F : Fr h₀ L s.heap m) (X : (KF w.params).In h₀) (N : News h₀ L s.heap news) (T : Top p loose mean mg mb h₀)
    (hl : (l, listOf vs.toArray n) ∈ news) (V : TupAll rest vs toks) (hsub : ∀ p ∈ rest, p ∈ news) (h5 : vs.length < 1000) (hok : ∀ kx ∈ toks, okTok kx = true)
    (hs : (sl, listOf ss.toArray n2) ∈ news) (Ss : Ws ss texts) (ht : ∀ x ∈ texts, TextOk x) (h1 : 0 ≤ b) (h2 : b < 1000)
    (ret : ∀ t h' tk', Fr h₀ L h' m → News h₀ L h' news → Q (.int (longest toks b texts) t) { s with heap := h', toks := tk' }) :
    wpAny (model prog w) (ktrTop dp un gd cn cs L a ccd cl outer) (call (.ref 327) [.ref l, .int b tb, .ref sl]) Q E s := by
  have hz : vs.toArray.size ≤ sizeLine := by rw [List.size_toArray]; exact Nat.le_trans (Nat.le_of_lt h5) (by size_fits)
  refine wpAny_call ?_
  k_dflt k_enter
  k_steps
  (rename Fr _ _ _ _ => F1); (rename News _ _ _ _ => N1)
  refine' For_invVF F1 rfl rfl ?_
  refine ld F1 (by rfl) ?_
  refine iter_one (Str.ofString "found") [Str.ofString "wanted"] (fun i v => ∃ t, v = .int (longest toks b (texts.take i)) t) rfl hs (.inl rfl) rfl F1 N1 rfl ⟨_, rfl⟩ ?_ ?_
  · rintro i v a u h tk I oI hv ⟨ta', rfl⟩ hoff F2 N2
    obtain ⟨text, tw', rfl, hw⟩ := Ss.at _ _ hv
    have hX := ht text (List.mem_of_getElem? hw)
    clear F1 N1
    with_reducible show wpAny _ _ _ _ _ _
    k_fold
    k_steps
    all_goals (
      (rename Fr _ _ _ _ => F3); (rename News _ _ _ _ => N3); (rename (List.length _ = List.length _) => hn)
      exact gp_one F3 N3 (by ktr_unf) hoff hs (by rfl) (by first | exact r_long1 hw hn (by assumption) | exact r_long0 hw hn (by assumption)) (by
        intro z z1 z2 z3
        have z4 : ¬ z = Str.ofString "wanted" := fun e => by rw [e] at z3; exact absurd z3 (by decide)
        simp only [if_neg z1, if_neg z2, if_neg z4, z3, Bool.false_eq_true, if_false]))
  rintro u a h tk ⟨tc, rfl⟩ F2 N2
  rw [Ss.len, List.take_length] at F2
  clear F1 N1
  with_reducible show wpAny _ _ _ _ _ _
  k_steps
  (rename Fr _ _ _ _ => F3); (rename News _ _ _ _ => N3)
  exact end_open ret F3 N3 (by ktr_unf) rfl
end
section
noncomputable def wordsAt (t : List (Str × Str)) (i : Int) : List Str → Bool
  | [] => true
  | x :: r => isWord t i x && wordsAt t (i + 1) r
theorem take_words (t : List (Str × Str)) : ∀ (ws : List Str) (i : Int), 0 ≤ i → ((t.drop i.toNat).take ws.length = ws.map (fun x => (wordK, x)) ↔ wordsAt t i ws = true)
  | [], i, _ => by simp [wordsAt]
  | x :: r, i, h => by
    have ih := take_words t r (i + 1) (by omega)
    have e : (i + 1).toNat = i.toNat + 1 := by omega
    rw [e] at ih
    rw [wordsAt, Bool.and_eq_true, ← ih]
    unfold isWord
    rw [decide_eq_true_eq, List.length_cons, List.map_cons]
    by_cases hi : i.toNat < t.length
    · rw [List.drop_eq_getElem_cons hi, List.take_succ_cons, List.cons.injEq, List.getElem?_eq_getElem hi, Option.some.injEq]
    · rw [List.drop_eq_nil_of_le (by omega), List.getElem?_eq_none (by omega)]
      simp
theorem isWord_excl {t : List (Str × Str)} {i : Int} {x y : Str} (h : x ≠ y) : ¬ (isWord t i x = true ∧ isWord t i y = true) := by
  unfold isWord
  rw [decide_eq_true_eq, decide_eq_true_eq]
  rintro ⟨h1, h2⟩
  rw [h1] at h2
  exact h (by simpa using h2)
/-- the texts of a key, by their words -/
noncomputable def longW (t : List (Str × Str)) (b : Int) (wss : List (List Str)) : Int := wss.foldl (fun f ws => if wordsAt t b ws = true then (if (ws.length : Int) > f then (ws.length : Int) else f) else f) 0
theorem longest_words {t : List (Str × Str)} {b : Int} (h : 0 ≤ b) : ∀ {texts : List Str} {wss : List (List Str)}, texts.map (fun x => Txt.split x (Str.ofString " ")) = wss → longest t b texts = longW t b wss := by
  rintro texts wss rfl
  unfold longest longW
  rw [List.foldl_map]
  congr 1
  funext f x
  unfold longStep
  have q := take_words t (Txt.split x (Str.ofString " ")) b h
  have el : (wtoks x).length = (Txt.split x (Str.ofString " ")).length := by unfold wtoks; rw [List.length_map]
  rw [el]
  by_cases c : wordsAt t b (Txt.split x (Str.ofString " ")) = true
  · rw [if_pos c]
    exact if_pos (q.mpr c)
  · rw [if_neg c]
    exact if_neg fun r => c (q.mp r)
abbrev so (x : String) : Str := Str.ofString x
theorem law_size (t : List (Str × Str)) (b : Int) (h : 0 ≤ b) : openFn t b false false [so "ON"] [so "SIZE", so "ERROR"] [] = longest t b [so "SIZE ERROR", so "ON SIZE ERROR"] := by
  rw [longest_words h (wss := [[so "SIZE", so "ERROR"], [so "ON", so "SIZE", so "ERROR"]]) (by decide +kernel)]
  have x1 := isWord_excl (t := t) (i := b) (x := so "ERROR") (y := so "ON") (by decide)
  have x2 := isWord_excl (t := t) (i := b) (x := so "ERROR") (y := so "SIZE") (by decide)
  have x3 := isWord_excl (t := t) (i := b) (x := so "ON") (y := so "SIZE") (by decide)
  simp only [openFn, adv, need, longW, wordsAt, List.foldl, Int.add_zero, Int.zero_add, Bool.false_and, Bool.true_and, Bool.and_true, Bool.false_eq_true, if_false, if_true, List.length_cons, List.length_nil]
  cases c1 : isWord t (b) (so "ON") <;> simp only [c1, Int.add_zero, Int.add_assoc, Int.reduceAdd, Bool.false_and, Bool.true_and, Bool.false_eq_true, if_false, if_true, true_and, false_and, not_true, not_false_eq_true, and_true, and_false] at *
  all_goals ((repeat' split) <;> simp_all <;> omega)
theorem law_not_size (t : List (Str × Str)) (b : Int) (h : 0 ≤ b) : openFn t b true false [so "ON"] [so "SIZE", so "ERROR"] [] = longest t b [so "NOT SIZE ERROR", so "NOT ON SIZE ERROR"] := by
  rw [longest_words h (wss := [[so "NOT", so "SIZE", so "ERROR"], [so "NOT", so "ON", so "SIZE", so "ERROR"]]) (by decide +kernel)]
  have x1 := isWord_excl (t := t) (i := b + 1) (x := so "ERROR") (y := so "ON") (by decide)
  have x2 := isWord_excl (t := t) (i := b + 1) (x := so "ERROR") (y := so "SIZE") (by decide)
  have x3 := isWord_excl (t := t) (i := b + 1) (x := so "ON") (y := so "SIZE") (by decide)
  simp only [openFn, adv, need, longW, wordsAt, List.foldl, Int.add_zero, Int.zero_add, Bool.false_and, Bool.true_and, Bool.and_true, Bool.false_eq_true, if_false, if_true, List.length_cons, List.length_nil]
  cases c0 : isWord t b (so "NOT") <;> simp only [c0, Bool.not_true, Bool.not_false, Bool.false_and, Bool.true_and, Bool.false_eq_true, if_false, if_true]
  cases c1 : isWord t (b + 1) (so "ON") <;> simp only [c1, Int.add_zero, Int.add_assoc, Int.reduceAdd, Bool.false_and, Bool.true_and, Bool.false_eq_true, if_false, if_true, true_and, false_and, not_true, not_false_eq_true, and_true, and_false] at *
  all_goals ((repeat' split) <;> simp_all <;> omega)
theorem law_over (t : List (Str × Str)) (b : Int) (h : 0 ≤ b) : openFn t b false false [so "ON"] [so "OVERFLOW"] [] = longest t b [so "OVERFLOW", so "ON OVERFLOW"] := by
  rw [longest_words h (wss := [[so "OVERFLOW"], [so "ON", so "OVERFLOW"]]) (by decide +kernel)]
  have x1 := isWord_excl (t := t) (i := b) (x := so "ON") (y := so "OVERFLOW") (by decide)
  simp only [openFn, adv, need, longW, wordsAt, List.foldl, Int.add_zero, Int.zero_add, Bool.false_and, Bool.true_and, Bool.and_true, Bool.false_eq_true, if_false, if_true, List.length_cons, List.length_nil]
  cases c1 : isWord t (b) (so "ON") <;> simp only [c1, Int.add_zero, Int.add_assoc, Int.reduceAdd, Bool.false_and, Bool.true_and, Bool.false_eq_true, if_false, if_true, true_and, false_and, not_true, not_false_eq_true, and_true, and_false] at *
  all_goals ((repeat' split) <;> simp_all <;> omega)
theorem law_not_over (t : List (Str × Str)) (b : Int) (h : 0 ≤ b) : openFn t b true false [so "ON"] [so "OVERFLOW"] [] = longest t b [so "NOT OVERFLOW", so "NOT ON OVERFLOW"] := by
  rw [longest_words h (wss := [[so "NOT", so "OVERFLOW"], [so "NOT", so "ON", so "OVERFLOW"]]) (by decide +kernel)]
  have x1 := isWord_excl (t := t) (i := b + 1) (x := so "ON") (y := so "OVERFLOW") (by decide)
  simp only [openFn, adv, need, longW, wordsAt, List.foldl, Int.add_zero, Int.zero_add, Bool.false_and, Bool.true_and, Bool.and_true, Bool.false_eq_true, if_false, if_true, List.length_cons, List.length_nil]
  cases c0 : isWord t b (so "NOT") <;> simp only [c0, Bool.not_true, Bool.not_false, Bool.false_and, Bool.true_and, Bool.false_eq_true, if_false, if_true]
  cases c1 : isWord t (b + 1) (so "ON") <;> simp only [c1, Int.add_zero, Int.add_assoc, Int.reduceAdd, Bool.false_and, Bool.true_and, Bool.false_eq_true, if_false, if_true, true_and, false_and, not_true, not_false_eq_true, and_true, and_false] at *
  all_goals ((repeat' split) <;> simp_all <;> omega)
theorem law_end (t : List (Str × Str)) (b : Int) (h : 0 ≤ b) : openFn t b false false [so "AT"] [so "END"] [] = longest t b [so "END", so "AT END"] := by
  rw [longest_words h (wss := [[so "END"], [so "AT", so "END"]]) (by decide +kernel)]
  have x1 := isWord_excl (t := t) (i := b) (x := so "AT") (y := so "END") (by decide)
  simp only [openFn, adv, need, longW, wordsAt, List.foldl, Int.add_zero, Int.zero_add, Bool.false_and, Bool.true_and, Bool.and_true, Bool.false_eq_true, if_false, if_true, List.length_cons, List.length_nil]
  cases c1 : isWord t (b) (so "AT") <;> simp only [c1, Int.add_zero, Int.add_assoc, Int.reduceAdd, Bool.false_and, Bool.true_and, Bool.false_eq_true, if_false, if_true, true_and, false_and, not_true, not_false_eq_true, and_true, and_false] at *
  all_goals ((repeat' split) <;> simp_all <;> omega)
theorem law_not_end (t : List (Str × Str)) (b : Int) (h : 0 ≤ b) : openFn t b true false [so "AT"] [so "END"] [] = longest t b [so "NOT END", so "NOT AT END"] := by
  rw [longest_words h (wss := [[so "NOT", so "END"], [so "NOT", so "AT", so "END"]]) (by decide +kernel)]
  have x1 := isWord_excl (t := t) (i := b + 1) (x := so "AT") (y := so "END") (by decide)
  simp only [openFn, adv, need, longW, wordsAt, List.foldl, Int.add_zero, Int.zero_add, Bool.false_and, Bool.true_and, Bool.and_true, Bool.false_eq_true, if_false, if_true, List.length_cons, List.length_nil]
  cases c0 : isWord t b (so "NOT") <;> simp only [c0, Bool.not_true, Bool.not_false, Bool.false_and, Bool.true_and, Bool.false_eq_true, if_false, if_true]
  cases c1 : isWord t (b + 1) (so "AT") <;> simp only [c1, Int.add_zero, Int.add_assoc, Int.reduceAdd, Bool.false_and, Bool.true_and, Bool.false_eq_true, if_false, if_true, true_and, false_and, not_true, not_false_eq_true, and_true, and_false] at *
  all_goals ((repeat' split) <;> simp_all <;> omega)
theorem law_invalid (t : List (Str × Str)) (b : Int) (h : 0 ≤ b) : openFn t b false false [] [so "INVALID"] [so "KEY"] = longest t b [so "INVALID", so "INVALID KEY"] := by
  rw [longest_words h (wss := [[so "INVALID"], [so "INVALID", so "KEY"]]) (by decide +kernel)]
  simp only [openFn, adv, need, longW, wordsAt, List.foldl, Int.add_zero, Int.zero_add, Bool.false_and, Bool.true_and, Bool.and_true, Bool.false_eq_true, if_false, if_true, List.length_cons, List.length_nil]
  (repeat' split) <;> simp_all <;> first | omega | skip
theorem law_not_invalid (t : List (Str × Str)) (b : Int) (h : 0 ≤ b) : openFn t b true false [] [so "INVALID"] [so "KEY"] = longest t b [so "NOT INVALID", so "NOT INVALID KEY"] := by
  rw [longest_words h (wss := [[so "NOT", so "INVALID"], [so "NOT", so "INVALID", so "KEY"]]) (by decide +kernel)]
  simp only [openFn, adv, need, longW, wordsAt, List.foldl, Int.add_zero, Int.zero_add, Bool.false_and, Bool.true_and, Bool.and_true, Bool.false_eq_true, if_false, if_true, List.length_cons, List.length_nil]
  cases c0 : isWord t b (so "NOT") <;> simp only [c0, Bool.not_true, Bool.not_false, Bool.false_and, Bool.true_and, Bool.false_eq_true, if_false, if_true]
  simp only [Int.add_assoc, Int.reduceAdd]
  (repeat' split) <;> simp_all <;> first | omega | skip
theorem law_fault (t : List (Str × Str)) (b : Int) (h : 0 ≤ b) : openFn t b false true [so "ON"] [so "EXCEPTION"] [] = longest t b [so "EXCEPTION", so "ON EXCEPTION", so "OVERFLOW", so "ON OVERFLOW"] := by
  rw [longest_words h (wss := [[so "EXCEPTION"], [so "ON", so "EXCEPTION"], [so "OVERFLOW"], [so "ON", so "OVERFLOW"]]) (by decide +kernel)]
  have x1 := isWord_excl (t := t) (i := b) (x := so "EXCEPTION") (y := so "ON") (by decide)
  have x2 := isWord_excl (t := t) (i := b) (x := so "EXCEPTION") (y := so "OVERFLOW") (by decide)
  have x3 := isWord_excl (t := t) (i := b) (x := so "ON") (y := so "OVERFLOW") (by decide)
  simp only [openFn, adv, need, longW, wordsAt, List.foldl, Int.add_zero, Int.zero_add, Bool.false_and, Bool.true_and, Bool.and_true, Bool.false_eq_true, if_false, if_true, List.length_cons, List.length_nil]
  cases c1 : isWord t (b) (so "ON") <;> simp only [c1, Int.add_zero, Int.add_assoc, Int.reduceAdd, Bool.false_and, Bool.true_and, Bool.false_eq_true, if_false, if_true, true_and, false_and, not_true, not_false_eq_true, and_true, and_false] at *
  all_goals ((repeat' split) <;> simp_all <;> omega)
theorem law_not_fault (t : List (Str × Str)) (b : Int) (h : 0 ≤ b) : openFn t b true false [so "ON"] [so "EXCEPTION"] [] = longest t b [so "NOT EXCEPTION", so "NOT ON EXCEPTION"] := by
  rw [longest_words h (wss := [[so "NOT", so "EXCEPTION"], [so "NOT", so "ON", so "EXCEPTION"]]) (by decide +kernel)]
  have x1 := isWord_excl (t := t) (i := b + 1) (x := so "EXCEPTION") (y := so "ON") (by decide)
  simp only [openFn, adv, need, longW, wordsAt, List.foldl, Int.add_zero, Int.zero_add, Bool.false_and, Bool.true_and, Bool.and_true, Bool.false_eq_true, if_false, if_true, List.length_cons, List.length_nil]
  cases c0 : isWord t b (so "NOT") <;> simp only [c0, Bool.not_true, Bool.not_false, Bool.false_and, Bool.true_and, Bool.false_eq_true, if_false, if_true]
  cases c1 : isWord t (b + 1) (so "ON") <;> simp only [c1, Int.add_zero, Int.add_assoc, Int.reduceAdd, Bool.false_and, Bool.true_and, Bool.false_eq_true, if_false, if_true, true_and, false_and, not_true, not_false_eq_true, and_true, and_false] at *
  all_goals ((repeat' split) <;> simp_all <;> omega)
end
section
/-- the keys and their texts, as _law_spellings lays them -/
def spellTab : List (Str × List Str) := [(so "size", [so "SIZE ERROR", so "ON SIZE ERROR"]), (so "over", [so "OVERFLOW", so "ON OVERFLOW"]), (so "end", [so "END", so "AT END"]), (so "invalid", [so "INVALID", so "INVALID KEY"]), (so "not size", [so "NOT SIZE ERROR", so "NOT ON SIZE ERROR"]), (so "not over", [so "NOT OVERFLOW", so "NOT ON OVERFLOW"]), (so "not end", [so "NOT END", so "NOT AT END"]), (so "not invalid", [so "NOT INVALID", so "NOT INVALID KEY"]), (so "fault", [so "EXCEPTION", so "ON EXCEPTION", so "OVERFLOW", so "ON OVERFLOW"]), (so "not fault", [so "NOT EXCEPTION", so "NOT ON EXCEPTION"])]
def spellOf (key : Str) : List Str := (spellTab.lookup key).getD []
def isKey (key : Str) : Prop := key ∈ spellTab.map (·.1)
theorem opening_c {w : World} {p : Program} {loose : List Str} {mean : ExcName → Option Value} {mg mb : Str → Option Value} {prog : Program}
    {dp un : Nat} {gd : Option (List Code)} {cn : Str} {cs : Scope} {a : Addr} {ccd : Value} {cl : List (Str × Addr)} {outer : List Env} {A₀ : Around} {base h₀ : Heap} {L : Addr} {m : Str → Option Value} {s : Shared} {Q E : Value → Shared → Prop}
    {x dx tl nd : Addr} {t1 t2 t3 ta tw : Tok} {at_ : Int} {n : Nat} {vs : List Value} {toks : List (Str × Str)} {news rest : List (Addr × Obj)} {key : Str}
    (hkey : isKey key) (hk : cs.kind = .function) (hd : dp ≤ 650) (hu : un ≤ 300)
    (B : Below A₀ base outer h₀) (F : Fr h₀ L s.heap m) (X : (KF w.params).In h₀) (N : News h₀ L s.heap news) (T : Top p loose mean mg mb h₀)
    (hx : (x, instObj 252 dx) ∈ news) (hdx : (dx, rdDict w t1 t2 t3 tl at_ ta nd) ∈ news) (htl : (tl, listOf vs.toArray n) ∈ news) (V : TokAll w rest vs toks) (hsub : ∀ p ∈ rest, p ∈ news)
    (h1 : 0 ≤ at_) (h2 : at_ < 1000) (h5 : vs.length < 1000)
    (ret : ∀ t h' tk', Fr h₀ L h' m → News h₀ L h' news → Q (.int (longest toks at_ (spellOf key)) t) { s with heap := h', toks := tk' }) :
    wpAny (model prog w) (ktrTop dp un gd cn cs L a ccd cl outer) (call (.ref 42) [.ref x, .str key tw]) Q E s := by
  unfold isKey at hkey
  simp only [spellTab, List.map_cons, List.map_nil, List.mem_cons, List.not_mem_nil, or_false] at hkey
  rcases hkey with rfl | rfl | rfl | rfl | rfl | rfl | rfl | rfl | rfl | rfl
  · have e : spellOf (so "size") = [so "SIZE ERROR", so "ON SIZE ERROR"] := by decide +kernel
    refine opening_size hk hd hu B F X N T hx hdx htl V hsub h1 h2 h5 fun t h' tk' F' N' => ?_
    have r := ret t h' tk' F' N'
    rw [e, ← law_size toks at_ h1] at r
    exact r
  · have e : spellOf (so "over") = [so "OVERFLOW", so "ON OVERFLOW"] := by decide +kernel
    refine opening_over hk hd hu B F X N T hx hdx htl V hsub h1 h2 h5 fun t h' tk' F' N' => ?_
    have r := ret t h' tk' F' N'
    rw [e, ← law_over toks at_ h1] at r
    exact r
  · have e : spellOf (so "end") = [so "END", so "AT END"] := by decide +kernel
    refine opening_end hk hd hu B F X N T hx hdx htl V hsub h1 h2 h5 fun t h' tk' F' N' => ?_
    have r := ret t h' tk' F' N'
    rw [e, ← law_end toks at_ h1] at r
    exact r
  · have e : spellOf (so "invalid") = [so "INVALID", so "INVALID KEY"] := by decide +kernel
    refine opening_invalid hk hd hu B F X N T hx hdx htl V hsub h1 h2 h5 fun t h' tk' F' N' => ?_
    have r := ret t h' tk' F' N'
    rw [e, ← law_invalid toks at_ h1] at r
    exact r
  · have e : spellOf (so "not size") = [so "NOT SIZE ERROR", so "NOT ON SIZE ERROR"] := by decide +kernel
    refine opening_not_size hk hd hu B F X N T hx hdx htl V hsub h1 h2 h5 fun t h' tk' F' N' => ?_
    have r := ret t h' tk' F' N'
    rw [e, ← law_not_size toks at_ h1] at r
    exact r
  · have e : spellOf (so "not over") = [so "NOT OVERFLOW", so "NOT ON OVERFLOW"] := by decide +kernel
    refine opening_not_over hk hd hu B F X N T hx hdx htl V hsub h1 h2 h5 fun t h' tk' F' N' => ?_
    have r := ret t h' tk' F' N'
    rw [e, ← law_not_over toks at_ h1] at r
    exact r
  · have e : spellOf (so "not end") = [so "NOT END", so "NOT AT END"] := by decide +kernel
    refine opening_not_end hk hd hu B F X N T hx hdx htl V hsub h1 h2 h5 fun t h' tk' F' N' => ?_
    have r := ret t h' tk' F' N'
    rw [e, ← law_not_end toks at_ h1] at r
    exact r
  · have e : spellOf (so "not invalid") = [so "NOT INVALID", so "NOT INVALID KEY"] := by decide +kernel
    refine opening_not_invalid hk hd hu B F X N T hx hdx htl V hsub h1 h2 h5 fun t h' tk' F' N' => ?_
    have r := ret t h' tk' F' N'
    rw [e, ← law_not_invalid toks at_ h1] at r
    exact r
  · have e : spellOf (so "fault") = [so "EXCEPTION", so "ON EXCEPTION", so "OVERFLOW", so "ON OVERFLOW"] := by decide +kernel
    refine opening_fault hk hd hu B F X N T hx hdx htl V hsub h1 h2 h5 fun t h' tk' F' N' => ?_
    have r := ret t h' tk' F' N'
    rw [e, ← law_fault toks at_ h1] at r
    exact r
  · have e : spellOf (so "not fault") = [so "NOT EXCEPTION", so "NOT ON EXCEPTION"] := by decide +kernel
    refine opening_not_fault hk hd hu B F X N T hx hdx htl V hsub h1 h2 h5 fun t h' tk' F' N' => ?_
    have r := ret t h' tk' F' N'
    rw [e, ← law_not_fault toks at_ h1] at r
    exact r
theorem textOk_spell : ∀ {key x : Str}, isKey key → x ∈ spellOf key → TextOk x := by
  have h : ∀ q ∈ spellTab, spellOf q.1 = q.2 ∧ ∀ x ∈ q.2, (x == Str.ofString "") = false ∧ Nat.ble (x.length + 2) 1000 = true ∧ Nat.ble ((wtoks x).length + 1) 1000 = true ∧ (wtoks x).all okTok = true := by decide +kernel
  intro key x hk hx
  unfold isKey at hk
  obtain ⟨q, hq, rfl⟩ := List.mem_map.mp hk
  obtain ⟨e, r⟩ := h q hq
  rw [e] at hx
  obtain ⟨a, b, c, d⟩ := r x hx
  exact ⟨a, Nat.le_trans (Nat.le_of_ble_eq_true b) (by size_fits), Nat.le_of_ble_eq_true c, List.all_eq_true.mp d⟩
/-- the dict of spellings, as the ledger bears it: its items beside a table's -/
inductive SpAll (news : List (Addr × Obj)) : List (Str × Value) → List (Str × List Str) → Prop
  | nil : SpAll news [] []
  | cons {sl : Addr} {ss : List Value} {n : Nat} {k : Str} {texts : List Str} {kvs : List (Str × Value)} {tab : List (Str × List Str)} : (sl, listOf ss.toArray n) ∈ news → Ws ss texts → SpAll news kvs tab → SpAll news ((k, .ref sl) :: kvs) ((k, texts) :: tab)
theorem SpAll.mono {a b : List (Addr × Obj)} {kvs : List (Str × Value)} {tab : List (Str × List Str)} (h : SpAll a kvs tab) (hs : ∀ p ∈ a, p ∈ b) : SpAll b kvs tab := by
  induction h with
  | nil => exact .nil
  | cons h1 h2 _ ih => exact .cons (hs _ h1) h2 ih
theorem SpAll.snoc {a : List (Addr × Obj)} {kvs : List (Str × Value)} {tab : List (Str × List Str)} {sl : Addr} {ss : List Value} {n : Nat} {k : Str} {texts : List Str} (h : SpAll a kvs tab) (h1 : (sl, listOf ss.toArray n) ∈ a) (h2 : Ws ss texts) : SpAll a (kvs ++ [(k, .ref sl)]) (tab ++ [(k, texts)]) := by
  induction h with
  | nil => exact .cons h1 h2 .nil
  | cons g1 g2 _ ih => exact .cons g1 g2 ih
theorem SpAll.keys {a : List (Addr × Obj)} {kvs : List (Str × Value)} {tab : List (Str × List Str)} (h : SpAll a kvs tab) : kvs.map (·.1) = tab.map (·.1) := by
  induction h with
  | nil => rfl
  | cons _ _ _ ih => rw [List.map_cons, List.map_cons, ih]
theorem SpAll.find {a : List (Addr × Obj)} {kvs : List (Str × Value)} {tab : List (Str × List Str)} (h : SpAll a kvs tab) {key : Str} {texts : List Str} (e : tab.lookup key = some texts) : ∃ sl ss n, valueAt kvs key = some (.ref sl) ∧ (sl, listOf ss.toArray n) ∈ a ∧ Ws ss texts := by
  induction h with
  | nil => cases e
  | @cons sl ss n k texts' kvs tab g1 g2 g3 ih =>
    rw [List.lookup_cons] at e
    unfold valueAt
    rw [List.find?_cons]
    by_cases q : key = k
    · subst q
      simp only [beq_self_eq_true, Option.some.injEq] at e
      subst e
      exact ⟨sl, ss, n, by simp, g1, g2⟩
    · have q1 : (key == k) = false := by simp [q]
      rw [q1] at e
      obtain ⟨sl', ss', n', r1, r2, r3⟩ := ih e
      refine ⟨sl', ss', n', ?_, r2, r3⟩
      have q2 : decide (k = key) = false := by simp; exact fun x => q x.symm
      simp only [q2]
      exact r1
def SpIn (prog : Program) (w : World) (news : List (Addr × Obj)) (sp : Addr) : Prop :=
  (sp == sysModules) = false ∧ ∃ o kvs, (sp, o) ∈ news ∧ o.IsDictOf (PySem.strKind prog w) kvs ∧ SpAll news kvs spellTab
theorem SpIn.mono {prog : Program} {w : World} {a b : List (Addr × Obj)} {sp : Addr} (h : SpIn prog w a sp) (hs : ∀ p ∈ a, p ∈ b) : SpIn prog w b sp := by
  obtain ⟨lo, o, kvs, h1, h2, h3⟩ := h
  exact ⟨lo, o, kvs, hs _ h1, h2, h3.mono hs⟩
theorem spell_lookup {key : Str} (h : isKey key) : spellTab.lookup key = some (spellOf key) := by
  have q : ∀ k ∈ spellTab.map (·.1), spellTab.lookup k = some (spellOf k) := by decide +kernel
  exact q key h
theorem sp_item {prog : Program} {w : World} {A : Around} {E : Value → Shared → Prop} {s : Shared} {Q : Value → Shared → Prop} {h₀ : Heap} {L sp : Addr} {news : List (Addr × Obj)} {key : Str} {tk : Tok} {value slice : PySem.Expr}
    (N : News h₀ L s.heap news) (S : SpIn prog w news sp) (hkey : isKey key)
    (h : ∀ sl ss k, (sl, listOf ss.toArray k) ∈ news → Ws ss (spellOf key) → Q (.ref sl) { s with toks := s.toks + 1 })
    (hs : subscripted slice false (.ref sp) (.str key tk) = operate [.ref sp, .str key tk] (getItem (.ref sp) (.str key tk)) := by with_unfolding_all rfl) (hg : ∀ r, letTemporaryGo value (.ref sp) r = pure () := by intro _; with_unfolding_all rfl) :
    wpAny (model prog w) A (subscriptTail value slice (.ref sp) (.str key tk)) Q E s := by
  obtain ⟨lo, o, kvs, h1, h2, h3⟩ := S
  obtain ⟨sl, ss, n, e, f, g⟩ := h3.find (spell_lookup hkey)
  exact kda_item N h1 h2 (strKind_is _ _ _ _) e (h sl ss n f g) hs hg
end
section
local macro_rules | `(tactic| walk_at "pad own") => `(tactic| skip)
inductive Bs : List Value → List Int → Prop
  | nil : Bs [] []
  | cons {vs : List Value} {bs : List Int} (b : Int) (t : Tok) : Bs vs bs → Bs (.int b t :: vs) (b :: bs)
theorem Bs.at : ∀ {vs : List Value} {bs : List Int}, Bs vs bs → ∀ (i : Nat) (v : Value), vs[i]? = some v → ∃ b t, v = .int b t ∧ b ∈ bs
  | _, _, .cons m t _, 0, v, e => by simp at e; exact ⟨m, t, e.symm, .head _⟩
  | _, _, .cons _ _ h, i + 1, v, e => by
    obtain ⟨b, t, e1, e2⟩ := h.at i v (by simpa using e)
    exact ⟨b, t, e1, .tail _ e2⟩
theorem hoffX {w : World} {x dx tl I nd : Addr} {t1 t2 t3 ta tb : Tok} {a b : Int} {o o2 : Obj} {news : List (Addr × Obj)} (h : ∀ p ∈ (x, o) :: (dx, rdDict w t1 t2 t3 tl a ta nd) :: (tl, o2) :: news, p.1 ≠ I) : ∀ p ∈ (x, o) :: (dx, rdDict w t1 t2 t3 tl b tb nd) :: (tl, o2) :: news, p.1 ≠ I := by
  intro p hp
  rcases List.mem_cons.mp hp with rfl | hp
  · exact h _ (.head _)
  · rcases List.mem_cons.mp hp with rfl | hp
    · exact h (dx, rdDict w t1 t2 t3 tl a ta nd) (.tail _ (.head _))
    · exact h p (.tail _ (.tail _ hp))
theorem TokAll.len {w : World} {a : List (Addr × Obj)} {vs : List Value} {toks : List (Str × Str)} (h : TokAll w a vs toks) : vs.length = toks.length := h.1
theorem gp_keep {h₀ : Heap} {Q : Flow → Shared → Prop} {L I l : Addr} {oI ol : Obj} {J : (Str → Option Value) → List (Addr × Obj) → Prop} {news all : List (Addr × Obj)} {m' : Str → Option Value} {s₁ : Shared} {h' : Heap} {tk : Nat}
    (F : Fr h₀ L h' m') (N : News h₀ L h' all) (sub : ∀ p ∈ (I, oI) :: news, p ∈ all) (off : ∀ p ∈ news, p.1 ≠ I) (hs : (l, ol) ∈ news) (hJ : J m' news) :
    GPost h₀ L I oI [(l, ol)] J s₁ Q .next { s₁ with heap := h', toks := tk } :=
  GEnd.intro F N news sub off (fun p hp => by rw [List.mem_singleton.mp hp]; exact hs) hJ
local macro_rules | `(tactic| k_all) => `(tactic| assumption)
local macro_rules | `(tactic| walk_at "call ref") => `(tactic| (k_here; (with_reducible show wpAny _ _ (call (Value.ref 315) [Value.ref _]) _ _ _); (with_reducible rename TupAll _ _ _ => hV9); k_dflt (refine' reader_c ?kK ?kd ?ku ?k1 ?k2 ?k3 ?k4 ?k5 ?m1 (TupAll.mono hV9 ?sb) ?b1 ?_; (case kK => first | exact rfl | assumption); (case kd => ((try dsimp only [ktrTop, Around.deeper]); omega)); (case ku => ((try dsimp only [ktrTop, Around.deeper]); omega)); (case k1 => k_asm); (case k2 => k_asm); (case k3 => k_asm); (case k4 => k_asm); (case k5 => k_asm); (case m1 => k_mem); (case sb => ktr_unf); (case b1 => assumption); k_whole); intro x9 dx9 tl9 nd9 us9 n9 t91 t92 t93 ta9 own9 h9 tk9 F9 N9 V9 ne91 ne92 ne93; (try k_fold)))
local macro_rules | `(tactic| walk_at "call ref") => `(tactic| (k_here; (with_reducible show wpAny _ _ (call (Value.ref 42) [Value.ref _, Value.str _ _]) _ _ _); (with_reducible rename isKey _ => hK9); (with_reducible rename TokAll _ _ _ _ => hV9); k_dflt (refine' opening_c hK9 ?kK ?kd ?ku ?k1 ?k2 ?k3 ?k4 ?k5 ?m1 ?m2 ?m3 hV9 ?sb ?b1 ?b2 ?b3 ?_; (case kK => first | exact rfl | assumption); (case kd => ((try dsimp only [ktrTop, Around.deeper]); omega)); (case ku => ((try dsimp only [ktrTop, Around.deeper]); omega)); (case k1 => k_asm); (case k2 => k_asm); (case k3 => k_asm); (case k4 => k_asm); (case k5 => k_asm); (case m1 => k_mem); (case m2 => k_mem); (case m3 => k_mem); (case sb => ktr_unf); (case b1 => assumption); (case b2 => assumption); (case b3 => assumption); k_whole); intro t9 h9 tk9 F9 N9; (try k_fold)))
local macro_rules | `(tactic| walk_at "call ref") => `(tactic| (k_here; (with_reducible show wpAny _ _ (call (Value.ref 327) [Value.ref _, Value.int _ _, Value.ref _]) _ _ _); (with_reducible rename TupAll _ _ _ => hV9); (with_reducible rename Ws _ (spellOf _) => hS9); (with_reducible rename isKey _ => hK9); k_dflt (refine' longest_c ?kK ?kd ?ku ?k1 ?k2 ?k3 ?k4 ?k5 ?m1 hV9 ?sb ?b1 ?b2 ?m2 hS9 (fun _ h9 => textOk_spell hK9 h9) ?b3 ?b4 ?_; (case kK => first | exact rfl | assumption); (case kd => ((try dsimp only [ktrTop, Around.deeper]); omega)); (case ku => ((try dsimp only [ktrTop, Around.deeper]); omega)); (case k1 => k_asm); (case k2 => k_asm); (case k3 => k_asm); (case k4 => k_asm); (case k5 => k_asm); (case m1 => k_mem); (case m2 => k_mem); (case sb => ktr_unf); (case b1 => assumption); (case b2 => assumption); (case b3 => assumption); (case b4 => assumption); k_whole); intro t9 h9 tk9 F9 N9; (try k_fold)))
local macro_rules | `(tactic| walk_at "subscriptTail") => `(tactic| (k_here; (with_reducible show wpAny _ _ (subscriptTail _ _ (Value.ref _) (Value.str _ _)) _ _ _); (with_reducible rename SpIn _ _ _ _ => hS9); (with_reducible rename isKey _ => hK9); k_dflt (refine' sp_item ?N (SpIn.mono hS9 ?sb) hK9 ?_ ?hs ?hg; (case N => k_asm); (case sb => ktr_unf); (case hs => with_unfolding_all rfl); (case hg => (intro _; with_unfolding_all rfl)); k_whole); intro sl9 ss9 k9 m9 w9))
abbrev rtMap (l bl kl sp x : Addr) (m : Str → Option Value) : Str → Option Value := fun z => if z = Str.ofString "tokens" then some (.ref l) else if z = Str.ofString "begins" then some (.ref bl) else if z = Str.ofString "keys" then some (.ref kl) else if z = Str.ofString "spellings" then some (.ref sp) else if z = Str.ofString "reader" then some (.ref x) else m z
set_option maxHeartbeats 4000000 in
theorem right_tail {w : World} {p : Program} {loose : List Str} {mean : ExcName → Option Value} {mg mb : Str → Option Value} {prog : Program}
    {dp un : Nat} {gd : Option (List Code)} {outer : List Env} {A₀ : Around} {base h₀ : Heap} {L : Addr} {m : Str → Option Value} {s : Shared} {Q : Flow → Shared → Prop} {E : Value → Shared → Prop}
    {news rest rest2 : List (Addr × Obj)} {x dx tl nd l bl kl sp : Addr} {t1 t2 t3 ta : Tok} {vs us bvs kvs : List Value} {n n' nb nk : Nat} {toks : List (Str × Str)} {bs : List Int} {ks : List Str}
    (hE : PassesOwn (model prog w) (ktrTop dp un gd (Str.ofString "_law_right") (fnScope (stm 20)) L 334 (.ref 333) [] outer) (envX (Str.ofString "_law_right") (fnScope (stm 20)) L 334 (.ref 333) []) E) (hd : dp ≤ 570) (hu : un ≤ 220)
    (B : Below A₀ base outer h₀) (F : Fr h₀ L s.heap m) (X : (KF w.params).In h₀) (N : News h₀ L s.heap ((x, instObj 252 dx) :: (dx, rdDict w t1 t2 t3 tl 0 ta nd) :: (tl, listOf us.toArray n') :: news)) (T : Top p loose mean mg mb h₀)
    (n1 : @Ne Nat x dx) (n2 : @Ne Nat tl dx) (n3 : ∀ p ∈ news, p.1 ≠ dx) (Vt : TokAll w rest2 us toks) (hsub2 : ∀ p ∈ rest2, p ∈ news) (h6 : us.length < 1000)
    (hl : (l, listOf vs.toArray n) ∈ news) (V : TupAll rest vs toks) (hsub : ∀ p ∈ rest, p ∈ news) (h5 : vs.length < 1000) (hok : ∀ kx ∈ toks, okTok kx = true)
    (hb : (bl, listOf bvs.toArray nb) ∈ news) (hB : Bs bvs bs) (hbs : ∀ b ∈ bs, 0 ≤ b ∧ b < 1000)
    (hkl : (kl, listOf kvs.toArray nk) ∈ news) (hK : Ws kvs ks) (hks : ∀ k ∈ ks, isKey k) (S : SpIn prog w rest sp)
    (g1 : m (Str.ofString "tokens") = some (.ref l)) (g2 : m (Str.ofString "begins") = some (.ref bl)) (g3 : m (Str.ofString "keys") = some (.ref kl)) (g4 : m (Str.ofString "spellings") = some (.ref sp)) (g5 : m (Str.ofString "reader") = some (.ref x))
    (ret : ∀ h' tk' m', Fr h₀ L h' m' → News h₀ L h' news → Q (.ret (.bool true)) { s with heap := h', toks := tk' }) :
    wpAny (model prog w) (ktrTop dp un gd (Str.ofString "_law_right") (fnScope (stm 20)) L 334 (.ref 333) [] outer) (execs ((fnBody (stm 20)).drop 1) (envX (Str.ofString "_law_right") (fnScope (stm 20)) L 334 (.ref 333) [])) Q E s := by
  have e : m = rtMap l bl kl sp x m := by
    funext z
    unfold rtMap
    repeat' (first | rfl | (split; (rename_i h; rw [h]; assumption)))
  rw [e] at F
  clear g1 g2 g3 g4 g5 e
  show wpAny _ (ktrTop dp un gd (Str.ofString "_law_right") ⟨_, _, _, _, _⟩ L 334 (.ref 333) [] outer) (execs (_ :: _) (envX _ _ L _ _ _)) Q E s
  k_steps
  (rename Fr _ _ _ _ => F1); (rename News _ _ _ _ => N1)
  refine' For_invVF F1 rfl rfl ?_ (hE := hE)
  refine ld F1 (by rfl) ?_
  refine iter_seq (fun i m₁ nx => (∃ at_ ta, nx = (x, instObj 252 dx) :: (dx, rdDict w t1 t2 t3 tl at_ ta nd) :: (tl, listOf us.toArray n') :: news) ∧ ∀ z, z ≠ Str.ofString "begin" → z ≠ Str.ofString "key" → m₁ z = rtMap l bl kl sp x m z) rfl (by k_mem) (.inl rfl) rfl F1 N1 ⟨⟨0, ta, rfl⟩, fun _ _ _ => rfl⟩ ?_ ?_
  · rintro i v m₁ nx h tk I oI hv ⟨⟨at_, ta', rfl⟩, hz⟩ _ hoff F2 N2
    obtain ⟨b, tb, rfl, hbm⟩ := hB.at _ _ hv
    obtain ⟨hb0, hb1⟩ := hbs b hbm
    have hm : (fun y => if y = Str.ofString "begin" then some (Value.int b tb) else m₁ y) = fun y => if y = Str.ofString "begin" then some (Value.int b tb) else if y = Str.ofString "key" then m₁ y else rtMap l bl kl sp x m y := by
      funext y
      split
      · rfl
      · split
        · rfl
        · rename_i q1 q2; exact hz y q1 q2
    rw [hm] at F2
    have nI1 : @Ne Nat x I := hoff _ (.head _)
    have nI2 : @Ne Nat dx I := hoff _ (.tail _ (.head _))
    clear F1 N1
    with_reducible show wpAny _ _ _ _ _ _
    k_fold
    k_steps
    (rename Fr _ _ _ _ => F1); (rename News _ _ _ _ => N1)
    refine' For_invVF F1 rfl rfl ?_ (hE := hE)
    refine ld F1 (by rfl) ?_
    refine iter_one (Str.ofString "begin") [] (fun i v => v = .int b tb) rfl (by k_mem) (.inl rfl) rfl F1 N1 rfl rfl ?_ ?_
    · rintro i2 v2 a2 u2 h2 tk2 I2 oI2 hv2 rfl hoff2 F2 N2
      obtain ⟨key, tky, rfl, hw⟩ := hK.at _ _ hv2
      have hkey : isKey key := hks key (List.mem_of_getElem? hw)
      clear F1 N1
      with_reducible show wpAny _ _ _ _ _ _
      k_fold
      k_steps
      all_goals first
      | exact absurd rfl (by assumption)
      | ((rename Fr _ _ _ _ => F3); (rename News _ _ _ _ => N3)
         exact gp_one F3 N3 (by ktr_unf) hoff2 (by k_mem) (by rfl) rfl (by intro z z1 z2 z3; simp only [if_neg z1, if_neg z2, z3, Bool.false_eq_true, if_false]))
    · rintro u2 a2 h2 tk2 rfl F2 N2
      clear F1 N1
      k_steps
      (rename Fr _ _ _ _ => F3); (rename News _ _ _ _ => N3)
      exact gp_keep F3 N3 (fun p hp => hp) (hoffX hoff) (by k_mem) ⟨⟨b, tb, rfl⟩, fun z z1 z2 => by simp only [if_neg z1, if_neg z2, List.contains_nil, Bool.false_eq_true, if_false]⟩
  · rintro m₁ nx h tk ⟨⟨at_, ta', rfl⟩, hz⟩ _ F2 N2
    clear F1 N1
    with_reducible show wpAny _ _ _ _ _ _
    k_steps
    (rename Fr _ _ _ _ => F3); (rename News _ _ _ _ => N3)
    exact ret _ _ _ F3 fun p hp => N3 p (.tail _ (.tail _ (.tail _ hp)))
local macro_rules | `(tactic| walk_at "execs cons") => `(tactic| (k_here; (with_reducible show wpAny _ _ (execs (Stmt.For _ (Expr.Name (Str.ofString "begins") _) _ _ _ :: _) _) _ _ _); (with_reducible rename TokAll _ _ _ _ => hV9); (with_reducible rename TupAll _ _ _ => hT9); (with_reducible rename Bs _ _ => hB9); (with_reducible rename Ws _ _ => hW9); (with_reducible rename SpIn _ _ _ _ => hS9); k_dflt (refine' right_tail ?kE ?kd ?ku ?k1 ?k2 ?k3 ?k4 ?k5 ?n1 ?n2 ?n3 hV9 ?sb ?b1 ?m1 hT9 ?sc ?b2 ?b3 ?m2 hB9 ?b4 ?m3 hW9 ?b5 hS9 ?r1 ?r2 ?r3 ?r4 ?r5 ?_; (case kE => passes_own); (case kd => ((try dsimp only [ktrTop, Around.deeper]); omega)); (case ku => ((try dsimp only [ktrTop, Around.deeper]); omega)); (case k1 => k_asm); (case k2 => k_asm); (case k3 => k_asm); (case k4 => k_asm); (case k5 => k_asm); (case n1 => assumption); (case n2 => assumption); (case n3 => assumption); (case r1 => exact rfl); (case r2 => exact rfl); (case r3 => exact rfl); (case r4 => exact rfl); (case r5 => exact rfl); (case m1 => k_mem); (case m2 => k_mem); (case m3 => k_mem); (case sb => ktr_unf); (case sc => ktr_unf); (case b1 => (rw [TokAll.len hV9, ← TupAll.len hT9]; assumption)); (case b2 => assumption); (case b3 => assumption); (case b4 => assumption); (case b5 => assumption)); k_whole; intro h9 tk9 m9 F9 N9; (try k_fold)))
set_option maxHeartbeats 4000000 in
theorem right_c {w : World} {p : Program} {loose : List Str} {mean : ExcName → Option Value} {mg mb : Str → Option Value} {prog : Program}
    {dp un : Nat} {gd : Option (List Code)} {cn : Str} {cs : Scope} {a : Addr} {ccd : Value} {cl : List (Str × Addr)} {outer : List Env} {A₀ : Around} {base h₀ : Heap} {L : Addr} {m : Str → Option Value} {s : Shared} {Q E : Value → Shared → Prop}
    {news rest : List (Addr × Obj)} {l bl kl sp : Addr} {vs bvs kvs : List Value} {n nb nk : Nat} {toks : List (Str × Str)} {bs : List Int} {ks : List Str}
    (hk : cs.kind = .function) (hd : dp ≤ 550) (hu : un ≤ 200)
    (B : Below A₀ base outer h₀) (F : Fr h₀ L s.heap m) (X : (KF w.params).In h₀) (N : News h₀ L s.heap news) (T : Top p loose mean mg mb h₀)
    (hl : (l, listOf vs.toArray n) ∈ news) (V : TupAll rest vs toks) (hsub : ∀ p ∈ rest, p ∈ news) (h5 : vs.length < 1000) (hok : ∀ kx ∈ toks, okTok kx = true)
    (hb : (bl, listOf bvs.toArray nb) ∈ news) (hB : Bs bvs bs) (hbs : ∀ b ∈ bs, 0 ≤ b ∧ b < 1000)
    (hkl : (kl, listOf kvs.toArray nk) ∈ news) (hK : Ws kvs ks) (hks : ∀ k ∈ ks, isKey k) (S : SpIn prog w rest sp)
    (ret : ∀ h' tk', Fr h₀ L h' m → News h₀ L h' news → Q (.bool true) { s with heap := h', toks := tk' }) :
    wpAny (model prog w) (ktrTop dp un gd cn cs L a ccd cl outer) (call (.ref 334) [.ref l, .ref bl, .ref kl, .ref sp]) Q E s := by
  refine wpAny_call ?_
  k_dflt k_enter
  k_steps
  (rename Fr _ _ _ _ => F3); (rename News _ _ _ _ => N3)
  exact ret _ _ F3 fun p hp => N3 p (List.mem_append_right _ hp)
end
section
local macro_rules | `(tactic| walk_at "eval ListComp") => `(tactic| (k_here; k_dflt (refine LCg.ListComp_U (F₀ := by k_asm) (by rfl) (by decide) (by rfl) (by decide) (by rfl) ?_)))
local macro_rules | `(tactic| walk_at "CompSrc") => `(tactic| (k_here; k_dflt (refine LCg.CompSrc.ledger (by rfl) (by k_asm) (by k_asm) (by k_mem) (by first | assumption | size_fits | skip) ?_); intro g'))
local macro_rules | `(tactic| walk_at "exec Assign cons ListComp") => `(tactic| (k_here; k_dflt (refine LCg.Assign_ListComp_U (F₀ := by k_asm) (by rfl) (by with_unfolding_all rfl) (by rfl) (by decide) (by rfl) (by decide) (by rfl) (by rfl) (by rfl) ?_)))
local macro_rules | `(tactic| walk_at "subscriptTail Name Slice ref ref") => `(tactic| (k_here; (with_reducible show wpAny _ _ (subscriptTail _ (PySem.Expr.Slice _ _ none _) (Value.ref _) (Value.ref _)) _ _ _); (with_reducible rename IntsAre _ _ => hI9); k_dflt (refine' kmk_slice_ints ?F ?N ?l ?p ?q hI9 ?m ?c ?_ ?s ?t ?z; (case F => k_asm); (case N => k_asm); (case l => exact Heap.IsList.at (by assumption) (fun o e => Fr.keep (by assumption) _ _ e)); (case p => kmk_part); (case q => kmk_part); (case m => exact kmk_upto hI9 (by decide)); (case c => exact List.length_take ..); (case s => with_unfolding_all rfl); (case t => kmk_pure); (case z => assumption)); intro D' ws' h' F' N' l1 hw' hc' hle'; (try k_lt l1); (try k_sweep)))
def Small (c : Int) : Prop := 0 ≤ c ∧ c < 20000000000000000000000000000000000000000
theorem pow40 : (10 : Int) ^ Int.toNat 40 = 10000000000000000000000000000000000000000 := by decide +kernel
theorem small_cell (c : Int) : Small ((if c < 0 then -c else c).fmod (10 ^ Int.toNat 40) + 10 ^ Int.toNat 40 * if decide (c < 0) = true then 1 else 0) := by
  rw [pow40, Int.fmod_eq_emod_of_nonneg _ (by decide)]
  unfold Small
  split <;> split <;> omega
theorem ints_item {vs : List Value} {ns : List Int} (h : IntsAre vs ns) {i : Nat} {v : Value} (e : vs[i]? = some v) : ∃ c t, v = .int c t ∧ ns[i]? = some c := by
  have hi : i < vs.length := by
    by_cases q : i < vs.length
    · exact q
    · rw [List.getElem?_eq_none (by omega)] at e; cases e
  have hi2 : i < ns.length := by rw [← h.length]; exact hi
  obtain ⟨t, q⟩ := h.get i _ (List.getElem?_eq_getElem hi2)
  rw [e] at q
  exact ⟨_, t, Option.some.inj q, List.getElem?_eq_getElem hi2⟩
set_option maxHeartbeats 4000000 in
theorem pen_c {w : World} {p : Program} {loose : List Str} {mean : ExcName → Option Value} {mg mb : Str → Option Value} {prog : Program}
    {dp un : Nat} {gd : Option (List Code)} {cn : Str} {cs : Scope} {a : Addr} {ccd : Value} {cl : List (Str × Addr)} {outer : List Env} {A₀ : Around} {base h₀ : Heap} {L : Addr} {m : Str → Option Value} {s : Shared} {Q E : Value → Shared → Prop}
    {news : List (Addr × Obj)} {l : Addr} {vs : List Value} {ns : List Int}
    (hk : cs.kind = .function) (hd : dp ≤ 650) (hu : un ≤ 300)
    (B : Below A₀ base outer h₀) (F : Fr h₀ L s.heap m) (X : (KF w.params).In h₀) (N : News h₀ L s.heap news) (T : Top p loose mean mg mb h₀)
    (hl : h₀.IsList l vs.toArray) (hi : IntsAre vs ns) (h5 : ns.length < 1000)
    (ret : ∀ pl cl' us n n' ta tb cells h' tk', Fr h₀ L h' m → News h₀ L h' ((pl, listOf [.ref cl', .int 0 ta, .int 0 tb].toArray n) :: (cl', listOf us.toArray n') :: news) → IntsAre us cells → (∀ c ∈ cells, Small c) → cells.length < 1000 →
      (@Ne Nat pl cl') → (∀ p ∈ news, p.1 ≠ pl) → Q (.ref pl) { s with heap := h', toks := tk' }) :
    wpAny (model prog w) (ktrTop dp un gd cn cs L a ccd cl outer) (call (.ref 291) [.ref l]) Q E s := by
  refine wpAny_call ?_
  k_dflt k_enter
  (rename Fr h₀ L _ m => FG)
  have hl' := hl.at fun o e => FG.keep _ _ e
  have hz : vs.toArray.size ≤ sizeLine := by rw [List.size_toArray, hi.length]; exact Nat.le_trans (Nat.le_of_lt h5) (by size_fits)
  k_steps
  (rename IntsAre _ (List.take _ _) => hw)
  refine comp_ind (fun i ys nw => nw = (_, listOf (List.toArray _) 0) :: news ∧ ∃ cells, IntsAre ys cells ∧ cells.length = i ∧ ∀ c ∈ cells, Small c) ⟨rfl, [], .nil, rfl, fun c hc => nomatch hc⟩ ?_ ?_
  · rintro ys nw ⟨rfl, cells, hC, hn, hS⟩
    unfold LCg.FinA
    intro D h tk F3 N3 o1
    have hlen : cells.length < 1000 := by rw [hn, List.size_toArray, hw.length, List.length_take]; have := Nat.min_le_right (Int.toNat 30) ns.length; omega
    k_steps
    (rename Fr _ _ _ _ => F4); (rename News _ _ _ (_ :: _) => N4); (rename ((_ < _) ∧ _) => hlt)
    obtain ⟨q1, q2, q3⟩ := hlt
    exact ret _ _ ys _ _ _ _ cells _ _ F4 (fun p hp => N4 p (by
      rcases List.mem_cons.mp hp with rfl | hp
      · exact .head _
      · rcases List.mem_cons.mp hp with rfl | hp
        · exact .tail _ (.head _)
        · exact .tail _ (.tail _ (.tail _ hp)))) hC hS hlen (Nat.ne_of_gt q1) (tbn_neAll q3)
  · rintro i ys nw hlt ⟨rfl, cells, hC, hn, hS⟩ v I oI C' oC D m₂ h tk E' hP hC' hx F2 N2 off ne
    obtain ⟨c, tc, hcv⟩ : ∃ c t, v = .int c t := by
      obtain ⟨c, t, q, _⟩ := ints_item hw (by simpa using hP)
      exact ⟨c, t, q⟩
    subst hcv
    with_reducible show wpAny _ _ _ _ _ _
    k_steps
    (rename Fr _ _ _ _ => F4); (rename News _ _ _ (_ :: _) => N4)
    refine LCg.CompEnd.intro F4 N4 (_ :: news) (fun p hp => hp) off (.inr ⟨_, .head _, rfl, _, rfl⟩) ⟨rfl, cells ++ [_], IntsAre.append hC (.cons _ _ .nil), by rw [List.length_append, hn]; rfl, fun c hc => ?_⟩
    rcases List.mem_append.mp hc with hc | hc
    · exact hS c hc
    · rw [List.mem_singleton.mp hc]; exact small_cell _
end
section
local macro_rules | `(tactic| walk_at "pad own") => `(tactic| skip)
abbrev penObj (cl' : Addr) (turn : Int) (ta : Tok) (v : Int) (tb : Tok) (n : Nat) : Obj := listOf [.ref cl', .int turn ta, .int v tb].toArray n
local macro_rules | `(tactic| k_all) => `(tactic| assumption)
theorem cell_item {prog : Program} {w : World} {A : Around} {E : Value → Shared → Prop} {s : Shared} {Q : Value → Shared → Prop} {h₀ : Heap} {L l : Addr} {news : List (Addr × Obj)} {us : List Value} {cells : List Int} {n : Nat} {k : Int} {u : Tok} {value slice : PySem.Expr}
    (N : News h₀ L s.heap news) (hm : (l, listOf us.toArray n) ∈ news) (hi : IntsAre us cells) (hS : ∀ c ∈ cells, Small c) (h0 : 0 ≤ k) (h1 : k < ((us.toArray.size : Nat) : Int)) (h2 : k < 2 ^ 63) (h : ∀ c t, 0 ≤ c → Q (.int c t) s)
    (hs : subscripted slice false (.ref l) (.int k u) = operate [.ref l, .int k u] (getItem (.ref l) (.int k u)) := by with_unfolding_all rfl) :
    wpAny (model prog w) A (subscriptTail value slice (.ref l) (.int k u)) Q E s := by
  rw [List.size_toArray] at h1
  have hlt : k.toNat < us.length := by omega
  obtain ⟨c, t, q, r⟩ := ints_item hi (List.getElem?_eq_getElem hlt)
  have hl' := News.isList N hm
  have q2 : us[k.toNat]? = some (.int c t) := by rw [List.getElem?_eq_getElem hlt, q]
  exact tail_any hl'.typeIs slot_list_getitem.lookup (wpAny_getItem_list hl' h0 (by omega) (by simpa using q2) (h c t (hS c (List.mem_of_getElem? r)).1)) hs
theorem pow_nn {a : Int} (h : 0 ≤ a) : ∀ n : Nat, 0 ≤ a ^ n
  | 0 => by rw [Int.pow_zero]; decide
  | n + 1 => by rw [Int.pow_succ]; exact Int.mul_nonneg (pow_nn h n) h
theorem fresh_nn {a b : Int} {n : Nat} (h : 0 ≤ a) : 0 ≤ a ^ n + b.fmod 1000003 := by
  have h1 := pow_nn h n
  rw [Int.fmod_eq_emod_of_nonneg _ (by decide)]
  have h2 := Int.emod_nonneg b (show (1000003 : Int) ≠ 0 by decide)
  omega
theorem draw_end {h₀ h' : Heap} {L : Addr} {m : Str → Option Value} {rest : List (Addr × Obj)} {s : Shared} {Q : Value → Shared → Prop} {pl cl' : Addr} {turn turn' V many : Int} {ta' tb' td : Tok} {k : Nat} {tk' : Nat}
    (ret : ∀ d td turn' ta' v' tb' k h' tk', Fr h₀ L h' m → News h₀ L h' ((pl, penObj cl' turn' ta' v' tb' k) :: rest) → 0 ≤ d → d < many → turn ≤ turn' → turn' ≤ turn + 1 → 0 ≤ v' → Q (.int d td) { s with heap := h', toks := tk' })
    (F : Fr h₀ L h' m) (N : News h₀ L h' ((pl, penObj cl' turn' ta' (V.fdiv many) tb' k) :: rest)) (m0 : 0 < many) (hV : 0 ≤ V) (h1 : turn ≤ turn') (h2 : turn' ≤ turn + 1) : Q (.int (V.fmod many) td) { s with heap := h', toks := tk' } := by
  refine ret _ td _ _ _ _ _ h' tk' F N ?_ ?_ h1 h2 ?_
  · rw [Int.fmod_eq_emod_of_nonneg _ (by omega)]; exact Int.emod_nonneg _ (by omega)
  · rw [Int.fmod_eq_emod_of_nonneg _ (by omega)]; exact Int.emod_lt_of_pos _ m0
  · rw [Int.fdiv_eq_ediv_of_nonneg _ (by omega)]; exact Int.ediv_nonneg hV (by omega)
local macro_rules | `(tactic| walk_at "call builtin:len") => `(tactic| (k_here; (with_reducible show wpAny _ _ (call (Value.builtin "len") [Value.ref _]) _ _ _); k_dflt (refine' len_in ?k1 ?k2 ?k3 ?_; (case k1 => k_asm); (case k2 => k_mem); (case k3 => omega); k_whole)))
local macro_rules | `(tactic| walk_at "subscriptTail") => `(tactic| (k_here; (with_reducible show wpAny _ _ (subscriptTail _ _ (Value.ref _) (Value.int _ _)) _ _ _); with_reducible rename IntsAre _ _ => hI9; k_dflt (refine' cell_item ?k1 ?k2 hI9 ?kS ?k4 ?k5 ?k6 ?_ ?k7; (case k1 => k_asm); (case k2 => k_mem); (case kS => assumption); (case k4 => omega); (case k5 => simp only [decide_eq_true_eq] at *; omega); (case k6 => omega); (case k7 => with_unfolding_all rfl); k_whole); intro c9 t9 hc9))
local macro_rules | `(tactic| walk_at "binaryOp Pow int int") => `(tactic| (k_here; (with_reducible refine pow_int_small ?kb1 ?kb2 ?kb3 ?_); (case kb1 => decide); (case kb2 => decide); (case kb3 => omega)))
local macro_rules | `(tactic| walk_at "call builtin:sum") => `(tactic| (k_here; (with_reducible show wpAny _ _ (call (Value.builtin "sum") [Value.ref _]) _ _ _); (with_unfolding_all refine' sumK ?k0 ?k1 ?k2 ?k3 ?k4 ?_; (case k0 => with_unfolding_all rfl); (case k1 => k_asm); (case k2 => k_asm); (case k3 => exact News.isList (by k_asm) (by k_mem)); (case k4 => assumption); k_whole); intro h' tk' t' F' N'))
set_option maxHeartbeats 4000000 in
theorem draw_c {w : World} {p : Program} {loose : List Str} {mean : ExcName → Option Value} {mg mb : Str → Option Value} {prog : Program}
    {dp un : Nat} {gd : Option (List Code)} {cn : Str} {cs : Scope} {a : Addr} {ccd : Value} {cl : List (Str × Addr)} {outer : List Env} {A₀ : Around} {base h₀ : Heap} {L : Addr} {m : Str → Option Value} {s : Shared} {Q E : Value → Shared → Prop}
    {rest : List (Addr × Obj)} {pl cl' : Addr} {us : List Value} {cells : List Int} {turn v many : Int} {ta tb tm : Tok} {n n' : Nat}
    (hk : cs.kind = .function) (hd : dp ≤ 650) (hu : un ≤ 300)
    (B : Below A₀ base outer h₀) (F : Fr h₀ L s.heap m) (X : (KF w.params).In h₀) (N : News h₀ L s.heap ((pl, penObj cl' turn ta v tb n) :: rest)) (T : Top p loose mean mg mb h₀)
    (hc : (cl', listOf us.toArray n') ∈ rest) (hi : IntsAre us cells) (hS : ∀ c ∈ cells, Small c) (h5 : cells.length < 1000) (off : ∀ p ∈ rest, p.1 ≠ pl)
    (t0 : 0 ≤ turn) (t1 : turn < 100) (v0 : 0 ≤ v) (m0 : 0 < many) (m1 : many ≤ 100)
    (ret : ∀ d td turn' ta' v' tb' k h' tk', Fr h₀ L h' m → News h₀ L h' ((pl, penObj cl' turn' ta' v' tb' k) :: rest) → 0 ≤ d → d < many → turn ≤ turn' → turn' ≤ turn + 1 → 0 ≤ v' → Q (.int d td) { s with heap := h', toks := tk' }) :
    wpAny (model prog w) (ktrTop dp un gd cn cs L a ccd cl outer) (call (.ref 298) [.ref pl, .int many tm]) Q E s := by
  have hlu : us.length < 1000 := by rw [hi.length]; exact h5
  refine wpAny_call ?_
  k_dflt k_enter
  k_steps
  all_goals (
    (rename Fr _ _ _ _ => F4); (rename News _ _ _ (_ :: _) => N4)
    exact draw_end ret F4 N4 m0 (by first | assumption | omega | exact fresh_nn (by omega)) (by omega) (by omega))
end
section
theorem pen_front {α : Type} {pre post : List α} {x : α} : ∀ p ∈ x :: (pre ++ post), p ∈ pre ++ x :: post := by
  intro p hp
  rcases List.mem_cons.mp hp with rfl | hp
  · exact List.mem_append_right _ (.head _)
  · rcases List.mem_append.mp hp with hp | hp
    · exact List.mem_append_left _ hp
    · exact List.mem_append_right _ (.tail _ hp)
theorem pen_back {α : Type} {pre post : List α} {x : α} : ∀ p ∈ pre ++ x :: post, p ∈ x :: (pre ++ post) := by
  intro p hp
  rcases List.mem_append.mp hp with hp | hp
  · exact .tail _ (List.mem_append_left _ hp)
  · rcases List.mem_cons.mp hp with rfl | hp
    · exact .head _
    · exact .tail _ (List.mem_append_right _ hp)
theorem draw_at {w : World} {p : Program} {loose : List Str} {mean : ExcName → Option Value} {mg mb : Str → Option Value} {prog : Program}
    {dp un : Nat} {gd : Option (List Code)} {cn : Str} {cs : Scope} {a : Addr} {ccd : Value} {cl : List (Str × Addr)} {outer : List Env} {A₀ : Around} {base h₀ : Heap} {L : Addr} {m : Str → Option Value} {s : Shared} {Q E : Value → Shared → Prop}
    (pre : List (Addr × Obj)) {post : List (Addr × Obj)} {pl cl' : Addr} {us : List Value} {cells : List Int} {turn v many : Int} {ta tb tm : Tok} {n n' : Nat}
    (B : Below A₀ base outer h₀) (F : Fr h₀ L s.heap m) (X : (KF w.params).In h₀) (N : News h₀ L s.heap (pre ++ (pl, penObj cl' turn ta v tb n) :: post)) (T : Top p loose mean mg mb h₀) (hk : cs.kind = .function) (hd : dp ≤ 650) (hu : un ≤ 300)
    (hc : (cl', listOf us.toArray n') ∈ pre ++ post) (hi : IntsAre us cells) (hS : ∀ c ∈ cells, Small c) (h5 : cells.length < 1000) (o1 : ∀ p ∈ pre, p.1 ≠ pl) (o2 : ∀ p ∈ post, p.1 ≠ pl)
    (t0 : 0 ≤ turn) (t1 : turn < 100) (v0 : 0 ≤ v) (m0 : 0 < many) (m1 : many ≤ 100)
    (ret : ∀ d td turn' ta' v' tb' k h' tk', Fr h₀ L h' m → News h₀ L h' (pre ++ (pl, penObj cl' turn' ta' v' tb' k) :: post) → 0 ≤ d → d < many → turn ≤ turn' → turn' ≤ turn + 1 → 0 ≤ v' → Q (.int d td) { s with heap := h', toks := tk' }) :
    wpAny (model prog w) (ktrTop dp un gd cn cs L a ccd cl outer) (call (.ref 298) [.ref pl, .int many tm]) Q E s :=
  draw_c hk hd hu B F X (fun p hp => N p (pen_front p hp)) T hc hi hS h5 (fun p hp => (List.mem_append.mp hp).elim (o1 p) (o2 p)) t0 t1 v0 m0 m1
    fun d td turn' ta' v' tb' k h' tk' F' N' => ret d td turn' ta' v' tb' k h' tk' F' fun p hp => N' p (pen_back p hp)
theorem Ws.mem : ∀ {vs : List Value} {es : List Str}, Ws vs es → ∀ (i : Nat) (v : Value), vs[i]? = some v → ∃ y t, v = .str y t ∧ y ∈ es := fun h i v e => by
  obtain ⟨y, t, a, b⟩ := h.at i v e
  exact ⟨y, t, a, List.mem_of_getElem? b⟩
theorem word_item {prog : Program} {w : World} {A : Around} {E : Value → Shared → Prop} {s : Shared} {Q : Value → Shared → Prop} {h₀ : Heap} {L l : Addr} {news : List (Addr × Obj)} {us : List Value} {es : List Str} {n : Nat} {k : Int} {u : Tok} {value slice : PySem.Expr}
    (N : News h₀ L s.heap news) (hm : (l, listOf us.toArray n) ∈ news) (hi : Ws us es) (h0 : 0 ≤ k) (h1 : k < ((us.toArray.size : Nat) : Int)) (h2 : k < 2 ^ 63) (h : ∀ y t, y ∈ es → Q (.str y t) s)
    (hs : subscripted slice false (.ref l) (.int k u) = operate [.ref l, .int k u] (getItem (.ref l) (.int k u)) := by with_unfolding_all rfl) :
    wpAny (model prog w) A (subscriptTail value slice (.ref l) (.int k u)) Q E s := by
  rw [List.size_toArray] at h1
  have hlt : k.toNat < us.length := by omega
  obtain ⟨y, t, q, r⟩ := hi.mem _ _ (List.getElem?_eq_getElem hlt)
  have hl' := News.isList N hm
  have q2 : us[k.toNat]? = some (.str y t) := by rw [List.getElem?_eq_getElem hlt, q]
  exact tail_any hl'.typeIs slot_list_getitem.lookup (wpAny_getItem_list hl' h0 (by omega) (by simpa using q2) (h y t r)) hs
local macro_rules | `(tactic| walk_at "call ref") => `(tactic| (k_here; (with_reducible show wpAny _ _ (call (Value.ref 298) [Value.ref _, Value.int _ _]) _ _ _); (with_reducible rename IntsAre _ _ => hI9); k_dflt (refine' draw_at [] ?k1 ?k2 ?k3 ?k4 ?k5 ?kK ?kd ?ku ?hc hI9 ?hS ?h5 ?o1 ?o2 ?t0 ?t1 ?v0 ?m0 ?m1 ?_; (case k1 => k_asm); (case k2 => k_asm); (case k3 => k_asm); (case k4 => k_asm); (case k5 => k_asm); (case kK => first | exact rfl | assumption); (case kd => ((try dsimp only [ktrTop, Around.deeper]); omega)); (case ku => ((try dsimp only [ktrTop, Around.deeper]); omega)); (case hc => k_mem); (case hS => assumption); (case h5 => assumption); (case o1 => exact List.forall_mem_nil _); (case o2 => assumption); (case t0 => assumption); (case t1 => assumption); (case v0 => assumption); (case m0 => omega); (case m1 => omega); k_whole); intro d9 td9 tu9 ta9 v9 tb9 k9 h9 tk9 F9 N9 d90 d91 tu90 tu91 v90; (try simp only [List.nil_append] at N9); (try k_fold)))
local macro_rules | `(tactic| walk_at "call builtin:len") => `(tactic| (k_here; (with_reducible show wpAny _ _ (call (Value.builtin "len") [Value.ref _]) _ _ _); k_dflt (refine' len_in ?k1 ?k2 ?k3 ?_; (case k1 => k_asm); (case k2 => k_mem); (case k3 => omega); k_whole)))
local macro_rules | `(tactic| walk_at "subscriptTail") => `(tactic| (k_here; (with_reducible show wpAny _ _ (subscriptTail _ _ (Value.ref _) (Value.int _ _)) _ _ _); with_reducible rename Ws _ _ => hI9; k_dflt (refine' word_item ?k1 ?k2 hI9 ?k4 ?k5 ?k6 ?_ ?k7; (case k1 => k_asm); (case k2 => k_mem); (case k4 => omega); (case k5 => omega); (case k6 => omega); (case k7 => with_unfolding_all rfl); k_whole); intro y9 t9 hy9))
set_option maxHeartbeats 4000000 in
theorem pick_c {w : World} {p : Program} {loose : List Str} {mean : ExcName → Option Value} {mg mb : Str → Option Value} {prog : Program}
    {dp un : Nat} {gd : Option (List Code)} {cn : Str} {cs : Scope} {a : Addr} {ccd : Value} {cl : List (Str × Addr)} {outer : List Env} {A₀ : Around} {base h₀ : Heap} {L : Addr} {m : Str → Option Value} {s : Shared} {Q E : Value → Shared → Prop}
    {rest : List (Addr × Obj)} {pl cl' wl : Addr} {us ws : List Value} {cells : List Int} {words : List Str} {turn v : Int} {ta tb : Tok} {n n' nw : Nat}
    (hk : cs.kind = .function) (hd : dp ≤ 550) (hu : un ≤ 200)
    (B : Below A₀ base outer h₀) (F : Fr h₀ L s.heap m) (X : (KF w.params).In h₀) (N : News h₀ L s.heap ((pl, penObj cl' turn ta v tb n) :: rest)) (T : Top p loose mean mg mb h₀)
    (hc : (cl', listOf us.toArray n') ∈ rest) (hi : IntsAre us cells) (hS : ∀ c ∈ cells, Small c) (h5 : cells.length < 1000) (off : ∀ p ∈ rest, p.1 ≠ pl)
    (hw : (wl, listOf ws.toArray nw) ∈ rest) (hW : Ws ws words) (w0 : 0 < words.length) (w1 : words.length ≤ 100)
    (t0 : 0 ≤ turn) (t1 : turn < 100) (v0 : 0 ≤ v)
    (ret : ∀ y td turn' ta' v' tb' k h' tk', Fr h₀ L h' m → News h₀ L h' ((pl, penObj cl' turn' ta' v' tb' k) :: rest) → y ∈ words → turn ≤ turn' → turn' ≤ turn + 1 → 0 ≤ v' → Q (.str y td) { s with heap := h', toks := tk' }) :
    wpAny (model prog w) (ktrTop dp un gd cn cs L a ccd cl outer) (call (.ref 305) [.ref pl, .ref wl]) Q E s := by
  have hwl : ws.toArray.size = words.length := by rw [List.size_toArray, hW.len]
  have hwl2 : ws.length = words.length := hW.len
  refine wpAny_call ?_
  k_dflt k_enter
  k_steps
  (rename Fr _ _ _ _ => F4); (rename News _ _ _ (_ :: _) => N4)
  exact ret _ _ _ _ _ _ _ _ _ F4 N4 (by assumption) (by assumption) (by assumption) (by assumption)
theorem pick_at {w : World} {p : Program} {loose : List Str} {mean : ExcName → Option Value} {mg mb : Str → Option Value} {prog : Program}
    {dp un : Nat} {gd : Option (List Code)} {cn : Str} {cs : Scope} {a : Addr} {ccd : Value} {cl : List (Str × Addr)} {outer : List Env} {A₀ : Around} {base h₀ : Heap} {L : Addr} {m : Str → Option Value} {s : Shared} {Q E : Value → Shared → Prop}
    (pre : List (Addr × Obj)) {post : List (Addr × Obj)} {pl cl' wl : Addr} {us ws : List Value} {cells : List Int} {words : List Str} {turn v : Int} {ta tb : Tok} {n n' nw : Nat}
    (B : Below A₀ base outer h₀) (F : Fr h₀ L s.heap m) (X : (KF w.params).In h₀) (N : News h₀ L s.heap (pre ++ (pl, penObj cl' turn ta v tb n) :: post)) (T : Top p loose mean mg mb h₀) (hk : cs.kind = .function) (hd : dp ≤ 550) (hu : un ≤ 200)
    (hc : (cl', listOf us.toArray n') ∈ pre ++ post) (hi : IntsAre us cells) (hS : ∀ c ∈ cells, Small c) (h5 : cells.length < 1000) (o1 : ∀ p ∈ pre, p.1 ≠ pl) (o2 : ∀ p ∈ post, p.1 ≠ pl)
    (hw : (wl, listOf ws.toArray nw) ∈ pre ++ post) (hW : Ws ws words) (w0 : 0 < words.length) (w1 : words.length ≤ 100)
    (t0 : 0 ≤ turn) (t1 : turn < 100) (v0 : 0 ≤ v)
    (ret : ∀ y td turn' ta' v' tb' k h' tk', Fr h₀ L h' m → News h₀ L h' (pre ++ (pl, penObj cl' turn' ta' v' tb' k) :: post) → y ∈ words → turn ≤ turn' → turn' ≤ turn + 1 → 0 ≤ v' → Q (.str y td) { s with heap := h', toks := tk' }) :
    wpAny (model prog w) (ktrTop dp un gd cn cs L a ccd cl outer) (call (.ref 305) [.ref pl, .ref wl]) Q E s :=
  pick_c hk hd hu B F X (fun p hp => N p (pen_front p hp)) T hc hi hS h5 (fun p hp => (List.mem_append.mp hp).elim (o1 p) (o2 p)) hw hW w0 w1 t0 t1 v0
    fun y td turn' ta' v' tb' k h' tk' F' N' => ret y td turn' ta' v' tb' k h' tk' F' fun p hp => N' p (pen_back p hp)
end
section
local macro_rules | `(tactic| k_all) => `(tactic| first | assumption | exact List.forall_mem_nil _ | (refine' List.forall_mem_cons.mpr ⟨?a, ?b⟩; (case a => k_ne); (case b => k_all)))
local macro_rules | `(tactic| walk_at "call ref") => `(tactic| (k_here; (with_reducible show wpAny _ _ (call (Value.ref 298) [Value.ref _, Value.int _ _]) _ _ _); (with_reducible rename IntsAre _ _ => hI9); k_dflt (first | (refine' draw_at [] ?k1 ?k2 ?k3 ?k4 ?k5 ?kK ?kd ?ku ?hc hI9 ?hS ?h5 ?o1 ?o2 ?t0 ?t1 ?v0 ?m0 ?m1 ?_; (case k4 => k_asm)) | (refine' draw_at [_] ?k1 ?k2 ?k3 ?k4 ?k5 ?kK ?kd ?ku ?hc hI9 ?hS ?h5 ?o1 ?o2 ?t0 ?t1 ?v0 ?m0 ?m1 ?_; (case k4 => k_asm))); k_dflt ((case k1 => k_asm); (case k2 => k_asm); (case k3 => k_asm); (case k5 => k_asm); (case kK => first | exact rfl | assumption); (case kd => ((try dsimp only [ktrTop, Around.deeper]); omega)); (case ku => ((try dsimp only [ktrTop, Around.deeper]); omega)); (case hc => (simp only [List.nil_append, List.cons_append]; k_mem)); (case hS => assumption); (case h5 => assumption); (case o1 => k_all); (case o2 => k_all); (case t0 => omega); (case t1 => omega); (case v0 => omega); (case m0 => omega); (case m1 => omega)); k_whole; intro d9 td9 tu9 ta9 v9 tb9 k9 h9 tk9 F9 N9 d90 d91 tu90 tu91 v90; (try simp only [List.nil_append, List.cons_append] at N9); (try k_fold)))
local macro_rules | `(tactic| walk_at "call type:range") => `(tactic| (k_here; (with_reducible show wpAny _ _ (call (Value.type "range") [Value.int _ _]) _ _ _); (refine range1_rows (by k_asm) (by k_asm) ?_); intro h9 tk9 t9 u9 v9 R9 F9 N9 k9))
abbrev lwMap (sp kl pl wl tl : Addr) (m : Str → Option Value) : Str → Option Value := fun z => if z = Str.ofString "spellings" then some (.ref sp) else if z = Str.ofString "keys" then some (.ref kl) else if z = Str.ofString "pen" then some (.ref pl) else if z = Str.ofString "words" then some (.ref wl) else if z = Str.ofString "tokens" then some (.ref tl) else m z
def menu : List Str := [so "ON", so "AT", so "NOT", so "SIZE", so "ERROR", so "OVERFLOW", so "EXCEPTION", so "END", so "INVALID", so "KEY", so "ADD", so "NOT", so "ON"]
theorem ok_tok {k y : Str} (hk : k = so "literal" ∨ k = so "word") (hy : y ∈ menu) : okTok (k, y) = true := by
  have h : ∀ k ∈ [so "literal", so "word"], ∀ y ∈ menu, okTok (k, y) = true := by decide +kernel
  exact h k (by rcases hk with rfl | rfl <;> simp) y hy
/-- the ledger while the tokens are drawn -/
def Drawn (cl' : Addr) (pl tl : Addr) (base : List (Addr × Obj)) (i : Nat) (nx : List (Addr × Obj)) : Prop :=
  ∃ turn ta v tb k us n own toks, nx = (pl, penObj cl' turn ta v tb k) :: (tl, listOf (List.toArray us) n) :: (own ++ base) ∧ 0 ≤ turn ∧ turn ≤ 2 * (i : Int) + 1 ∧ 0 ≤ v ∧ TupAll own us toks ∧ toks.length = i ∧ (∀ kx ∈ toks, okTok kx = true) ∧ (∀ p ∈ own, p.1 ≠ pl) ∧ (∀ p ∈ own, p.1 ≠ tl)
local macro_rules | `(tactic| walk_at "call ref") => `(tactic| (k_here; (with_reducible show wpAny _ _ (call (Value.ref 305) [Value.ref _, Value.ref _]) _ _ _); (with_reducible rename IntsAre _ _ => hI9); (with_reducible rename Ws _ menu => hW9); k_dflt (first | (refine' pick_at [] ?k1 ?k2 ?k3 ?k4 ?k5 ?kK ?kd ?ku ?hc hI9 ?hS ?h5 ?o1 ?o2 ?hw hW9 ?w0 ?w1 ?t0 ?t1 ?v0 ?_; (case k4 => k_asm)) | (refine' pick_at [_] ?k1 ?k2 ?k3 ?k4 ?k5 ?kK ?kd ?ku ?hc hI9 ?hS ?h5 ?o1 ?o2 ?hw hW9 ?w0 ?w1 ?t0 ?t1 ?v0 ?_; (case k4 => k_asm))); k_dflt ((case k1 => k_asm); (case k2 => k_asm); (case k3 => k_asm); (case k5 => k_asm); (case kK => first | exact rfl | assumption); (case kd => ((try dsimp only [ktrTop, Around.deeper]); omega)); (case ku => ((try dsimp only [ktrTop, Around.deeper]); omega)); (case hc => (simp only [List.nil_append, List.cons_append]; k_mem)); (case hw => (simp only [List.nil_append, List.cons_append]; k_mem)); (case hS => assumption); (case h5 => assumption); (case o1 => k_all); (case o2 => k_all); (case w0 => decide); (case w1 => decide); (case t0 => omega); (case t1 => omega); (case v0 => omega)); k_whole; intro y9 td9 tu9 ta9 v9 tb9 k9 h9 tk9 F9 N9 hy9 tu90 tu91 v90; (try simp only [List.nil_append, List.cons_append] at N9); (try k_fold)))
theorem drawn_end {h₀ h' : Heap} {L I t pl tl cl' : Addr} {oI o1 o2 : Obj} {m' m₀ : Str → Option Value} {s₁ : Shared} {Q : Flow → Shared → Prop} {bs own : List (Addr × Obj)} {i n1 k' : Nat} {kd y : Str} {tk ty ta tb : Tok} {turn v : Int} {us : List Value} {toks : List (Str × Str)} {tk' : Nat} {nt : Nat}
    (F : Fr h₀ L h' m') (N : News h₀ L h' ((t, ({ cls := .type "tuple", data := .seq #[.str kd tk, .str y ty] nt } : Obj)) :: (I, oI) :: (pl, penObj cl' turn ta v tb k') :: (tl, listOf (List.toArray (us ++ [.ref t])) n1) :: (own ++ bs)))
    (hoff : ∀ p ∈ (pl, o1) :: (tl, o2) :: (own ++ bs), p.1 ≠ I) (l1 : @LT.lt Nat _ I t) (l2 : @LT.lt Nat _ pl t) (l3 : @LT.lt Nat _ tl t) (q0 : 0 ≤ turn) (q1 : turn ≤ 2 * ((i : Int) + 1) + 1) (q2 : 0 ≤ v) (hT : TupAll own us toks) (hn : toks.length = i) (hok : ∀ kx ∈ toks, okTok kx = true)
    (w1 : ∀ p ∈ own, p.1 ≠ pl) (w2 : ∀ p ∈ own, p.1 ≠ tl) (hkd : kd = so "literal" ∨ kd = so "word") (hy : y ∈ menu) (hz : ∀ z, z ≠ Str.ofString "turn" → z ≠ Str.ofString "kind" → m' z = m₀ z) :
    GPost h₀ L I oI [] (fun m' nx => Drawn cl' pl tl bs (i + 1) nx ∧ ∀ z, z ≠ Str.ofString "turn" → z ≠ Str.ofString "kind" → m' z = m₀ z) s₁ Q .next { s₁ with heap := h', toks := tk' } := by
  refine GEnd.intro F N ((pl, penObj cl' turn ta v tb k') :: (tl, listOf (List.toArray (us ++ [.ref t])) n1) :: (((t, ({ cls := .type "tuple", data := .seq #[.str kd tk, .str y ty] nt } : Obj)) :: own) ++ bs)) (fun p hp => ?_) (fun p hp => ?_) (List.forall_mem_nil _) ⟨⟨turn, ta, v, tb, k', us ++ [.ref t], n1, _ :: own, toks ++ [(kd, y)], rfl, q0, ?_, q2, .snoc (hT.mono fun p hp => .tail _ hp) (.mk (.head _)), ?_, ?_, ?_, ?_⟩, hz⟩
  · simp only [List.mem_cons, List.cons_append] at hp ⊢
    rcases hp with hp | hp | hp | hp | hp <;> simp only [hp, true_or, or_true]
  · rcases List.mem_cons.mp hp with rfl | hp
    · exact hoff (pl, o1) (.head _)
    · rcases List.mem_cons.mp hp with rfl | hp
      · exact hoff (tl, o2) (.tail _ (.head _))
      · rcases List.mem_cons.mp hp with rfl | hp
        · exact Nat.ne_of_gt l1
        · exact hoff p (.tail _ (.tail _ hp))
  · rw [Int.natCast_add]; exact q1
  · rw [List.length_append, hn]; rfl
  · intro kx hk
    rcases List.mem_append.mp hk with hk | hk
    · exact hok kx hk
    · rw [List.mem_singleton.mp hk]; exact ok_tok hkd hy
  · exact List.forall_mem_cons.mpr ⟨Nat.ne_of_gt l2, w1⟩
  · exact List.forall_mem_cons.mpr ⟨Nat.ne_of_gt l3, w2⟩
local macro_rules | `(tactic| walk_at "call builtin:list.append") => `(tactic| (k_here; (with_reducible show wpAny _ _ (call (Value.builtin _) [Value.ref _, _]) _ _ _); k_dflt (refine' append_K ?k1 ?k2 ?k3 ?_ ?z; (case k1 => k_asm); (case k2 => k_asm); (case k3 => k_upd); (case z => assumption); k_whole); intro h' F' N'; (try simp only [List.push_toArray] at N')))
theorem bs_of_ints : ∀ {us : List Value} {ns : List Int}, IntsAre us ns → Bs us ns
  | _, _, .nil => .nil
  | _, _, .cons n t r => .cons n t (bs_of_ints r)
local macro_rules | `(tactic| walk_at "call builtin:len") => `(tactic| (k_here; (with_reducible show wpAny _ _ (call (Value.builtin "len") [Value.ref _]) _ _ _); k_dflt (refine' len_in ?k1 ?k2 ?k3 ?_; (case k1 => k_asm); (case k2 => k_mem); (case k3 => omega); k_whole)))
local macro_rules | `(tactic| walk_at "call type:list") => `(tactic| (k_here; (with_reducible show wpAny _ _ (call (Value.type "list") [Value.ref _]) _ _ _); k_dflt (refine' kll_range rfl ?k1 ?k2 ?k3 (small_one ?s1 ?s2 ?s3 ?s4) (rangeSize_nat _ _) ?k6 ?_; (case k1 => k_asm); (case k2 => k_asm); (case k3 => assumption); (case s1 => omega); (case s2 => omega); (case s3 => omega); (case s4 => omega); (case k6 => omega); k_whole); intro D9 us9 c9 h9 tk9 F9 N9 l9 hI9; (try k_lt l9)))
local macro_rules | `(tactic| walk_at "call ref") => `(tactic| (k_here; (with_reducible show wpAny _ _ (call (Value.ref 334) [Value.ref _, Value.ref _, Value.ref _, Value.ref _]) _ _ _); k_dflt (refine' right_c ?kK ?kd ?ku ?k1 ?k2 ?k3 ?k4 ?k5 ?m1 (TupAll.mono ?V ?s1) (fun _ h9 => h9) ?b1 ?b2 ?m2 ?bB ?b3 ?m3 ?bK ?b4 (SpIn.mono ?bS ?s2) ?_; (case kK => first | exact rfl | assumption); (case kd => ((try dsimp only [ktrTop, Around.deeper]); omega)); (case ku => ((try dsimp only [ktrTop, Around.deeper]); omega)); (case k1 => k_asm); (case k2 => k_asm); (case k3 => k_asm); (case k4 => k_asm); (case k5 => k_asm); (case m1 => k_mem); (case m2 => k_mem); (case m3 => k_mem); (case V => assumption); (case s1 => ktr_unf); (case b1 => assumption); (case b2 => assumption); (case bB => exact bs_of_ints (by assumption)); (case b3 => (intro b9 hb9; have hc9 := mem_rangeKs hb9; omega)); (case bK => assumption); (case b4 => assumption); (case bS => assumption); (case s2 => ktr_unf); k_whole); intro h9 tk9 F9 N9; (try k_fold)))
set_option maxHeartbeats 4000000 in
theorem law_draws {w : World} {p : Program} {loose : List Str} {mean : ExcName → Option Value} {mg mb : Str → Option Value} {prog : Program}
    {dp un : Nat} {gd : Option (List Code)} {a : Addr} {ccd : Value} {outer : List Env} {A₀ : Around} {base h₀ : Heap} {L : Addr} {m : Str → Option Value} {s : Shared} {Q : Flow → Shared → Prop} {E : Value → Shared → Prop}
    {bs : List (Addr × Obj)} {sp kl pl wl tl cl' : Addr} {us ws kvs : List Value} {n' nw nk ne k : Nat} {cells : List Int} {ks : List Str} {turn v : Int} {ta tb : Tok}
    (hE : PassesOwn (model prog w) (ktrTop dp un gd (Str.ofString "law") (fnScope (stm 21)) L a ccd [] outer) (envX (Str.ofString "law") (fnScope (stm 21)) L a ccd []) E) (hd : dp ≤ 450) (hu : un ≤ 100)
    (B : Below A₀ base outer h₀) (F : Fr h₀ L s.heap m) (X : (KF w.params).In h₀) (N : News h₀ L s.heap ((pl, penObj cl' turn ta v tb k) :: (tl, listOf #[] ne) :: bs)) (T : Top p loose mean mg mb h₀)
    (hc : (cl', listOf us.toArray n') ∈ bs) (hi : IntsAre us cells) (hS : ∀ c ∈ cells, Small c) (h5 : cells.length < 1000)
    (hw : (wl, listOf ws.toArray nw) ∈ bs) (hW : Ws ws menu) (hkl : (kl, listOf kvs.toArray nk) ∈ bs) (hK : Ws kvs ks) (hks : ∀ k ∈ ks, isKey k) (S : SpIn prog w bs sp)
    (ne1 : @Ne Nat tl pl) (o1 : ∀ p ∈ bs, p.1 ≠ pl) (o2 : ∀ p ∈ bs, p.1 ≠ tl) (t0 : turn = 0) (v0 : v = 0)
    (g1 : m (Str.ofString "spellings") = some (.ref sp)) (g2 : m (Str.ofString "keys") = some (.ref kl)) (g3 : m (Str.ofString "pen") = some (.ref pl)) (g4 : m (Str.ofString "words") = some (.ref wl)) (g5 : m (Str.ofString "tokens") = some (.ref tl))
    (ret : ∀ h' tk' m', Fr h₀ L h' m' → Q (.ret (.bool true)) { s with heap := h', toks := tk' }) :
    wpAny (model prog w) (ktrTop dp un gd (Str.ofString "law") (fnScope (stm 21)) L a ccd [] outer) (execs ((fnBody (stm 21)).drop 6) (envX (Str.ofString "law") (fnScope (stm 21)) L a ccd [])) Q E s := by
  have e : m = lwMap sp kl pl wl tl m := by
    funext z
    unfold lwMap
    repeat' (first | rfl | (split; (rename_i h; rw [h]; assumption)))
  rw [e] at F
  clear g1 g2 g3 g4 g5 e
  subst t0 v0
  show wpAny _ (ktrTop dp un gd (Str.ofString "law") ⟨_, _, _, _, _⟩ L a ccd [] outer) (execs (_ :: _) (envX _ _ L _ _ _)) Q E s
  repeat ((fail_if_success (with_reducible show wpAny _ _ (exec (Stmt.For _ _ _ _ _) _) _ _ _)); first | (k_unfold; (try dsimp only)) | walk1 | (dsimp only; walk1))
  (rename Fr _ _ _ _ => F1)
  refine' For_invVF F1 rfl rfl ?_ (hE := hE)
  repeat ((fail_if_success (with_reducible show wpAny _ _ (pyIter (Value.ref _)) _ _ _)); first | (k_unfold; (try dsimp only)) | walk1 | (dsimp only; walk1))
  (rename Fr _ _ _ _ => F2); (rename News _ _ _ _ => N2); (rename IsRange _ _ _ _ _ _ _ _ => R2)
  refine iter_rng (fun i m₁ nx => Drawn cl' pl tl bs i nx ∧ ∀ z, z ≠ Str.ofString "turn" → z ≠ Str.ofString "kind" → m₁ z = lwMap sp kl pl wl tl m z) rfl R2 (small_one (by omega) (by omega) (by omega) (by omega)) (rangeSize_nat _ _) F2 N2 ⟨⟨_, _, _, _, _, [], _, [], [], rfl, by omega, by omega, by omega, .nil, rfl, List.forall_mem_nil _, List.forall_mem_nil _, List.forall_mem_nil _⟩, fun _ _ _ => rfl⟩ ?_ ?_
  · rintro i v m₁ nx h tk I oI hi ⟨⟨turn, ta, vv, tb, k, us2, n2, own, toks, rfl, q0, q1, q2, hT, hn, hok, w1, w2⟩, hz⟩ hoff F3 N3
    have hm : (fun y => if y = Str.ofString "turn" then some v else m₁ y) = fun y => if y = Str.ofString "turn" then some v else if y = Str.ofString "kind" then m₁ y else lwMap sp kl pl wl tl m y := by
      funext y
      split
      · rfl
      · split
        · rfl
        · rename_i q1 q2; exact hz y q1 q2
    rw [hm] at F3
    clear hm F1 F2 N2
    have nI1 : @Ne Nat I pl := Ne.symm (hoff _ (.head _))
    have nI2 : @Ne Nat I tl := Ne.symm (hoff _ (.tail _ (.head _)))
    have oo1 : ∀ p ∈ own ++ bs, p.1 ≠ pl := fun p hp => (List.mem_append.mp hp).elim (w1 p) (o1 p)
    have oo2 : ∀ p ∈ own ++ bs, p.1 ≠ tl := fun p hp => (List.mem_append.mp hp).elim (w2 p) (o2 p)
    have hi8 : i < 9 := by omega
    have hz9 : us2.toArray.size ≤ sizeLine := by rw [List.size_toArray, hT.len, hn]; exact Nat.le_trans (Nat.le_of_lt hi8) (by size_fits)
    with_reducible show wpAny _ _ _ _ _ _
    k_fold
    k_steps
    all_goals (
      (rename Fr _ _ _ _ => F4); (rename News _ _ _ (_ :: _) => N4); (rename ((_ < _) ∧ _) => hlt)
      obtain ⟨l1, l2, l3, _⟩ := hlt
      exact drawn_end F4 N4 hoff l1 l2 l3 (by omega) (by omega) (by omega) hT hn hok w1 w2 (by first | exact .inl rfl | exact .inr rfl) (by assumption) (by intro z z1 z2; simp only [if_neg z1, if_neg z2]))
  · rintro m₁ nx h tk ⟨⟨turn, ta, vv, tb, k, us2, n2, own, toks, rfl, q0, q1, q2, hT, hn, hok, w1, w2⟩, hz⟩ F3 N3
    have hm : m₁ = fun y => if y = Str.ofString "turn" then m₁ y else if y = Str.ofString "kind" then m₁ y else lwMap sp kl pl wl tl m y := by
      funext y
      split
      · rfl
      · split
        · rfl
        · rename_i q1 q2; exact hz y q1 q2
    rw [hm] at F3
    clear hm F1 F2 N2
    have hlen : us2.length < 9 := by rw [hT.len, hn]; omega
    have hlen2 : us2.toArray.size < 9 := by rw [List.size_toArray]; exact hlen
    have hlen3 : us2.length < 1000 := by omega
    with_reducible show wpAny _ _ _ _ _ _
    k_steps
    (rename Fr _ _ _ _ => F4)
    exact ret _ _ _ F4
end
section
theorem ws_of_strs : ∀ {vs : List Value} {ss : List Str}, StrsAre vs ss → Ws vs ss
  | _, _, .nil => .nil
  | _, _, .cons y t r => .cons y t (ws_of_strs r)
theorem sort_strs_list {prog : Program} {w : World} {A : Around} {E : Value → Shared → Prop} {s : Shared} {h₀ : Heap} {L D : Addr} {m : Str → Option Value} {news : List (Addr × Obj)} {vs : List Value} {ss : List Str} {n : Nat} {Q : Value → Shared → Prop}
    (F : Fr h₀ L s.heap m) (N : News h₀ L s.heap ((D, listOf vs.toArray n) :: news)) (off : ∀ p ∈ news, p.1 ≠ D) (hS : StrsAre vs ss) (h64 : vs.length < 64) (h0 : vs.length ≠ 0)
    (h : ∀ (vs' : List Value) ss' k h', Fr h₀ L h' m → News h₀ L h' ((D, listOf vs'.toArray k) :: news) → StrsAre vs' ss' → ss'.Perm ss → Q .none { s with heap := h' }) :
    wpAny (model prog w) A (call (.builtin "list.sort") [.ref D]) Q E s := by
  have z := N (D, listOf vs.toArray n) (.head _)
  refine wpAny_call_entry PyProof.Rows.slot_list_sort ⟨_, z.1, rfl⟩ PyProof.Rows.entry_list_sort (list_sort_treeK (n := n) (vs := vs) PyProof.Rows.strKind_oneLt z.1 hS.keysOf (fun v₁ v₂ rest e => keyKind_strs (by rw [← e]; exact hS)) h64 fun st' hp hs => ⟨.none, rfl, ?_⟩) (PyProof.Rows.args_list_sort _)
  obtain ⟨ss', h1, h2, h3⟩ := sorted_out_str hS hp hs
  generalize hout : (arrOf st').map (·.2) = out at h1
  have hlen : out.size ≠ 0 := by
    have e1 : out.size = vs.length := by rw [← hout, Array.size_map, hp.size_eq, pairsOf_size]
    rw [e1]; exact h0
  have F1 : Fr h₀ L (s.heap.update D (Obj.mapSeq fun _ => (#[] : Array Value))) m := F.change (Heap.SameBut.update ..) z.2.1 z.2.2
  have N1 := ki_turn (pre := []) (fun _ => (#[] : Array Value)) (its' := #[]) (n' := n + 1) N (fun _ h => nomatch h) off rfl (by rw [if_neg (by simpa using fun h => h0 (by simpa using h.symm))])
  have N2 := News.grown N1 fun _ _ e => Heap.get?_push_of_some (seqObj "tuple" vs.toArray 0) e
  have N3 := News.grown N2 fun _ _ e => Heap.get?_push_of_some (seqObj "list" #[] 0) e
  have N4 := ki_turn (pre := []) (fun _ => out) (its' := out) (n' := n + 2) N3 (fun _ h => nomatch h) off rfl (by rw [if_neg (by simpa using hlen)])
  have F4 : Fr h₀ L ((((s.heap.update D (Obj.mapSeq fun _ => (#[] : Array Value))).push (seqObj "tuple" vs.toArray 0)).push (seqObj "list" #[] 0)).update D (Obj.mapSeq fun _ => out)) m :=
    ((F1.push (seqObj "tuple" vs.toArray 0)).push (seqObj "list" #[] 0)).change (Heap.SameBut.update ..) z.2.1 z.2.2
  refine h out.toList ss' (n + 2) _ F4 ?_ h1 h2
  rw [Array.toArray_toList]
  exact N4
theorem strs_of_keys : ∀ {vs : List Value} {ks : List Str}, vs.length = ks.length → (∀ (j : Nat) (v : Value), vs[j]? = some v → ∃ k t, ks[j]? = some k ∧ v = .str k t) → StrsAre vs ks
  | [], [], _, _ => .nil
  | [], _ :: _, h, _ => by cases h
  | _ :: _, [], h, _ => by cases h
  | v :: vs, k :: ks, h, f => by
    obtain ⟨k', t, e, rfl⟩ := f 0 v rfl
    obtain rfl : k = k' := by simpa using e
    exact .cons k t (strs_of_keys (by simpa using h) fun j u q => by simpa using f (j + 1) u (by simpa using q))
/-- sorted over the dict of spellings: a list of its keys -/
theorem sorted_sp {prog : Program} {w : World} {A : Around} {E : Value → Shared → Prop} {s : Shared} {h₀ : Heap} {L sp : Addr} {m : Str → Option Value} {news : List (Addr × Obj)} {Q : Value → Shared → Prop}
    (hh : A.handled = none) (F : Fr h₀ L s.heap m) (N : News h₀ L s.heap news) (S : SpIn prog w news sp)
    (h : ∀ kl (kvs : List Value) ks n h' tk', Fr h₀ L h' m → News h₀ L h' ((kl, listOf kvs.toArray n) :: news) → Ws kvs ks → (∀ k ∈ ks, isKey k) → Q (.ref kl) { s with heap := h', toks := tk' }) :
    wpAny (model prog w) A (call (.builtin "sorted") [.ref sp]) Q E s := by
  obtain ⟨lo, o, kvs, h1, h2, h3⟩ := S
  have hD := kda_dict N h1 h2
  obtain ⟨ep, hat⟩ := hD.dictAt
  have hkeys := h3.keys
  have hlen : kvs.length = 10 := by
    have := congrArg List.length hkeys
    rw [List.length_map, List.length_map] at this
    rw [this]; rfl
  refine kdu_sorted (kdl_dict (knd := PySem.strKind prog w) (kvs := kvs) (ep := ep) lo) hh F N hat (kdl_size (by rw [hlen]; decide)) fun B h' tk vs F' N' l1 hl hv => ?_
  have hS : StrsAre vs (kvs.map (·.1)) := strs_of_keys (by rw [hl, List.length_map]) fun j v e => by
    obtain ⟨k, x, e1, e2⟩ := hv j v e
    obtain ⟨t, rfl⟩ : ∃ t, v = .str k t := Value.isStrOf_shape e2
    exact ⟨k, t, by rw [List.getElem?_map, e1]; rfl, rfl⟩
  refine sort_strs_list F' N' (fun p hp => Nat.ne_of_lt (l1 p hp)) hS (by rw [hl, hlen]; decide) (by rw [hl, hlen]; decide) fun vs' ss' k h'' F'' N'' q1 q2 => ?_
  refine h B vs' ss' k h'' tk F'' N'' (ws_of_strs q1) fun y hy => ?_
  have := q2.mem_iff.mp hy
  rw [hkeys] at this
  exact this
end
section
local macro_rules | `(tactic| k_all) => `(tactic| first | assumption | exact List.forall_mem_nil _ | (refine' List.forall_mem_cons.mpr ⟨?a, ?b⟩; (case a => k_ne); (case b => k_all)))
def spellStep (i : Nat) : Bool := match spellTab[i]? with
  | some (k, t) => decide (spellTab[4 + i]? = some (Str.ofString "not " ++ k, t.map fun x => Str.ofString "NOT " ++ x)) && decide ((spellTab.take (4 + i)).lookup k = some t) && !((spellTab.take (4 + i)).map (·.1)).contains (Str.ofString "not " ++ k) && Nat.ble k.length 1000 && t.all (fun x => Nat.ble x.length 1000) && Nat.ble t.length 1000
  | none => false
structure Step (i : Nat) (k : Str) (t : List Str) : Prop where
  new : spellTab.take (4 + (i + 1)) = spellTab.take (4 + i) ++ [(Str.ofString "not " ++ k, t.map fun x => Str.ofString "NOT " ++ x)]
  at_ : (spellTab.take (4 + i)).lookup k = some t
  fresh : Str.ofString "not " ++ k ∉ (spellTab.take (4 + i)).map (·.1)
  small : k.length ≤ 1000
  smalls : ∀ x ∈ t, x.length ≤ 1000
  few : t.length ≤ 1000
theorem step_of {i : Nat} (hi : i < 4) : ∃ k t, spellTab[i]? = some (k, t) ∧ Step i k t := by
  have h : ∀ i < 4, spellStep i = true := by decide +kernel
  have q := h i hi
  unfold spellStep at q
  split at q
  · rename_i k t e
    simp only [Bool.and_eq_true, decide_eq_true_eq, Bool.not_eq_true', List.all_eq_true] at q
    obtain ⟨⟨⟨⟨⟨a, b⟩, c⟩, d⟩, f⟩, g⟩ := q
    refine ⟨k, t, e, ⟨?_, b, fun hm => ?_, Nat.le_of_ble_eq_true d, fun x hx => Nat.le_of_ble_eq_true (f x hx), Nat.le_of_ble_eq_true g⟩⟩
    · rw [show 4 + (i + 1) = (4 + i) + 1 by omega]; exact take_snoc a
    · have := List.contains_iff_mem.mpr hm
      rw [this] at c; cases c
  · cases q
theorem stored_new {kvs : List (Str × Value)} {k : Str} {v : Value} (h : k ∉ kvs.map (·.1)) : stored kvs k v = kvs ++ [(k, v)] := by
  unfold stored
  rw [if_neg]
  intro q
  obtain ⟨x, hx, e⟩ := List.any_eq_true.mp q
  exact h (List.mem_map.mpr ⟨x, hx, by simpa using e⟩)
def Found (prog : Program) (w : World) (fd : Addr) (tab : List (Str × List Str)) (base nx : List (Addr × Obj)) : Prop :=
  ∃ o kvs own, nx = (fd, o) :: (own ++ base) ∧ o.IsDictOf (PySem.strKind prog w) kvs ∧ SpAll (own ++ base) kvs tab ∧ ∀ p ∈ own ++ base, p.1 ≠ fd
abbrev spMap (fd : Addr) (m : Str → Option Value) : Str → Option Value := fun z => if z = Str.ofString "found" then some (.ref fd) else m z
local macro_rules | `(tactic| walk_at "subscriptTail") => `(tactic| (k_here; (with_reducible show wpAny _ _ (subscriptTail _ _ (Value.ref _) (Value.str _ _)) _ _ _); k_dflt (refine' kda_item (knd := PySem.strKind _ _) ?N ?p ?d (strKind_is _ _ _ _) ?l ?_ ?hs ?hg; (case N => k_asm); (case d => assumption); (case p => k_mem); (case l => assumption); (case hs => with_unfolding_all rfl); (case hg => (intro _; with_unfolding_all rfl)); k_whole)))
local macro_rules | `(tactic| walk_at "eval ListComp") => `(tactic| (k_here; k_dflt (refine LCg.ListComp_U (F₀ := by k_asm) (by rfl) (by decide) (by rfl) (by decide) (by rfl) ?_)))
local macro_rules | `(tactic| walk_at "CompSrc") => `(tactic| (k_here; k_dflt (refine LCg.CompSrc.ledger (by rfl) (by k_asm) (by k_asm) (by k_mem) (by first | assumption | size_fits | skip) ?_); intro g'))
local macro_rules | `(tactic| walk_at "binaryOp Add str str") => `(tactic| (k_here; (with_reducible refine PyProof.Rows.add_str ?h9 ?z9); (case z9 => assumption); intro t' tk'))
theorem Ws.snoc {vs : List Value} {es : List Str} {y : Str} {t : Tok} (h : Ws vs es) : Ws (vs ++ [.str y t]) (es ++ [y]) := by
  induction h with
  | nil => exact .cons _ _ .nil
  | cons a b _ ih => exact .cons a b ih
theorem found_step {prog : Program} {w : World} {fd D : Addr} {o' : Obj} {kvs : List (Str × Value)} {own base : List (Addr × Obj)} {ys : List Value} {k : Str} {t : List Str} {i n : Nat}
    (hA : SpAll (own ++ base) kvs (spellTab.take (4 + i))) (st : Step i k t) (hd : o'.IsDictOf (PySem.strKind prog w) (stored kvs (Str.ofString "not " ++ k) (.ref D))) (hW : Ws ys (t.map fun x => Str.ofString "NOT " ++ x)) (off : ∀ p ∈ own ++ base, p.1 ≠ fd) (hne : @Ne Nat D fd) :
    Found prog w fd (spellTab.take (4 + (i + 1))) base ((fd, o') :: ((D, listOf (List.toArray ys) n) :: own ++ base)) := by
  refine ⟨o', _, (D, listOf (List.toArray ys) n) :: own, rfl, hd, ?_, List.forall_mem_cons.mpr ⟨hne, off⟩⟩
  rw [stored_new (by rw [hA.keys]; exact st.fresh), st.new]
  exact SpAll.snoc (hA.mono fun p hp => .tail _ hp) (.head _) hW
theorem found_more {D : Addr} {kvs : List (Str × Value)} {news : List (Addr × Obj)} {ys : List Value} {k : Str} {t : List Str} {i n : Nat}
    (hA : SpAll news kvs (spellTab.take i)) (e : spellTab[i]? = some (k, t)) (hf : k ∉ (spellTab.take i).map (·.1)) (hW : Ws ys t) :
    SpAll ((D, listOf (List.toArray ys) n) :: news) (stored kvs k (.ref D)) (spellTab.take (i + 1)) := by
  rw [stored_new (by rw [hA.keys]; exact hf), take_snoc e]
  exact SpAll.snoc (hA.mono fun p hp => .tail _ hp) (.head _) hW
theorem e8 : spellTab[8]? = some (so "fault", [so "EXCEPTION", so "ON EXCEPTION", so "OVERFLOW", so "ON OVERFLOW"]) := rfl
theorem e9 : spellTab[9]? = some (so "not fault", [so "NOT EXCEPTION", so "NOT ON EXCEPTION"]) := rfl
theorem f8 : so "fault" ∉ (spellTab.take 8).map (·.1) := by decide +kernel
theorem f9 : so "not fault" ∉ (spellTab.take 9).map (·.1) := by decide +kernel
theorem spell_end {prog : Program} {w : World} {h₀ h' : Heap} {L fd A C : Addr} {o4 : Obj} {kvs : List (Str × Value)} {news : List (Addr × Obj)} {a b c d e f : Tok}
    (N : News h₀ L h' ((C, listOf #[.str (so "NOT EXCEPTION") e, .str (so "NOT ON EXCEPTION") f] 0) :: (A, listOf #[.str (so "EXCEPTION") a, .str (so "ON EXCEPTION") b, .str (so "OVERFLOW") c, .str (so "ON OVERFLOW") d] 0) :: (fd, o4) :: news))
    (lo : (fd == sysModules) = false) (hA : SpAll news kvs (spellTab.take 8)) (hd : o4.IsDictOf (PySem.strKind prog w) (stored (stored kvs (so "fault") (.ref A)) (so "not fault") (.ref C))) :
    SpIn prog w ((C, listOf #[.str (so "NOT EXCEPTION") e, .str (so "NOT ON EXCEPTION") f] 0) :: (A, listOf #[.str (so "EXCEPTION") a, .str (so "ON EXCEPTION") b, .str (so "OVERFLOW") c, .str (so "ON OVERFLOW") d] 0) :: (fd, o4) :: news) fd := by
  refine ⟨lo, _, _, .tail _ (.tail _ (.head _)), hd, ?_⟩
  refine SpAll.mono (show SpAll _ _ spellTab from found_more (D := C) (n := 0) (found_more (D := A) (n := 0) hA e8 f8 (ys := [.str _ a, .str _ b, .str _ c, .str _ d]) (.cons _ _ (.cons _ _ (.cons _ _ (.cons _ _ .nil))))) e9 f9 (ys := [.str _ e, .str _ f]) (.cons _ _ (.cons _ _ .nil))) fun p hp => ?_
  rcases List.mem_cons.mp hp with rfl | hp
  · exact .head _
  · rcases List.mem_cons.mp hp with rfl | hp
    · exact .tail _ (.head _)
    · exact .tail _ (.tail _ (.tail _ hp))
local macro_rules | `(tactic| walk_at "setItem ref str") => `(tactic| (k_here; k_dflt (refine' kda_set (knd := PySem.strKind _ _) ?F ?N ?U ?d (strKind_is _ _ _ _) ?z ?_; (case F => k_asm); (case N => k_asm); (case U => k_updF); (case d => assumption); (case z => first | assumption | exact (show ∀ v : Value, (stored _ _ v).length ≤ sizeLine by assumption) _)); intro h' o' F' N' hd'; (try dsimp only at N')))
set_option maxHeartbeats 4000000 in
theorem spell_loop {w : World} {p : Program} {loose : List Str} {mean : ExcName → Option Value} {mg mb : Str → Option Value} {prog : Program}
    {dp un : Nat} {gd : Option (List Code)} {outer : List Env} {A₀ : Around} {base h₀ : Heap} {L : Addr} {m : Str → Option Value} {s : Shared} {Q : Flow → Shared → Prop} {E : Value → Shared → Prop}
    {bs : List (Addr × Obj)} {fd : Addr} {o : Obj} {kvs : List (Str × Value)}
    (hE : PassesOwn (model prog w) (ktrTop dp un gd (Str.ofString "_law_spellings") (fnScope (stm 18)) L 320 (.ref 319) [] outer) (envX (Str.ofString "_law_spellings") (fnScope (stm 18)) L 320 (.ref 319) []) E) (hd : dp ≤ 570) (hu : un ≤ 220)
    (B : Below A₀ base outer h₀) (F : Fr h₀ L s.heap m) (X : (KF w.params).In h₀) (N : News h₀ L s.heap ((fd, o) :: bs)) (T : Top p loose mean mg mb h₀)
    (lo : (fd == sysModules) = false) (hD : o.IsDictOf (PySem.strKind prog w) kvs) (hA : SpAll bs kvs (spellTab.take 4)) (off : ∀ p ∈ bs, p.1 ≠ fd) (g1 : m (Str.ofString "found") = some (.ref fd))
    (ret : ∀ own h' tk' m', Fr h₀ L h' m' → News h₀ L h' own → (∀ p ∈ bs, p ∈ own) → SpIn prog w own fd → Q (.ret (.ref fd)) { s with heap := h', toks := tk' }) :
    wpAny (model prog w) (ktrTop dp un gd (Str.ofString "_law_spellings") (fnScope (stm 18)) L 320 (.ref 319) [] outer) (execs ((fnBody (stm 18)).drop 2) (envX (Str.ofString "_law_spellings") (fnScope (stm 18)) L 320 (.ref 319) [])) Q E s := by
  have e : m = spMap fd m := by
    funext z
    unfold spMap
    repeat' (first | rfl | (split; (rename_i h; rw [h]; assumption)))
  rw [e] at F
  clear g1 e
  show wpAny _ (ktrTop dp un gd (Str.ofString "_law_spellings") ⟨_, _, _, _, _⟩ L 320 (.ref 319) [] outer) (execs (_ :: _) (envX _ _ L _ _ _)) Q E s
  repeat ((fail_if_success (with_reducible show wpAny _ _ (exec (Stmt.For _ _ _ _ _) _) _ _ _)); first | (k_unfold; (try dsimp only)) | walk1 | (dsimp only; walk1))
  (rename Fr _ _ _ _ => F1)
  refine' For_invVF F1 rfl rfl ?_ (hE := hE)
  repeat ((fail_if_success (with_reducible show wpAny _ _ (pyIter (Value.ref _)) _ _ _)); first | (k_unfold; (try dsimp only)) | walk1 | (dsimp only; walk1))
  rename_i D9 h9 F9 N9 l9
  obtain ⟨l9a, l9b⟩ := l9
  have hW : Ws [Value.str (Str.ofString "size") s.toks, .str (Str.ofString "over") (s.toks + 1), .str (Str.ofString "end") (s.toks + 1 + 1), .str (Str.ofString "invalid") (s.toks + 1 + 1 + 1)] ((spellTab.take 4).map (·.1)) := by
    rw [show (spellTab.take 4).map (·.1) = [Str.ofString "size", Str.ofString "over", Str.ofString "end", Str.ofString "invalid"] by decide +kernel]
    exact .cons _ _ (.cons _ _ (.cons _ _ (.cons _ _ .nil)))
  generalize hvs : [Value.str (Str.ofString "size") s.toks, .str (Str.ofString "over") (s.toks + 1), .str (Str.ofString "end") (s.toks + 1 + 1), .str (Str.ofString "invalid") (s.toks + 1 + 1 + 1)] = vs4 at hW
  have N10 : News h₀ L h9 ((fd, o) :: ([] ++ ((D9, ({ cls := .type "tuple", data := .seq vs4.toArray } : Obj)) :: bs))) := fun p hp => N9 p (by
    rw [← hvs] at hp
    rcases List.mem_cons.mp hp with rfl | hp
    · exact .tail _ (.head _)
    · rcases List.mem_cons.mp hp with rfl | hp
      · exact .head _
      · exact .tail _ (.tail _ hp))
  have offD : ∀ p ∈ ((D9, ({ cls := .type "tuple", data := .seq vs4.toArray } : Obj)) :: bs), p.1 ≠ fd := List.forall_mem_cons.mpr ⟨Nat.ne_of_gt l9a, off⟩
  generalize hbase : ((D9, ({ cls := .type "tuple", data := .seq vs4.toArray } : Obj)) :: bs) = base2 at N10 offD
  have hmem : (D9, ({ cls := .type "tuple", data := .seq vs4.toArray } : Obj)) ∈ base2 := by rw [← hbase]; exact .head _
  have hA2 : SpAll base2 kvs (spellTab.take 4) := by rw [← hbase]; exact hA.mono fun p hp => .tail _ hp
  have hsub : ∀ p ∈ bs, p ∈ base2 := fun p hp => by rw [← hbase]; exact .tail _ hp
  clear N9 hA off hbase l9a l9b
  have hlen4 : vs4.length = 4 := by rw [← hvs]; rfl
  refine iter_seq (fun i m₁ nx => Found prog w fd (spellTab.take (4 + i)) base2 nx ∧ ∀ z, z ≠ Str.ofString "key" → m₁ z = spMap fd m z) rfl (List.Mem.tail _ hmem) (.inr rfl) rfl F9 N10 ⟨⟨o, kvs, [], rfl, hD, by simpa using hA2, by simpa using offD⟩, fun _ _ => rfl⟩ ?_ ?_
  · rintro i v m₁ nx h tk I oI hv ⟨⟨o2, kvs2, own, rfl, hD2, hA3, off2⟩, hz⟩ hm hoff F2 N2
    have hi : i < 4 := by
      by_cases q : i < 4
      · exact q
      · rw [List.getElem?_eq_none (by omega)] at hv; cases hv
    obtain ⟨k, t, e, st⟩ := step_of hi
    obtain ⟨y, ty, rfl, hy⟩ := hW.at i v hv
    have hyk : y = k := by
      rw [List.getElem?_map, List.getElem?_take_of_lt hi, e] at hy
      exact (Option.some.inj hy).symm
    subst hyk
    obtain ⟨sl, ss, n, hval, msl, wss⟩ := hA3.find st.at_
    have hm2 : (fun z => if z = Str.ofString "key" then some (Value.str y ty) else m₁ z) = fun z => if z = Str.ofString "key" then some (Value.str y ty) else spMap fd m z := by
      funext z
      split
      · rfl
      · rename_i q; exact hz z q
    rw [hm2] at F2
    have z1 : (Str.ofString "not ").length + y.length ≤ sizeLine := Nat.le_trans (show _ ≤ 2000 by have := st.small; have q : (Str.ofString "not ").length = 4 := (by decide +kernel); omega) (by size_fits)
    have z2 : ss.toArray.size ≤ sizeLine := by rw [List.size_toArray, wss.len]; exact Nat.le_trans st.few (by size_fits)
    have z3 : kvs2.length ≤ sizeLine := by
      have q := congrArg List.length hA3.keys
      rw [List.length_map, List.length_map, List.length_take] at q
      rw [q]; exact Nat.le_trans (Nat.min_le_left _ _) (Nat.le_trans (show 4 + i ≤ 1000 by omega) (by size_fits))
    have nI : @Ne Nat I fd := Ne.symm (hoff _ (.head _))
    clear hm2 F9 N10 hm hv
    with_reducible show wpAny _ _ _ _ _ _
    k_fold
    k_steps
    refine comp_ind (fun j ys nw => nw = (I, oI) :: (fd, o2) :: (own ++ base2) ∧ Ws ys ((t.take j).map fun x => Str.ofString "NOT " ++ x)) ⟨rfl, .nil⟩ ?_ ?_
    · rintro ys nw ⟨rfl, hY⟩
      have hY2 : Ws ys (t.map fun x => Str.ofString "NOT " ++ x) := by
        rw [List.size_toArray, wss.len, List.take_length] at hY; exact hY
      unfold LCg.FinE
      intro D h tk F3 N3 o1
      have o2' : @Ne Nat D fd := Ne.symm (off1_mem o1 _ (.tail _ (.head _)))
      have o3' : @Ne Nat D I := Ne.symm (off1_mem o1 _ (.head _))
      k_steps
      (rename Fr _ _ _ _ => F4); (rename News _ _ _ (_ :: _) => N4); (rename Obj.IsDictOf _ _ (stored _ _ _) => hd4)
      refine GEnd.intro F4 N4 ((fd, _) :: ((D, listOf (List.toArray ys) ys.length) :: (own ++ base2))) (fun p hp => ?_) (fun p hp => ?_) (fun p hp => ?_) ⟨found_step hA3 st hd4 hY2 off2 o2', fun z hzk => by simp only [if_neg hzk]⟩
      · rcases List.mem_cons.mp hp with rfl | hp
        · exact .tail _ (.head _)
        · rcases List.mem_cons.mp hp with rfl | hp
          · exact .tail _ (.tail _ (.head _))
          · rcases List.mem_cons.mp hp with rfl | hp
            · exact .head _
            · exact .tail _ (.tail _ (.tail _ hp))
      · rcases List.mem_cons.mp hp with rfl | hp
        · exact Ne.symm nI
        · rcases List.mem_cons.mp hp with rfl | hp
          · exact o3'
          · exact hoff _ (.tail _ hp)
      · rw [List.mem_singleton.mp hp]
        exact .tail _ (.tail _ (List.mem_append_right _ hmem))
    · rintro j ys nw hj ⟨rfl, hY⟩ v I3 oI3 C' oC D m₂ h tk E' hP hC hx F3 N3 off ne
      obtain ⟨x, tx, rfl, hx3⟩ := wss.at j v (by simpa using hP)
      have z5 : (Str.ofString "NOT ").length + x.length ≤ sizeLine := Nat.le_trans (show _ ≤ 2000 by have := st.smalls x (List.mem_of_getElem? hx3); have q : (Str.ofString "NOT ").length = 4 := (by decide +kernel); omega) (by size_fits)
      with_reducible show wpAny _ _ _ _ _ _
      k_steps
      (rename Fr _ _ _ _ => F4); (rename News _ _ _ (_ :: _) => N4)
      refine LCg.CompEnd.intro F4 N4 _ (fun p hp => hp) off (.inr ⟨_, .tail _ (.tail _ msl), rfl, _, rfl⟩) ⟨rfl, ?_⟩
      rw [List.take_add_one, hx3, Option.toList_some, List.map_append]
      exact Ws.snoc hY
  · rintro m₁ nx h tk ⟨⟨o2, kvs2, own, rfl, hD2, hA3, off2⟩, hz⟩ hm F2 N2
    have hm2 : m₁ = fun z => if z = Str.ofString "key" then m₁ z else spMap fd m z := by
      funext z
      split
      · rfl
      · rename_i q; exact hz z q
    rw [hm2] at F2
    rw [hlen4] at hA3
    have z3 : kvs2.length ≤ sizeLine := by
      have q := congrArg List.length hA3.keys
      rw [List.length_map, List.length_map, List.length_take] at q
      rw [q]; exact Nat.le_trans (Nat.min_le_left _ _) (by size_fits)
    have z4 : ∀ v : Value, (stored kvs2 (Str.ofString "fault") v).length ≤ sizeLine := fun v => by
      rw [stored_new (by rw [hA3.keys]; exact f8), List.length_append]
      have q := congrArg List.length hA3.keys
      rw [List.length_map, List.length_map, List.length_take] at q
      exact Nat.le_trans (show _ ≤ 2000 by rw [q]; simp only [List.length_cons, List.length_nil]; omega) (by size_fits)
    clear hm2 F9 N10 hm
    with_reducible show wpAny _ _ _ _ _ _
    k_steps
    (rename Fr _ _ _ _ => F4); (rename News _ _ _ (_ :: _) => N4); (rename Obj.IsDictOf _ _ (stored _ _ _) => hd4)
    exact ret _ _ _ _ F4 N4 (fun p hp => .tail _ (.tail _ (.tail _ (List.mem_append_right _ (hsub p hp))))) (spell_end N4 lo hA3 hd4)
end
section
theorem spell_first {g h' : Heap} {L d l1 l2 l3 l4 : Addr} {o : Obj} {news : List (Addr × Obj)} {a b c e f i j k : Tok}
    (N : News g L h' ((l4, listOf #[.str (so "INVALID") j, .str (so "INVALID KEY") k] 0) :: (l3, listOf #[.str (so "END") f, .str (so "AT END") i] 0) :: (l2, listOf #[.str (so "OVERFLOW") c, .str (so "ON OVERFLOW") e] 0) :: (l1, listOf #[.str (so "SIZE ERROR") a, .str (so "ON SIZE ERROR") b] 0) :: (d, o) :: news))
    (q1 : @LT.lt Nat _ d l1) (q2 : @LT.lt Nat _ d l2) (q3 : @LT.lt Nat _ d l3) (q4 : @LT.lt Nat _ d l4) (q5 : ∀ p ∈ news, @LT.lt Nat _ p.1 d) :
    ∃ bs, News g L h' ((d, o) :: bs) ∧ (∀ p ∈ news, p ∈ bs) ∧ (∀ p ∈ bs, p.1 ≠ d) ∧ SpAll bs [(so "size", .ref l1), (so "over", .ref l2), (so "end", .ref l3), (so "invalid", .ref l4)] (spellTab.take 4) := by
  refine ⟨(l4, listOf #[.str (so "INVALID") j, .str (so "INVALID KEY") k] 0) :: (l3, listOf #[.str (so "END") f, .str (so "AT END") i] 0) :: (l2, listOf #[.str (so "OVERFLOW") c, .str (so "ON OVERFLOW") e] 0) :: (l1, listOf #[.str (so "SIZE ERROR") a, .str (so "ON SIZE ERROR") b] 0) :: news, fun p hp => N p ?_, fun p hp => .tail _ (.tail _ (.tail _ (.tail _ hp))), List.forall_mem_cons.mpr ⟨Nat.ne_of_gt q4, List.forall_mem_cons.mpr ⟨Nat.ne_of_gt q3, List.forall_mem_cons.mpr ⟨Nat.ne_of_gt q2, List.forall_mem_cons.mpr ⟨Nat.ne_of_gt q1, fun p hp => Nat.ne_of_lt (q5 p hp)⟩⟩⟩⟩, ?_⟩
  · rcases List.mem_cons.mp hp with rfl | hp
    · exact .tail _ (.tail _ (.tail _ (.tail _ (.head _))))
    rcases List.mem_cons.mp hp with rfl | hp
    · exact .head _
    rcases List.mem_cons.mp hp with rfl | hp
    · exact .tail _ (.head _)
    rcases List.mem_cons.mp hp with rfl | hp
    · exact .tail _ (.tail _ (.head _))
    rcases List.mem_cons.mp hp with rfl | hp
    · exact .tail _ (.tail _ (.tail _ (.head _)))
    · exact .tail _ (.tail _ (.tail _ (.tail _ (.tail _ hp))))
  · exact .cons (n := 0) (ss := [.str (so "SIZE ERROR") a, .str (so "ON SIZE ERROR") b]) (.tail _ (.tail _ (.tail _ (.head _)))) (.cons _ _ (.cons _ _ .nil))
      (.cons (n := 0) (ss := [.str (so "OVERFLOW") c, .str (so "ON OVERFLOW") e]) (.tail _ (.tail _ (.head _))) (.cons _ _ (.cons _ _ .nil))
      (.cons (n := 0) (ss := [.str (so "END") f, .str (so "AT END") i]) (.tail _ (.head _)) (.cons _ _ (.cons _ _ .nil))
      (.cons (n := 0) (ss := [.str (so "INVALID") j, .str (so "INVALID KEY") k]) (.head _) (.cons _ _ (.cons _ _ .nil)) .nil)))
set_option maxHeartbeats 4000000 in
theorem spellings_c {w : World} {p : Program} {loose : List Str} {mean : ExcName → Option Value} {mg mb : Str → Option Value} {prog : Program}
    {dp un : Nat} {gd : Option (List Code)} {cn : Str} {cs : Scope} {a : Addr} {ccd : Value} {cl : List (Str × Addr)} {outer : List Env} {A₀ : Around} {base h₀ : Heap} {L : Addr} {m : Str → Option Value} {s : Shared} {Q E : Value → Shared → Prop}
    {news : List (Addr × Obj)}
    (hk : cs.kind = .function) (hd : dp ≤ 550) (hu : un ≤ 200)
    (B : Below A₀ base outer h₀) (F : Fr h₀ L s.heap m) (X : (KF w.params).In h₀) (N : News h₀ L s.heap news) (T : Top p loose mean mg mb h₀)
    (ret : ∀ sp all h' tk', Fr h₀ L h' m → News h₀ L h' all → (∀ p ∈ news, p ∈ all) → SpIn prog w all sp → Q (.ref sp) { s with heap := h', toks := tk' }) :
    wpAny (model prog w) (ktrTop dp un gd cn cs L a ccd cl outer) (call (.ref 320) []) Q E s := by
  refine wpAny_call ?_
  k_dflt k_enter
  repeat ((fail_if_success (with_reducible show wpAny _ _ (execs (Stmt.For _ _ _ _ _ :: _) _) _ _ _)); first | (k_unfold; (try dsimp only)) | walk1 | (dsimp only; walk1))
  (rename Fr _ _ _ _ => F9); (rename News _ _ _ (_ :: _) => N9); (rename Obj.IsDictOf _ _ [_, _, _, _] => hd9)
  (rename (_ < _ ∧ _ < _ ∧ _ < _ ∧ _ < _ ∧ AllLt _ _) => q4); (rename (_ < _ ∧ _ < _ ∧ _ < _ ∧ AllLt _ _) => q3); (rename (_ < _ ∧ _ < _ ∧ AllLt _ _) => q2); (rename (_ < _ ∧ AllLt _ _) => q1)
  obtain ⟨bs, N8, sub, off, hA⟩ := spell_first N9 q1.1 q2.2.1 q3.2.2.1 q4.2.2.2.1 (by assumption)
  k_dflt (refine' spell_loop ?kE ?kd ?ku ?k1 F9 ?k3 N8 ?k5 ?lo hd9 hA off ?g1 ?_; (case kE => passes_own); (case kd => ((try dsimp only [ktrTop, Around.deeper]); omega)); (case ku => ((try dsimp only [ktrTop, Around.deeper]); omega)); (case k1 => k_asm); (case k3 => k_asm); (case k5 => k_asm); (case lo => assumption); (case g1 => exact rfl))
  intro all h9 tk9 m9 FF NN hs hS
  exact leaveK_ FF NN fun kF kN => ret _ _ _ _ kF kN (fun p hp => hs p (sub p hp)) hS
end
section
theorem textOk_more : ∀ {key x : Str}, isKey key → x ∈ spellOf key → TextOk (x ++ Str.ofString " KEY ERROR") ∧ x.length + (Str.ofString " KEY ERROR").length ≤ sizeLine := by
  have h : ∀ q ∈ spellTab, spellOf q.1 = q.2 ∧ ∀ x ∈ q.2, ((x ++ Str.ofString " KEY ERROR") == Str.ofString "") = false ∧ Nat.ble ((x ++ Str.ofString " KEY ERROR").length + 2) 1000 = true ∧ Nat.ble ((wtoks (x ++ Str.ofString " KEY ERROR")).length + 1) 1000 = true ∧ (wtoks (x ++ Str.ofString " KEY ERROR")).all okTok = true ∧ Nat.ble (x.length + (Str.ofString " KEY ERROR").length) 1000 = true := by decide +kernel
  intro key x hk hx
  unfold isKey at hk
  obtain ⟨q, hq, rfl⟩ := List.mem_map.mp hk
  obtain ⟨e, r⟩ := h q hq
  rw [e] at hx
  obtain ⟨a, b, c, d, f⟩ := r x hx
  exact ⟨⟨a, Nat.le_trans (Nat.le_of_ble_eq_true b) (by size_fits), Nat.le_of_ble_eq_true c, List.all_eq_true.mp d⟩, Nat.le_trans (Nat.le_of_ble_eq_true f) (by size_fits)⟩
theorem key_fault : isKey (Str.ofString "fault") := by unfold isKey; decide +kernel
theorem key_notend : isKey (Str.ofString "not end") := by unfold isKey; decide +kernel
theorem two_keys {a b : Str} (h1 : isKey a) (h2 : isKey b) : ∀ k ∈ [a, b], isKey k := List.forall_mem_cons.mpr ⟨h1, List.forall_mem_cons.mpr ⟨h2, List.forall_mem_nil _⟩⟩
theorem small_zero : ∀ b ∈ [(0 : Int)], 0 ≤ b ∧ b < 1000 := by decide
local macro_rules | `(tactic| walk_at "binaryOp Add str str") => `(tactic| (k_here; (with_reducible refine PyProof.Rows.add_str ?h9 ?z9); (case z9 => assumption); intro t' tk'))
local macro_rules | `(tactic| walk_at "subscriptTail") => `(tactic| (k_here; (with_reducible show wpAny _ _ (subscriptTail _ _ (Value.ref _) (Value.str _ _)) _ _ _); (with_reducible rename SpIn _ _ _ _ => hS9); (with_reducible rename isKey _ => hK9); k_dflt (refine' sp_item ?N (SpIn.mono hS9 ?sb) hK9 ?_ ?hs ?hg; (case N => k_asm); (case sb => ktr_unf); (case hs => with_unfolding_all rfl); (case hg => (intro _; with_unfolding_all rfl)); k_whole); intro sl9 ss9 k9 m9 w9))
local macro_rules | `(tactic| walk_at "call ref") => `(tactic| (k_here; (with_reducible show wpAny _ _ (call (Value.ref 310) [Value.str _ _]) _ _ _); k_dflt (refine' words_c ?kK ?kd ?ku ?k1 ?k2 ?k3 ?k4 ?k5 (TextOk.ne ?hX) (TextOk.sz ?hX) ?_; (case hX => assumption); (case kK => first | exact rfl | assumption); (case kd => ((try dsimp only [ktrTop, Around.deeper]); omega)); (case ku => ((try dsimp only [ktrTop, Around.deeper]); omega)); (case k1 => k_asm); (case k2 => k_asm); (case k3 => k_asm); (case k4 => k_asm); (case k5 => k_asm); k_whole); intro D9 us9 n9 own9 h9 tk9 F9 N9 V9 off9; (try k_fold)))
local macro_rules | `(tactic| walk_at "call ref") => `(tactic| (k_here; (with_reducible show wpAny _ _ (call (Value.ref 334) [Value.ref _, Value.ref _, Value.ref _, Value.ref _]) _ _ _); (with_reducible rename TupAll _ _ _ => hV9); (with_reducible rename isKey _ => hK9); k_dflt (refine' right_c ?kK ?kd ?ku ?k1 ?k2 ?k3 ?k4 ?k5 ?m1 (TupAll.mono hV9 ?s1) (fun _ h9 => h9) ?b1 ?b2 ?m2 ?bB ?b3 ?m3 ?bK ?b4 (SpIn.mono ?bS ?s2) ?_; (case kK => first | exact rfl | assumption); (case kd => ((try dsimp only [ktrTop, Around.deeper]); omega)); (case ku => ((try dsimp only [ktrTop, Around.deeper]); omega)); (case k1 => k_asm); (case k2 => k_asm); (case k3 => k_asm); (case k4 => k_asm); (case k5 => k_asm); (case m1 => k_mem); (case m2 => k_mem); (case m3 => k_mem); (case s1 => ktr_unf); (case b1 => (rw [TupAll.len hV9]; exact TextOk.few (by assumption))); (case b2 => exact TextOk.ok (by assumption)); (case bB => exact Bs.cons _ _ Bs.nil); (case b3 => exact small_zero); (case bK => exact Ws.cons _ _ (Ws.cons _ _ Ws.nil)); (case b4 => first | exact two_keys hK9 key_fault | exact two_keys hK9 key_notend); (case bS => assumption); (case s2 => ktr_unf); k_whole); intro h9 tk9 F9 N9; (try k_fold)))
local macro_rules | `(tactic| walk_at "call ref") => `(tactic| (k_here; (with_reducible show wpAny _ _ (call (Value.ref 291) [Value.ref _]) _ _ _); (with_reducible rename IntsAre _ _ => hI9); k_dflt (refine' pen_c ?kK ?kd ?ku ?k1 ?k2 ?k3 ?k4 ?k5 ?l1 hI9 ?l2 ?_; (case l1 => assumption); (case l2 => assumption); (case kK => first | exact rfl | assumption); (case kd => ((try dsimp only [ktrTop, Around.deeper]); omega)); (case ku => ((try dsimp only [ktrTop, Around.deeper]); omega)); (case k1 => k_asm); (case k2 => k_asm); (case k3 => k_asm); (case k4 => k_asm); (case k5 => k_asm); k_whole); intro pl9 cl9 us9 n9 n9' ta9 tb9 cells9 h9 tk9 F9 N9 hI9 hS9 hL9 ne9 off9; (try k_fold)))
theorem draws_first {h₀ h' : Heap} {L tl wl pl cl' kl : Addr} {us kvs : List Value} {n n' nk : Nat} {ta tb : Tok} {bs : List (Addr × Obj)} {k0 k1 k2 k3 k4 k5 k6 k7 k8 k9 k10 k11 k12 : Tok}
    (N : News h₀ L h' ((tl, listOf #[] 0) :: (wl, listOf #[.str (so "ON") k0, .str (so "AT") k1, .str (so "NOT") k2, .str (so "SIZE") k3, .str (so "ERROR") k4, .str (so "OVERFLOW") k5, .str (so "EXCEPTION") k6, .str (so "END") k7, .str (so "INVALID") k8, .str (so "KEY") k9, .str (so "ADD") k10, .str (so "NOT") k11, .str (so "ON") k12] 0) :: (pl, listOf #[.ref cl', .int 0 ta, .int 0 tb] n) :: (cl', listOf us.toArray n') :: (kl, listOf kvs.toArray nk) :: bs))
    (q : @LT.lt Nat _ wl tl ∧ @LT.lt Nat _ pl tl ∧ @LT.lt Nat _ cl' tl ∧ @LT.lt Nat _ kl tl ∧ AllLt tl bs) (r : @LT.lt Nat _ pl wl ∧ @LT.lt Nat _ cl' wl ∧ @LT.lt Nat _ kl wl ∧ AllLt wl bs)
    (ne : @Ne Nat pl cl') (off : ∀ p ∈ (kl, listOf kvs.toArray nk) :: bs, p.1 ≠ pl) :
    ∃ bs2 ws, News h₀ L h' ((pl, penObj cl' 0 ta 0 tb n) :: (tl, listOf #[] 0) :: bs2) ∧ (cl', listOf us.toArray n') ∈ bs2 ∧ (wl, listOf (List.toArray ws) 0) ∈ bs2 ∧ Ws ws menu ∧ (kl, listOf kvs.toArray nk) ∈ bs2 ∧ (∀ p ∈ bs, p ∈ bs2) ∧ (@Ne Nat tl pl) ∧ (∀ p ∈ bs2, p.1 ≠ pl) ∧ (∀ p ∈ bs2, p.1 ≠ tl) := by
  obtain ⟨q1, q2, q3, q4, q5⟩ := q
  obtain ⟨r1, r2, r3, r4⟩ := r
  refine ⟨(wl, listOf #[.str (so "ON") k0, .str (so "AT") k1, .str (so "NOT") k2, .str (so "SIZE") k3, .str (so "ERROR") k4, .str (so "OVERFLOW") k5, .str (so "EXCEPTION") k6, .str (so "END") k7, .str (so "INVALID") k8, .str (so "KEY") k9, .str (so "ADD") k10, .str (so "NOT") k11, .str (so "ON") k12] 0) :: (cl', listOf us.toArray n') :: (kl, listOf kvs.toArray nk) :: bs, [.str (so "ON") k0, .str (so "AT") k1, .str (so "NOT") k2, .str (so "SIZE") k3, .str (so "ERROR") k4, .str (so "OVERFLOW") k5, .str (so "EXCEPTION") k6, .str (so "END") k7, .str (so "INVALID") k8, .str (so "KEY") k9, .str (so "ADD") k10, .str (so "NOT") k11, .str (so "ON") k12], fun p hp => N p ?_, .tail _ (.head _), .head _, ?_, .tail _ (.tail _ (.head _)), fun p hp => .tail _ (.tail _ (.tail _ hp)), Nat.ne_of_gt q2, ?_, ?_⟩
  · rcases List.mem_cons.mp hp with rfl | hp
    · exact .tail _ (.tail _ (.head _))
    rcases List.mem_cons.mp hp with rfl | hp
    · exact .head _
    rcases List.mem_cons.mp hp with rfl | hp
    · exact .tail _ (.head _)
    · exact .tail _ (.tail _ (.tail _ hp))
  · exact .cons _ _ (.cons _ _ (.cons _ _ (.cons _ _ (.cons _ _ (.cons _ _ (.cons _ _ (.cons _ _ (.cons _ _ (.cons _ _ (.cons _ _ (.cons _ _ (.cons _ _ .nil))))))))))))
  · exact List.forall_mem_cons.mpr ⟨Nat.ne_of_gt r1, List.forall_mem_cons.mpr ⟨Ne.symm ne, off⟩⟩
  · exact List.forall_mem_cons.mpr ⟨Nat.ne_of_lt q1, List.forall_mem_cons.mpr ⟨Nat.ne_of_lt q3, List.forall_mem_cons.mpr ⟨Nat.ne_of_lt q4, tbn_neAll q5⟩⟩⟩
abbrev lwIn (sp kl l : Addr) (m : Str → Option Value) : Str → Option Value := fun z => if z = Str.ofString "spellings" then some (.ref sp) else if z = Str.ofString "keys" then some (.ref kl) else if z = Str.ofString "script" then some (.ref l) else m z
set_option maxHeartbeats 4000000 in
theorem law_loop {w : World} {p : Program} {loose : List Str} {mean : ExcName → Option Value} {mg mb : Str → Option Value} {prog : Program}
    {dp un : Nat} {gd : Option (List Code)} {a : Addr} {ccd : Value} {outer : List Env} {A₀ : Around} {base h₀ : Heap} {L : Addr} {m : Str → Option Value} {s : Shared} {Q : Flow → Shared → Prop} {E : Value → Shared → Prop}
    {bs : List (Addr × Obj)} {sp kl l : Addr} {vs kvs : List Value} {nk : Nat} {ns : List Int} {ks : List Str}
    (hE : PassesOwn (model prog w) (ktrTop dp un gd (Str.ofString "law") (fnScope (stm 21)) L a ccd [] outer) (envX (Str.ofString "law") (fnScope (stm 21)) L a ccd []) E) (hd : dp ≤ 450) (hu : un ≤ 100)
    (B : Below A₀ base outer h₀) (F : Fr h₀ L s.heap m) (X : (KF w.params).In h₀) (N : News h₀ L s.heap ((kl, listOf kvs.toArray nk) :: bs)) (T : Top p loose mean mg mb h₀)
    (hK : Ws kvs ks) (hks : ∀ k ∈ ks, isKey k) (S : SpIn prog w bs sp) (hl : h₀.IsList l vs.toArray) (hi : IntsAre vs ns) (h5 : ns.length < 1000)
    (g1 : m (Str.ofString "spellings") = some (.ref sp)) (g2 : m (Str.ofString "keys") = some (.ref kl)) (g3 : m (Str.ofString "script") = some (.ref l))
    (ret : ∀ h' tk' m', Fr h₀ L h' m' → Q (.ret (.bool true)) { s with heap := h', toks := tk' }) :
    wpAny (model prog w) (ktrTop dp un gd (Str.ofString "law") (fnScope (stm 21)) L a ccd [] outer) (execs ((fnBody (stm 21)).drop 2) (envX (Str.ofString "law") (fnScope (stm 21)) L a ccd [])) Q E s := by
  have e : m = lwIn sp kl l m := by
    funext z
    unfold lwIn
    repeat' (first | rfl | (split; (rename_i h; rw [h]; assumption)))
  rw [e] at F
  clear g1 g2 g3 e
  show wpAny _ (ktrTop dp un gd (Str.ofString "law") ⟨_, _, _, _, _⟩ L a ccd [] outer) (execs (_ :: _) (envX _ _ L _ _ _)) Q E s
  repeat ((fail_if_success (with_reducible show wpAny _ _ (exec (Stmt.For _ _ _ _ _) _) _ _ _)); first | (k_unfold; (try dsimp only)) | walk1 | (dsimp only; walk1))
  (rename Fr _ _ _ _ => F1)
  refine' For_invVF F1 rfl rfl ?_ (hE := hE)
  refine ld F1 (by rfl) ?_
  refine iter_one (Str.ofString "spellings") [Str.ofString "text"] (fun i v => v = .ref sp) rfl (.head _) (.inl rfl) rfl F1 N rfl rfl ?_ ?_
  · rintro i v a u h tk I oI hv rfl hoff F2 N2
    obtain ⟨key, tky, rfl, hw⟩ := hK.at _ _ hv
    have hkey : isKey key := hks key (List.mem_of_getElem? hw)
    clear F1 N
    with_reducible show wpAny _ _ _ _ _ _
    k_fold
    repeat ((fail_if_success (with_reducible show wpAny _ _ (exec (Stmt.For _ _ _ _ _) _) _ _ _)); first | (k_unfold; (try dsimp only)) | walk1 | (dsimp only; walk1))
    (rename Fr _ _ _ _ => F1); (rename News _ _ _ _ => N1)
    refine' For_invVF F1 rfl rfl ?_ (hE := hE)
    repeat ((fail_if_success (with_reducible show wpAny _ _ (pyIter (Value.ref _)) _ _ _)); first | (k_unfold; (try dsimp only)) | walk1 | (dsimp only; walk1))
    (rename isKey key => hkey); (rename Ws _ (spellOf key) => wss); (rename (_, W.listOf _ _) ∈ (I, oI) :: _ => msl)
    refine iter_one (Str.ofString "key") [] (fun i v => v = .str key tky) rfl msl (.inl rfl) rfl F1 N1 rfl rfl ?_ ?_
    · rintro i2 v2 a2 u2 h2 tk2 I2 oI2 hv2 rfl hoff2 F2 N2
      obtain ⟨x, tx, rfl, hx⟩ := wss.at _ _ hv2
      have hx1 := List.mem_of_getElem? hx
      have hX := textOk_spell hkey hx1
      obtain ⟨hX2, hz2⟩ := textOk_more hkey hx1
      clear F1 N1
      with_reducible show wpAny _ _ _ _ _ _
      k_fold
      k_steps
      (rename Fr _ _ _ _ => F3); (rename News _ _ _ _ => N3)
      exact gp_one F3 N3 (by ktr_unf) hoff2 msl (by rfl) rfl (by intro z z1 z2 z3; simp only [if_neg z1, if_neg z2, z3, Bool.false_eq_true, if_false])
    · rintro u2 a2 h2 tk2 rfl F2 N2
      clear F1 N1
      k_steps
      (rename Fr _ _ _ _ => F3); (rename News _ _ _ _ => N3)
      exact gp_one F3 N3 (by ktr_unf) hoff (.head _) (by rfl) rfl (by intro z z1 z2 z3; have z4 : z ≠ Str.ofString "text" := (by intro h; subst h; exact absurd z3 (by decide)); simp only [if_neg z1, if_neg z2, if_neg z4, z3, List.contains_nil, Bool.false_eq_true, if_false])
  · rintro u a2 h tk rfl F2 N2
    clear F1 N
    with_reducible show wpAny _ _ _ _ _ _
    repeat ((fail_if_success (with_reducible show wpAny _ _ (execs (Stmt.For _ _ _ _ _ :: _) _) _ _ _)); first | (k_unfold; (try dsimp only)) | walk1 | (dsimp only; walk1))
    (rename Fr _ _ _ _ => F9); (rename News _ _ _ (_ :: _) => N9); (rename IntsAre _ _ => hI); (rename ∀ c ∈ _, Small c => hS9); (rename List.length _ < 1000 => hL9); (rename @Ne Nat _ _ => ne9); (rename ∀ p : Addr × Obj, p ∈ _ → p.1 ≠ _ => off9)
    (rename (_ < _ ∧ _ < _ ∧ _ < _ ∧ _ < _ ∧ AllLt _ _) => q); (rename (_ < _ ∧ _ < _ ∧ _ < _ ∧ AllLt _ _) => r)
    obtain ⟨bs2, ws, N8, m1, m2, m3, m4, sub, n1, n2, n3⟩ := draws_first N9 q r ne9 off9
    k_dflt (refine' law_draws ?kE ?kd ?ku ?k1 F9 ?k3 N8 ?k5 m1 hI hS9 hL9 m2 m3 m4 hK hks (S.mono sub) n1 n2 n3 rfl rfl ?g1 ?g2 ?g3 ?g4 ?g5 ?_; (case kE => passes_own); (case kd => ((try dsimp only [ktrTop, Around.deeper]); omega)); (case ku => ((try dsimp only [ktrTop, Around.deeper]); omega)); (case k1 => k_asm); (case k3 => k_asm); (case k5 => k_asm); (case g1 => exact rfl); (case g2 => exact rfl); (case g3 => exact rfl); (case g4 => exact rfl); (case g5 => exact rfl))
    intro h9 tk9 m9 FF
    exact ret _ _ _ FF
end
section
local macro_rules | `(tactic| walk_at "call ref") => `(tactic| (k_here; (with_reducible show wpAny _ _ (call (Value.ref 320) _) _ _ _); k_dflt ((show wpAny _ _ (call (Value.ref 320) []) _ _ _); refine' spellings_c ?kK ?kd ?ku ?k1 ?k2 ?k3 ?k4 ?k5 ?_; (case kK => first | exact rfl | assumption); (case kd => ((try dsimp only [ktrTop, Around.deeper]); omega)); (case ku => ((try dsimp only [ktrTop, Around.deeper]); omega)); (case k1 => k_asm); (case k2 => k_asm); (case k3 => k_asm); (case k4 => k_asm); (case k5 => k_asm); k_whole); intro sp9 all9 h9 tk9 F9 N9 sub9 S9; (try k_fold)))
local macro_rules | `(tactic| walk_at "call builtin:sorted") => `(tactic| (k_here; (with_reducible show wpAny _ _ (call (Value.builtin "sorted") [Value.ref _]) _ _ _); k_dflt (refine' sorted_sp ?hh ?k1 ?k2 ?k3 ?_; (case hh => exact rfl); (case k1 => k_asm); (case k2 => k_asm); (case k3 => assumption); k_whole); intro kl9 kvs9 ks9 n9 h9 tk9 F9 N9 W9 K9; (try k_fold)))
local macro_rules | `(tactic| walk_at "execs cons") => `(tactic| (k_here; (with_reducible show wpAny _ _ (execs (Stmt.For _ (Expr.Name (Str.ofString "keys") _) _ _ _ :: _) _) _ _ _); k_dflt (refine' law_loop ?kE ?kd ?ku ?k1 ?k2 ?k3 ?k4 ?k5 ?hK ?hks ?hS ?hl ?hi ?h5 ?g1 ?g2 ?g3 ?_; (case kE => passes_own); (case kd => ((try dsimp only [ktrTop, Around.deeper]); omega)); (case ku => ((try dsimp only [ktrTop, Around.deeper]); omega)); (case k1 => k_asm); (case k2 => k_asm); (case k3 => k_asm); (case k4 => k_asm); (case k5 => k_asm); (case hK => assumption); (case hks => assumption); (case hS => assumption); (case hl => assumption); (case hi => assumption); (case h5 => assumption); (case g1 => exact rfl); (case g2 => exact rfl); (case g3 => exact rfl); k_whole); intro h9 tk9 m9 F9; (try k_fold)))
set_option maxHeartbeats 4000000 in
theorem law_body {w : World} {p : Program} {loose : List Str} {mean : ExcName → Option Value} {mg mb : Str → Option Value} {prog : Program}
    {dp un : Nat} {gd : Option (List Code)} {a : Addr} {ccd : Value} {outer : List Env} {A₀ : Around} {base h₀ : Heap} {L : Addr} {m : Str → Option Value} {s : Shared} {Q : Flow → Shared → Prop} {E : Value → Shared → Prop}
    {news : List (Addr × Obj)} {l : Addr} {vs : List Value} {ns : List Int}
    (hE : PassesOwn (model prog w) (ktrTop dp un gd (Str.ofString "law") (fnScope (stm 21)) L a ccd [] outer) (envX (Str.ofString "law") (fnScope (stm 21)) L a ccd []) E) (hd : dp ≤ 450) (hu : un ≤ 100)
    (B : Below A₀ base outer h₀) (F : Fr h₀ L s.heap m) (X : (KF w.params).In h₀) (N : News h₀ L s.heap news) (T : Top p loose mean mg mb h₀)
    (hl : h₀.IsList l vs.toArray) (hi : IntsAre vs ns) (h5 : ns.length < 1000) (g3 : m (Str.ofString "script") = some (.ref l))
    (ret : ∀ h' tk' m', Fr h₀ L h' m' → Q (.ret (.bool true)) { s with heap := h', toks := tk' }) :
    wpAny (model prog w) (ktrTop dp un gd (Str.ofString "law") (fnScope (stm 21)) L a ccd [] outer) (execs (fnBody (stm 21)) (envX (Str.ofString "law") (fnScope (stm 21)) L a ccd [])) Q E s := by
  have e : m = fun z => if z = Str.ofString "script" then some (.ref l) else m z := by
    funext z
    repeat' (first | rfl | (split; (rename_i h; rw [h]; assumption)))
  rw [e] at F
  clear g3 e
  show wpAny _ (ktrTop dp un gd (Str.ofString "law") ⟨_, _, _, _, _⟩ L a ccd [] outer) (execs (_ :: _) (envX _ _ L _ _ _)) Q E s
  k_steps
  (rename Fr _ _ _ _ => F9)
  exact ret _ _ _ F9
end
end Mine
set_option maxHeartbeats 8000000 in
theorem PySem.Challenge.cw_pb0254_01_holds : PySem.Challenge.rw_pb0254_01.Holds := by
  w_on
  o_law
  refine holds_open (q := Mine.vw) (loose := [Str.ofString "LedgerError", Str.ofString "Token"]) (Xt := fun s => xlAt Mine.vw [] s && recOk (RowW.records PySem.Challenge.rw_pb0254_01.row.toRowW) s) (XP := XL Mine.vw []) (Yf := Hook.obs (kHook Mine.KF Mine.KA Mine.KA_eq)) (Ya := Hook.val (kHook Mine.KF Mine.KA Mine.KA_eq)) (YP := Hook.says (kHook Mine.KF Mine.KA Mine.KA_eq)) (N := 4304) ?hl (Hook.of (kHook Mine.KF Mine.KA Mine.KA_eq)) (Hook.keeps (kHook Mine.KF Mine.KA Mine.KA_eq)) (fun s e => xl_of s (Bool.and_eq_true_iff.mp e).1) XL.keeps (by rfl) (by rfl) (by rfl) (fun s e => recFacts_of (Bool.and_eq_true_iff.mp e).2) (by rfl) (by first | assumption | decide +kernel) (by decide +kernel) ⟨rfl, rfl, rfl, rfl, rfl, by decide +kernel⟩ ?hw ?hc
  case hl => exact Mine.left
  case hw => w_witness2
  k_go0
  k_dflt (refine' Mine.law_body ?uE ?ud ?uu ?u1 ?u2 ?u3 ?u4 ?u5 ?ul ?ui ?u6 ?ug ?_; (case u1 => k_asm); (case u2 => k_asm); (case u3 => k_asm); (case u4 => k_asm); (case u5 => k_asm); (case ul => assumption); (case ui => assumption); (case ug => exact rfl); (case uE => passes_own); (case ud => decide); (case uu => decide); (case u6 => omega))
  intro h9 tk9 m9 F9
  k_steps
