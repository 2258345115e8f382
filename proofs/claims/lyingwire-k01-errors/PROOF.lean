import PyProof.Rows.All
import Wide.All
import OpenK.AllK
import Wide.FinOn
import KE.OsRunLaw
import HandS.Words
import HandS.ForMost
import HandS.TupAny
import KE.GoesEnum
import HandS.TupMul
import HandS.Style
import HandS.Conv
import HandS.Walk
import HandS.Deep
import HandS.SetFor
import HandS.Star
import KE.KStar
import PyProof.ReprLen
import HandS.Lambda
import HandS.Property
import HandS.IsInst
import HandS.OwnEq
import HandS.Dict
import HandS.Defaults
import HandS.Strs
import PyProof.DictUpdate
import KE.KUnpackStar
import HandS.TryOnly
import KE.GoesZip
import KE.GoesEnumKw
import HandS.ClsMeth
import HandS.DictEq
import HandS.Wide
import KE.KRevSl
import HandS.SetKeys
import HandS.More
import HandS.SetBool
import KE.LtData
import PyProof.StrOps2
import HandS.Exc
import HandS.ExcOwn
import HandS.ExcInit
import HandS.ExcField
import KE.KExcIs
import HandS.TryMany
import HandS.ExcIs
import KE.KMethU
import KE.DataMinMax
import KE.SortData
import KE.SortLaws
import HandS.Zip0
import HandS.Zip
import HandS.ListItems
import KE.KDictZip
import KE.KDictItemsList
import PyProof.EqKinds
import PyProof.InstEq
import HandS.Codes
import HandS.TupSets
import KE.KDictPairs
import HandS.TupLe
import HandS.HotCalls
import PySem.Challenge.RW_lyingwire_k01_errors
set_option Elab.async false
set_option maxRecDepth 100000
set_option maxHeartbeats 4000000
namespace K01
open PySem PySem.Spec PyProof.Rows L2
def top (i : Nat) : Stmt := PySem.Challenge.pw_lyingwire_k01_errors.main.body.getD i (.Pass ⟨0, 0, 0, 0⟩)
abbrev st__law_source : Stmt := top 19
abbrev st__law_draw : Stmt := top 20
abbrev st__law_pick : Stmt := top 21
abbrev st__law_thing : Stmt := top 22
abbrev st__law_raise_plain : Stmt := top 23
abbrev st__law_raise : Stmt := top 24
abbrev st__law_raise_named : Stmt := top 25
abbrev st__law_marks : Stmt := top 26
abbrev st__law_wire_fields : Stmt := top 27
abbrev st__law_unknown_fields : Stmt := top 28
abbrev st__law_caught : Stmt := top 29
abbrev st__law_expected : Stmt := top 30
abbrev st_InvalidChange___init__ : Stmt := inClass (top 8) 0
abbrev st_NameTaken___init__ : Stmt := inClass (top 13) 0
abbrev st_NotItsTurn___init__ : Stmt := inClass (top 12) 0
abbrev st_PurseExceeded___init__ : Stmt := inClass (top 9) 0
abbrev st_TooAlike___init__ : Stmt := inClass (top 10) 0
abbrev st_TooManyRounds___init__ : Stmt := inClass (top 11) 0
abbrev st_UnknownName___init__ : Stmt := inClass (top 17) 0
abbrev st_UnknownStation___init__ : Stmt := inClass (top 15) 0
abbrev st_UnknownTalk___init__ : Stmt := inClass (top 16) 0
abbrev st_law : Stmt := top 31
end K01
namespace K01.H
open PySem PySem.W PySem.Calls PyProof.Rows L2 HeadRun
def r (a : Addr) : Value := .ref a
def s (x : String) (t : Nat) : Value := .str (Str.ofString x) t
def e (P : Params) (x : String) (t : Nat) (v : Value) : DictEntry := ⟨PyData.keyHash P (Str.ofString x), .str (Str.ofString x) t, v⟩
def g (P : Params) (x : String) (t a : Nat) : DictEntry := ⟨PyData.keyHash P (Str.ofString x), .str (Str.ofString x) t, .ref a⟩
def fo (z : Stmt) (n q : String) (dV kV : Value) (m : String) (t c : Nat) : Obj := ⟨.type "function", none, .func (fnOf (Str.ofString n) (Str.ofString q) (defArgs z) (defBody z) (defScope z) dV kV .none (.str (Str.ofString m) t) none (.ref c) .none), #[]⟩
def co (n q : String) (t l i j k f v : Nat) (b : Bool) (x : Nat) (y : Value) (c d h m u : Nat) : Obj := ⟨.type "code", none, .fields #[s n t, s q (t + 1), s "/claim/cut.py" (t + 2), .int l 0, .int i 0, .int j 0, .int k 0, .int f 0, .ref v, .bool b, .int 181 0, .ref x, y, .ref c, .ref d, .ref h, .int m 0, .int l 0, s "/claim/cut.py" u], #[]⟩
def K (P : Params) : Frag :=
(nat_lit 3, ⟨.type "dict", none, .dict #[e P "__name__" 165 (s "law_lyingwire_k01_errors" 550), e P "__doc__" 166 .none, e P "__package__" 167 .none, e P "__loader__" 168 (.builtin "__main__.__loader__#opaque"), e P "__spec__" 169 .none, g P "__annotations__" 170 6, g P "__builtins__" 171 4, e P "__file__" 173 (s "/claim/cut.py" 172), e P "__cached__" 174 .none, g P "WireError" 206 24, g P "InvalidText" 222 37, g P "InvalidCommand" 238 49, g P "InvalidTable" 254 61, g P "InvalidLink" 270 73, g P "Impossible" 286 85, g P "Finished" 302 97, g P "InvalidChange" 327 116, g P "PurseExceeded" 352 135, g P "TooAlike" 379 154, g P "TooManyRounds" 404 173, g P "NotItsTurn" 429 192, g P "NameTaken" 454 211, g P "Unknown" 474 223, g P "UnknownStation" 499 243, g P "UnknownTalk" 524 262, g P "UnknownName" 549 281, g P "_law_source" 561 290, g P "_law_draw" 572 297, g P "_law_pick" 580 304, g P "_law_thing" 586 309, g P "_law_raise_plain" 593 316, g P "_law_raise" 602 323, g P "_law_raise_named" 611 330, g P "_law_marks" 619 337, g P "_law_wire_fields" 627 344, g P "_law_unknown_fields" 635 351, g P "_law_caught" 647 358, g P "_law_expected" 653 363, g P "law" 666 370] 39, #[]⟩)::
(nat_lit 2, ⟨.none, none, .dict #[e P "type.__subclasses__.KeyError.0" 471 (.int 223 0), e P "type.__subclasses__.KeyError.n" 472 (.int 1 0)] 2, #[]⟩)::
(nat_lit 24, ⟨.type "type", none, .cls (.mk "WireError" [.type "ValueError"] [r 24, .type "ValueError", .type "Exception", .type "BaseException", .type "object"] 23 "WireError" true [] [r 37, r 49, r 61, r 73, r 85, r 97, r 116, r 135, r 154, r 173, r 192, r 211] false none false), #[some (r 15), none, some (s "WireError" 189), some (s "WireError" 197), some (.builtin "ValueError.__new__"), some (.bool true)]⟩)::
(nat_lit 37, ⟨.type "type", none, .cls (.mk "InvalidText" [r 24] [r 37, r 24, .type "ValueError", .type "Exception", .type "BaseException", .type "object"] 36 "InvalidText" true [] [] false none false), #[some (r 28), none, some (s "InvalidText" 207), some (s "InvalidText" 215), some (.builtin "ValueError.__new__"), some (.bool true)]⟩)::
(nat_lit 49, ⟨.type "type", none, .cls (.mk "InvalidCommand" [r 24] [r 49, r 24, .type "ValueError", .type "Exception", .type "BaseException", .type "object"] 48 "InvalidCommand" true [] [] false none false), #[some (r 40), none, some (s "InvalidCommand" 223), some (s "InvalidCommand" 231), some (.builtin "ValueError.__new__"), some (.bool true)]⟩)::
(nat_lit 61, ⟨.type "type", none, .cls (.mk "InvalidTable" [r 24] [r 61, r 24, .type "ValueError", .type "Exception", .type "BaseException", .type "object"] 60 "InvalidTable" true [] [] false none false), #[some (r 52), none, some (s "InvalidTable" 239), some (s "InvalidTable" 247), some (.builtin "ValueError.__new__"), some (.bool true)]⟩)::
(nat_lit 73, ⟨.type "type", none, .cls (.mk "InvalidLink" [r 24] [r 73, r 24, .type "ValueError", .type "Exception", .type "BaseException", .type "object"] 72 "InvalidLink" true [] [] false none false), #[some (r 64), none, some (s "InvalidLink" 255), some (s "InvalidLink" 263), some (.builtin "ValueError.__new__"), some (.bool true)]⟩)::
(nat_lit 85, ⟨.type "type", none, .cls (.mk "Impossible" [r 24] [r 85, r 24, .type "ValueError", .type "Exception", .type "BaseException", .type "object"] 84 "Impossible" true [] [] false none false), #[some (r 76), none, some (s "Impossible" 271), some (s "Impossible" 279), some (.builtin "ValueError.__new__"), some (.bool true)]⟩)::
(nat_lit 97, ⟨.type "type", none, .cls (.mk "Finished" [r 24] [r 97, r 24, .type "ValueError", .type "Exception", .type "BaseException", .type "object"] 96 "Finished" true [] [] false none false), #[some (r 88), none, some (s "Finished" 287), some (s "Finished" 295), some (.builtin "ValueError.__new__"), some (.bool true)]⟩)::
(nat_lit 116, ⟨.type "type", none, .cls (.mk "InvalidChange" [r 24] [r 116, r 24, .type "ValueError", .type "Exception", .type "BaseException", .type "object"] 115 "InvalidChange" true [] [] false none false), #[some (r 100), none, some (s "InvalidChange" 303), some (s "InvalidChange" 311), some (.builtin "ValueError.__new__"), some (.bool true)]⟩)::
(nat_lit 135, ⟨.type "type", none, .cls (.mk "PurseExceeded" [r 24] [r 135, r 24, .type "ValueError", .type "Exception", .type "BaseException", .type "object"] 134 "PurseExceeded" true [] [] false none false), #[some (r 119), none, some (s "PurseExceeded" 328), some (s "PurseExceeded" 336), some (.builtin "ValueError.__new__"), some (.bool true)]⟩)::
(nat_lit 154, ⟨.type "type", none, .cls (.mk "TooAlike" [r 24] [r 154, r 24, .type "ValueError", .type "Exception", .type "BaseException", .type "object"] 153 "TooAlike" true [] [] false none false), #[some (r 138), none, some (s "TooAlike" 353), some (s "TooAlike" 361), some (.builtin "ValueError.__new__"), some (.bool true)]⟩)::
(nat_lit 173, ⟨.type "type", none, .cls (.mk "TooManyRounds" [r 24] [r 173, r 24, .type "ValueError", .type "Exception", .type "BaseException", .type "object"] 172 "TooManyRounds" true [] [] false none false), #[some (r 157), none, some (s "TooManyRounds" 380), some (s "TooManyRounds" 388), some (.builtin "ValueError.__new__"), some (.bool true)]⟩)::
(nat_lit 192, ⟨.type "type", none, .cls (.mk "NotItsTurn" [r 24] [r 192, r 24, .type "ValueError", .type "Exception", .type "BaseException", .type "object"] 191 "NotItsTurn" true [] [] false none false), #[some (r 176), none, some (s "NotItsTurn" 405), some (s "NotItsTurn" 413), some (.builtin "ValueError.__new__"), some (.bool true)]⟩)::
(nat_lit 211, ⟨.type "type", none, .cls (.mk "NameTaken" [r 24] [r 211, r 24, .type "ValueError", .type "Exception", .type "BaseException", .type "object"] 210 "NameTaken" true [] [] false none false), #[some (r 195), none, some (s "NameTaken" 430), some (s "NameTaken" 438), some (.builtin "ValueError.__new__"), some (.bool true)]⟩)::
(nat_lit 223, ⟨.type "type", none, .cls (.mk "Unknown" [.type "KeyError"] [r 223, .type "KeyError", .type "LookupError", .type "Exception", .type "BaseException", .type "object"] 222 "Unknown" true [] [r 243, r 262, r 281] false none false), #[some (r 214), none, some (s "Unknown" 455), some (s "Unknown" 463), some (.builtin "LookupError.__new__"), some (.bool true)]⟩)::
(nat_lit 243, ⟨.type "type", none, .cls (.mk "UnknownStation" [r 223] [r 243, r 223, .type "KeyError", .type "LookupError", .type "Exception", .type "BaseException", .type "object"] 242 "UnknownStation" true [] [] false none false), #[some (r 227), none, some (s "UnknownStation" 475), some (s "UnknownStation" 483), some (.builtin "LookupError.__new__"), some (.bool true)]⟩)::
(nat_lit 262, ⟨.type "type", none, .cls (.mk "UnknownTalk" [r 223] [r 262, r 223, .type "KeyError", .type "LookupError", .type "Exception", .type "BaseException", .type "object"] 261 "UnknownTalk" true [] [] false none false), #[some (r 246), none, some (s "UnknownTalk" 500), some (s "UnknownTalk" 508), some (.builtin "LookupError.__new__"), some (.bool true)]⟩)::
(nat_lit 281, ⟨.type "type", none, .cls (.mk "UnknownName" [r 223] [r 281, r 223, .type "KeyError", .type "LookupError", .type "Exception", .type "BaseException", .type "object"] 280 "UnknownName" true [] [] false none false), #[some (r 265), none, some (s "UnknownName" 525), some (s "UnknownName" 533), some (.builtin "LookupError.__new__"), some (.bool true)]⟩)::
(nat_lit 23, ⟨.type "dict", none, .dict #[e P "__module__" 196 (s "lyingwire.errors" 187), e P "__firstlineno__" 200 (.int 2 199), g P "__static_attributes__" 201 22, g P "__weakref__" 203 25, e P "__doc__" 204 .none] 3, #[]⟩)::
(nat_lit 36, ⟨.type "dict", none, .dict #[e P "__module__" 214 (s "lyingwire.errors" 187), e P "__firstlineno__" 218 (.int 4 217), g P "__static_attributes__" 219 35, e P "__doc__" 220 .none] 2, #[]⟩)::
(nat_lit 48, ⟨.type "dict", none, .dict #[e P "__module__" 230 (s "lyingwire.errors" 187), e P "__firstlineno__" 234 (.int 6 233), g P "__static_attributes__" 235 47, e P "__doc__" 236 .none] 2, #[]⟩)::
(nat_lit 60, ⟨.type "dict", none, .dict #[e P "__module__" 246 (s "lyingwire.errors" 187), e P "__firstlineno__" 250 (.int 8 249), g P "__static_attributes__" 251 59, e P "__doc__" 252 .none] 2, #[]⟩)::
(nat_lit 72, ⟨.type "dict", none, .dict #[e P "__module__" 262 (s "lyingwire.errors" 187), e P "__firstlineno__" 266 (.int 10 265), g P "__static_attributes__" 267 71, e P "__doc__" 268 .none] 2, #[]⟩)::
(nat_lit 84, ⟨.type "dict", none, .dict #[e P "__module__" 278 (s "lyingwire.errors" 187), e P "__firstlineno__" 282 (.int 12 281), g P "__static_attributes__" 283 83, e P "__doc__" 284 .none] 2, #[]⟩)::
(nat_lit 96, ⟨.type "dict", none, .dict #[e P "__module__" 294 (s "lyingwire.errors" 187), e P "__firstlineno__" 298 (.int 14 297), g P "__static_attributes__" 299 95, e P "__doc__" 300 .none] 2, #[]⟩)::
(nat_lit 115, ⟨.type "dict", none, .dict #[e P "__module__" 310 (s "lyingwire.errors" 187), e P "__firstlineno__" 314 (.int 16 313), g P "__init__" 322 113, g P "__static_attributes__" 324 114, e P "__doc__" 325 .none] 2, #[]⟩)::
(nat_lit 134, ⟨.type "dict", none, .dict #[e P "__module__" 335 (s "lyingwire.errors" 187), e P "__firstlineno__" 339 (.int 21 338), g P "__init__" 347 132, g P "__static_attributes__" 349 133, e P "__doc__" 350 .none] 2, #[]⟩)::
(nat_lit 153, ⟨.type "dict", none, .dict #[e P "__module__" 360 (s "lyingwire.errors" 187), e P "__firstlineno__" 364 (.int 26 363), g P "__init__" 373 151, g P "__static_attributes__" 376 152, e P "__doc__" 377 .none] 2, #[]⟩)::
(nat_lit 172, ⟨.type "dict", none, .dict #[e P "__module__" 387 (s "lyingwire.errors" 187), e P "__firstlineno__" 391 (.int 32 390), g P "__init__" 399 170, g P "__static_attributes__" 401 171, e P "__doc__" 402 .none] 2, #[]⟩)::
(nat_lit 191, ⟨.type "dict", none, .dict #[e P "__module__" 412 (s "lyingwire.errors" 187), e P "__firstlineno__" 416 (.int 37 415), g P "__init__" 424 189, g P "__static_attributes__" 426 190, e P "__doc__" 427 .none] 2, #[]⟩)::
(nat_lit 210, ⟨.type "dict", none, .dict #[e P "__module__" 437 (s "lyingwire.errors" 187), e P "__firstlineno__" 441 (.int 42 440), g P "__init__" 449 208, g P "__static_attributes__" 451 209, e P "__doc__" 452 .none] 2, #[]⟩)::
(nat_lit 222, ⟨.type "dict", none, .dict #[e P "__module__" 462 (s "lyingwire.errors" 187), e P "__firstlineno__" 466 (.int 47 465), g P "__static_attributes__" 467 221, g P "__weakref__" 469 224, e P "__doc__" 470 .none] 3, #[]⟩)::
(nat_lit 242, ⟨.type "dict", none, .dict #[e P "__module__" 482 (s "lyingwire.errors" 187), e P "__firstlineno__" 486 (.int 49 485), g P "__init__" 494 240, g P "__static_attributes__" 496 241, e P "__doc__" 497 .none] 2, #[]⟩)::
(nat_lit 261, ⟨.type "dict", none, .dict #[e P "__module__" 507 (s "lyingwire.errors" 187), e P "__firstlineno__" 511 (.int 54 510), g P "__init__" 519 259, g P "__static_attributes__" 521 260, e P "__doc__" 522 .none] 2, #[]⟩)::
(nat_lit 280, ⟨.type "dict", none, .dict #[e P "__module__" 532 (s "lyingwire.errors" 187), e P "__firstlineno__" 536 (.int 59 535), g P "__init__" 544 278, g P "__static_attributes__" 546 279, e P "__doc__" 547 .none] 2, #[]⟩)::
(nat_lit 113, fo st_InvalidChange___init__ "__init__" "InvalidChange.__init__" .none .none "lyingwire.errors" 187 112)::
(nat_lit 132, fo st_PurseExceeded___init__ "__init__" "PurseExceeded.__init__" .none .none "lyingwire.errors" 187 131)::
(nat_lit 151, fo st_TooAlike___init__ "__init__" "TooAlike.__init__" .none .none "lyingwire.errors" 187 150)::
(nat_lit 170, fo st_TooManyRounds___init__ "__init__" "TooManyRounds.__init__" .none .none "lyingwire.errors" 187 169)::
(nat_lit 189, fo st_NotItsTurn___init__ "__init__" "NotItsTurn.__init__" .none .none "lyingwire.errors" 187 188)::
(nat_lit 208, fo st_NameTaken___init__ "__init__" "NameTaken.__init__" .none .none "lyingwire.errors" 187 207)::
(nat_lit 240, fo st_UnknownStation___init__ "__init__" "UnknownStation.__init__" .none .none "lyingwire.errors" 187 239)::
(nat_lit 259, fo st_UnknownTalk___init__ "__init__" "UnknownTalk.__init__" .none .none "lyingwire.errors" 187 258)::
(nat_lit 278, fo st_UnknownName___init__ "__init__" "UnknownName.__init__" .none .none "lyingwire.errors" 187 277)::
(nat_lit 290, fo st__law_source "_law_source" "_law_source" .none .none "law_lyingwire_k01_errors" 550 289)::
(nat_lit 297, fo st__law_draw "_law_draw" "_law_draw" .none .none "law_lyingwire_k01_errors" 550 296)::
(nat_lit 304, fo st__law_pick "_law_pick" "_law_pick" .none .none "law_lyingwire_k01_errors" 550 303)::
(nat_lit 309, fo st__law_thing "_law_thing" "_law_thing" .none .none "law_lyingwire_k01_errors" 550 308)::
(nat_lit 316, fo st__law_raise_plain "_law_raise_plain" "_law_raise_plain" .none .none "law_lyingwire_k01_errors" 550 315)::
(nat_lit 323, fo st__law_raise "_law_raise" "_law_raise" .none .none "law_lyingwire_k01_errors" 550 322)::
(nat_lit 330, fo st__law_raise_named "_law_raise_named" "_law_raise_named" .none .none "law_lyingwire_k01_errors" 550 329)::
(nat_lit 337, fo st__law_marks "_law_marks" "_law_marks" .none .none "law_lyingwire_k01_errors" 550 336)::
(nat_lit 344, fo st__law_wire_fields "_law_wire_fields" "_law_wire_fields" .none .none "law_lyingwire_k01_errors" 550 343)::
(nat_lit 351, fo st__law_unknown_fields "_law_unknown_fields" "_law_unknown_fields" .none .none "law_lyingwire_k01_errors" 550 350)::
(nat_lit 358, fo st__law_caught "_law_caught" "_law_caught" .none .none "law_lyingwire_k01_errors" 550 357)::
(nat_lit 363, fo st__law_expected "_law_expected" "_law_expected" .none .none "law_lyingwire_k01_errors" 550 362)::
(nat_lit 370, fo st_law "law" "law" .none .none "law_lyingwire_k01_errors" 550 369)::
(nat_lit 112, co "__init__" "InvalidChange.__init__" 315 18 2 0 0 3 107 true 108 .none 109 110 111 320 321)::
(nat_lit 131, co "__init__" "PurseExceeded.__init__" 340 23 2 0 0 3 126 true 127 .none 128 129 130 345 346)::
(nat_lit 150, co "__init__" "TooAlike.__init__" 365 28 3 0 0 3 145 true 146 .none 147 148 149 371 372)::
(nat_lit 169, co "__init__" "TooManyRounds.__init__" 392 34 2 0 0 3 164 true 165 .none 166 167 168 397 398)::
(nat_lit 188, co "__init__" "NotItsTurn.__init__" 417 39 2 0 0 3 183 true 184 .none 185 186 187 422 423)::
(nat_lit 207, co "__init__" "NameTaken.__init__" 442 44 2 0 0 3 202 true 203 .none 204 205 206 447 448)::
(nat_lit 239, co "__init__" "UnknownStation.__init__" 487 51 2 0 0 3 234 true 235 .none 236 237 238 492 493)::
(nat_lit 258, co "__init__" "UnknownTalk.__init__" 512 56 2 0 0 3 253 true 254 .none 255 256 257 517 518)::
(nat_lit 277, co "__init__" "UnknownName.__init__" 537 61 2 0 0 3 272 true 273 .none 274 275 276 542 543)::
(nat_lit 289, co "_law_source" "_law_source" 552 65 1 0 0 3 284 true 285 .none 286 287 288 559 560)::
(nat_lit 296, co "_law_draw" "_law_draw" 562 70 2 0 0 3 291 true 292 .none 293 294 295 570 571)::
(nat_lit 303, co "_law_pick" "_law_pick" 573 82 2 0 0 3 298 true 299 .none 300 301 302 578 579)::
(nat_lit 308, ⟨.type "code", none, .fields #[(s "_law_thing" 581), (s "_law_thing" 582), (s "/claim/cut.py" 583), (.int 84 0), (.int 2 0), (.int 0 0), (.int 0 0), (.int 3 0), (r 305), (.bool true), (.int 181 0), (r 306), .none, .none, .none, (r 307), (.int 584 0), (.int 84 0), (s "/claim/cut.py" 585)], #[]⟩)::
(nat_lit 315, co "_law_raise_plain" "_law_raise_plain" 587 91 1 0 0 3 310 true 311 .none 312 313 314 591 592)::
(nat_lit 322, co "_law_raise" "_law_raise" 594 103 3 0 0 3 317 true 318 .none 319 320 321 600 601)::
(nat_lit 329, co "_law_raise_named" "_law_raise_named" 603 123 3 0 0 3 324 true 325 .none 326 327 328 609 610)::
(nat_lit 336, co "_law_marks" "_law_marks" 612 143 1 0 0 3 331 true 332 .none 333 334 335 617 618)::
(nat_lit 343, co "_law_wire_fields" "_law_wire_fields" 620 151 2 0 0 3 338 true 339 .none 340 341 342 625 626)::
(nat_lit 350, co "_law_unknown_fields" "_law_unknown_fields" 628 163 2 0 0 3 345 true 346 .none 347 348 349 633 634)::
(nat_lit 357, co "_law_caught" "_law_caught" 636 167 4 0 0 3 352 true 353 .none 354 355 356 645 646)::
(nat_lit 362, ⟨.type "code", none, .fields #[(s "_law_expected" 648), (s "_law_expected" 649), (s "/claim/cut.py" 650), (.int 179 0), (.int 3 0), (.int 0 0), (.int 0 0), (.int 3 0), (r 359), (.bool true), (.int 181 0), (r 360), .none, .none, .none, (r 361), (.int 651 0), (.int 179 0), (s "/claim/cut.py" 652)], #[]⟩)::
(nat_lit 369, co "law" "law" 654 184 1 0 0 3 364 true 365 .none 366 367 368 664 665)::[]
def a : List Addr := [nat_lit 3, nat_lit 2, nat_lit 24, nat_lit 37, nat_lit 49, nat_lit 61, nat_lit 73, nat_lit 85, nat_lit 97, nat_lit 116, nat_lit 135, nat_lit 154, nat_lit 173, nat_lit 192, nat_lit 211, nat_lit 223, nat_lit 243, nat_lit 262, nat_lit 281, nat_lit 23, nat_lit 36, nat_lit 48, nat_lit 60, nat_lit 72, nat_lit 84, nat_lit 96, nat_lit 115, nat_lit 134, nat_lit 153, nat_lit 172, nat_lit 191, nat_lit 210, nat_lit 222, nat_lit 242, nat_lit 261, nat_lit 280, nat_lit 113, nat_lit 132, nat_lit 151, nat_lit 170, nat_lit 189, nat_lit 208, nat_lit 240, nat_lit 259, nat_lit 278, nat_lit 290, nat_lit 297, nat_lit 304, nat_lit 309, nat_lit 316, nat_lit 323, nat_lit 330, nat_lit 337, nat_lit 344, nat_lit 351, nat_lit 358, nat_lit 363, nat_lit 370, nat_lit 112, nat_lit 131, nat_lit 150, nat_lit 169, nat_lit 188, nat_lit 207, nat_lit 239, nat_lit 258, nat_lit 277, nat_lit 289, nat_lit 296, nat_lit 303, nat_lit 308, nat_lit 315, nat_lit 322, nat_lit 329, nat_lit 336, nat_lit 343, nat_lit 350, nat_lit 357, nat_lit 362, nat_lit 369]
def q : Program := { PySem.Challenge.pw_lyingwire_k01_errors with main := { PySem.Challenge.pw_lyingwire_k01_errors.main with body := [top 31] } }
def l : List Str := [Str.ofString "WireError", Str.ofString "InvalidText", Str.ofString "InvalidCommand", Str.ofString "InvalidTable", Str.ofString "InvalidLink", Str.ofString "Impossible", Str.ofString "Finished", Str.ofString "InvalidChange", Str.ofString "PurseExceeded", Str.ofString "TooAlike", Str.ofString "TooManyRounds", Str.ofString "NotItsTurn", Str.ofString "NameTaken", Str.ofString "Unknown", Str.ofString "UnknownStation", Str.ofString "UnknownTalk", Str.ofString "UnknownName", Str.ofString "_law_source", Str.ofString "_law_draw", Str.ofString "_law_pick", Str.ofString "_law_thing", Str.ofString "_law_raise_plain", Str.ofString "_law_raise", Str.ofString "_law_raise_named", Str.ofString "_law_marks", Str.ofString "_law_wire_fields", Str.ofString "_law_unknown_fields", Str.ofString "_law_caught", Str.ofString "_law_expected"]
def X : Shared → Bool := fun s => xlAt q [] s && recOk (RowW.records (PySem.Challenge.rw_lyingwire_k01_errors.row).toRowW) s
theorem ek : ∀ P, a = (K P).map (·.1) := fun _ => by kernel_rfl

set_option maxHeartbeats 0 in
theorem run : LeftO PySem.Challenge.pw_lyingwire_k01_errors q l X (Hook.obs (kHook K a ek)) (Hook.val (kHook K a ek)) 8790 true :=
  left_oneK (p := PySem.Challenge.pw_lyingwire_k01_errors) (q := q) (loose := l) (Xt := X) (K := K) (as := a) (ek := ek) (M := 8690) (by kernel_rfl) (by rfl) (fun s => by kernel_rfl) (by rfl) (fun w os => by kernel_rfl)
end K01.H

namespace L3
open PySem PySem.Spec PyProof.Rows L2
abbrev St := L2.St
end L3

namespace L3
open PySem PySem.Spec PyProof.Rows L2
end L3
namespace L3
open PySem PySem.Spec PyProof.Rows L2
structure FnG (P : Program) (w : World) (K : PySem.W.Frag) (mg : Str → Option Value) (base : Heap) (CX : CXT) (k : Nat) (f : Addr) (fd : FuncData) (ps : List Str) (sp : Sp) : Prop where
  len : ∀ vs H Q E, sp vs H Q E → vs.length = ps.length
  run : ∀ (A : Around) (outer : List Env) (s : Shared) (H : Hp) (args : Args) (us : List Value) (vs : List V) (Q : VK) (E : XK), A.guards = some [] → Room k A → Env0 P w K mg base A outer s H → BindsTo s fd args (ps.zip us) → Vals vs us → sp vs H Q E →
    codeAny (model P w) A (.call (.ref f) args) (CR CX outer P w H s Q E) s
section
variable {P : Program} {w : World} {K : PySem.W.Frag} {mg : Str → Option Value} {base : Heap} {CX : CXT}
theorem FnG.mono {j k : Nat} {f : Addr} {fd : FuncData} {ps : List Str} {sp : Sp} (F : FnG P w K mg base CX j f fd ps sp) (h : j ≤ k) : FnG P w K mg base CX k f fd ps sp :=
  ⟨F.len, fun A outer s H args us vs Q E hg hr e0 hb r q => F.run A outer s H args us vs Q E hg (hr.mono h) e0 hb r q⟩
theorem FnG.imp {k : Nat} {f : Addr} {fd : FuncData} {ps : List Str} {sp sp2 : Sp} (F : FnG P w K mg base CX k f fd ps sp) (h : ∀ vs H Q E, sp2 vs H Q E → sp vs H Q E) : FnG P w K mg base CX k f fd ps sp2 :=
  ⟨fun vs H Q E q => F.len vs H Q E (h _ _ _ _ q), fun A outer s H args us vs Q E hg hr e0 hb r q => F.run A outer s H args us vs Q E hg hr e0 hb r (h _ _ _ _ q)⟩
theorem fnG_of {k : Nat} {f : Addr} {name qual : Str} {params : Arguments} {body : List Stmt} {scope : Scope} {dV kV doc pm cdv ct oc : Value} {an od : Option Addr}
    {osl : Array (Option Value)} {N ps : List Str} {sp : Sp} (look : K.lookup f = some ⟨oc, od, .func (PySem.W.fnOf name qual params body scope dV kV doc pm an cdv ct), osl⟩) (hcode : PySem.W.codeIn K cdv qual = true) (sc : FnScope N ps scope)
    (hlen : ∀ vs H Q E, sp vs H Q E → vs.length = ps.length)
    (hbody : ∀ (A : Around) (outer : List Env) (s : Shared) (H : Hp) (vs : List V) (Q : VK) (E : XK), A.guards = some [] → Room k (A.deeper (envOfC qual scope s.heap.objs.size f cdv)) → sp vs H Q E →
      ∃ t, PSs (cxOf CX P w K mg base N qual scope f cdv A outer s H E) body t ∧ t { nx := fun _ H1 => Q .non H1, rt := Q } (start N vs) H) :
    FnG P w K mg base CX (k + 1) f (PySem.W.fnOf name qual params body scope dV kV doc pm an cdv ct) ps sp := by
  refine ⟨hlen, fun A outer s H args us vs Q E hg hr e0 hb r hsp => ?_⟩
  have inK : K.In s.heap := e0.mod.kin.keeps fun b u q => (e0.bs b u q).1
  have noL : s.heap.NoLimit := e0.mod.nolimit.keeps fun b u q => (e0.bs b u q).1
  have kinds : ∀ y ∈ ps.zip us, scope.names.lookup y.1 = some .local ∨ (scope.names.lookup y.1 = some .cell ∧ ((cellsFrom (s.heap.objs.size + 1) scope.names []).lookup y.1).isSome = true) := by
    rintro ⟨n, v⟩ hy
    cases sc.par n (List.of_mem_zip hy).1 with
    | inl z => exact .inl z
    | inr z => exact .inr ⟨z, PySem.W.cellsFrom_some _ _ _ (.inl z)⟩
  refine codeAny_call_function hr.depth (inK _ _ look) rfl sc.co sc.gen rfl (PySem.W.codeRec_of inK hcode) (hb _ _ _ _ (wpAny_newFunctionEnv_cells sc.kind kinds fun env henv s1 inc => ?_))
  subst henv
  obtain ⟨t, ht, hq⟩ := hbody A outer s H vs Q E hg (hr.deeper _) hsp
  have I := inv_start (CX := CX) (E := E) sc hr.hd e0 (hlen _ _ _ _ hsp) r inc
  have out : ∀ {τ : St} {H1 : Hp} {v : V} {u : Value} {s2 : Shared}, Inv (cxOf CX P w K mg base N qual scope f cdv A outer s H E) [] τ H1 s2 → RelV v u → Q v H1 → CE outer P w H s Q u s2 :=
    fun {τ H1 v u s2} J rv q => ⟨v, H1, J.os, J.bare, J.base, J.hok, rv, q⟩
  refine ⟨noL.keeps inc.toInCall.keep, codeAny_func (wpAny_mono (ht.run [] s1 (start N vs) H _ I hq) (fun fl s2 hs => ?_) fun _ _ z => z)⟩
  match fl, hs with
  | .ret u, ⟨v, τ, H1, J, rv, q⟩ => exact out J rv q
  | .next, ⟨τ, H1, J, q⟩ => exact out (v := V.non) (u := Value.none) J rfl q
  | .brk, ⟨_, _, _, q⟩ => exact q.elim
  | .cont, ⟨_, _, _, q⟩ => exact q.elim
theorem okG {x qual : Str} {st : Stmt} {f : Addr} {fd : FuncData} {N ps : List Str} {k : Nat} {sp : Sp} (F : Fun K x qual st f fd) (S : FnScope N ps (defScope st)) (hlen : ∀ vs H Q E, sp vs H Q E → vs.length = ps.length)
    (hbody : ∀ (cdv : Value) (A : Around) (outer : List Env) (s : Shared) (H : Hp) (vs : List V) (Q : VK) (E : XK), (A.deeper (envOfC qual (defScope st) s.heap.objs.size f cdv)).guards = some [] → Room k (A.deeper (envOfC qual (defScope st) s.heap.objs.size f cdv)) → sp vs H Q E →
      ∃ t, PSs (cxOf CX0 P w K mg base N qual (defScope st) f cdv A outer s H E).nox (defBody st) t ∧ t { nx := fun _ H1 => Q .non H1, rt := Q } (start N vs) H) : FnG P w K mg base CX0 (k + 1) f fd ps sp := by
  obtain ⟨oc, od, kV, doc, pm, an, cdv, ct, osl, rfl, lk, hcd⟩ := F.ex
  refine fnG_of lk hcd S hlen fun A outer s H vs Q E hg hr hsp => ?_
  obtain ⟨t, h, q⟩ := hbody cdv A outer s H vs Q E hg hr hsp
  exact ⟨t, h.nox, q⟩
end
section
variable {X : Cx} {CX : CXT} {j k n : Nat} {f C : Addr} {fd : FuncData} {ps ks : List Str} {sp : Sp} {E : XK} {x : Str} {p pos : Pos} {e : Expr} {es : List Expr} {t tk : TA} {kws : List Keyword}
theorem run_g {pins : List (Addr × Obj)} {σ : St} {H : Hp} {s : Shared} {Q : VK} {us us2 : List Value} {kw : List (Str × Value)} {vs : List V} (F : FnG X.prog X.w X.K X.mg X.base CX k f fd ps sp) (hg : X.A.guards = some []) (hr : Room k X.A) (hb : BindsTo s fd ⟨us, kw⟩ (ps.zip us2)) (hx : Passes CX X E)
    (I : Inv X pins σ H s) (r : Vals vs us2) (h : sp vs H Q E) : wpAny (model X.prog X.w) X.A (call (.ref f) us kw) (EP X pins σ Q) X.xe s := by
  refine wpAny_call (codeAny_mono (F.run X.A X.stack s H ⟨us, kw⟩ us2 vs Q E hg hr I.env0 hb r h) fun r2 s2 hq => ?_)
  match r2, hq with
  | .error e, hq => exact hx pins σ H s e s2 I hq
  | .ok (.ret u), hq => exact I.after hq
  | .ok .next, hq => exact hq.elim
  | .ok .brk, hq => exact hq.elim
  | .ok .cont, hq => exact hq.elim
structure Cg (P : Program) (w : World) (K : PySem.W.Frag) (mg : Str → Option Value) (base : Heap) (CX : CXT) (k : Nat) (x : Str) (sp : Sp) : Prop where
  ex : ∃ (f : Addr) (fd : FuncData) (ps : List Str), FnG P w K mg base CX k f fd ps sp ∧ mg x = some (.ref f) ∧ PySem.W.keepIn K (.ref f) = true ∧ Binds K fd ps []
theorem pe_cg (c : Cg X.prog X.w X.K X.mg X.base CX k x sp) (hgd : X.A.guards = some []) (hr : Room j X.A) (hk : k ≤ j) (hg : Gl X x) (hx : Passes CX X E) (ha : PA X (e :: es) t)
    (hdb : (x == ("__debug__" : Str)) = false := by decide) (he : starEach (e :: es) X.env = (false, eval e X.env) :: starEach es X.env := by rfl) (hpl : (backTo pos (starEach es X.env)).any (·.1) = false := by rfl) :
    PE X (.Call (.Name x p) (e :: es) [] pos) (tCall sp [] E t) := by
  obtain ⟨f, fd, ps, F, hm, kp, b⟩ := c.ex
  refine ⟨fun pins s σ H Q I h => ?_⟩
  refine Call_ (ld_glob I hg hm ?_ hdb)
  refine PySem.W.callWith_K (h₀ := X.base) I.ok.mod.kin kp ?_ he hpl
  refine thn (ha.run pos pins s σ H _ I h) fun us s1 ⟨vs, H1, I1, r, q⟩ => ⟨I1.kIn, ?_⟩
  have q2 : sp (vs ++ []) H1 Q E := q
  rw [List.append_nil] at q2
  have hb := b s1 us I1.kIn (by rw [List.append_nil, ← r.length]; exact F.len _ _ _ _ q2)
  rw [List.append_nil] at hb
  exact run_g F hgd (hr.mono hk) hb hx I1 r q2
end
end L3

namespace L3
open PySem PySem.Spec PyProof.Rows L2
def scriptH (a : Addr) (o : Obj) (ns : List Int) : Hp := fun b => if b = a then some (.frz o (.lst (ns.map V.int))) else none
theorem law_callG {P : Program} {w : World} {K : PySem.W.Frag} {mg mb : Str → Option Value} {k : Nat} {fa a : Addr} {fd : FuncData} {x : Str} {sp : Sp} {s1 : Shared} {vs : List Value} {ns : List Int}
    (inK : K.In s1.heap) (nsM : s1.heap.Ns mainGlobals mg) (nsB : s1.heap.Ns builtinsNs mb) (hmb : ∀ x : Str, x ≠ "__name__" → mb x = bootBuiltins x) (noL : s1.heap.NoLimit) (hgens : s1.gens = #[])
    (ha : s1.heap.get? a = some { cls := .type "list", data := .seq vs.toArray }) (hints : IntsAre vs ns) (hl : ns.length ≤ sizeLine) (room : Room k callerA)
    (F : ∀ base : Heap, K.In base → base.Ns mainGlobals mg → FnG P w K mg base CX0 k fa fd [x] sp) (hb : ∀ (s : Shared) (u : Value), BindsTo s fd ⟨[u], []⟩ [(x, u)])
    (hsp : ∀ H : Hp, SqL K H a (ns.map V.int) → (∀ b, H b ≠ none → b = a) → sp [.ref a] H (fun v _ => v = .bl true) fun _ _ _ => False) :
    codeAny (model P w) callerA (.call (.ref fa) ⟨[.ref a], []⟩) (fun r s2 => r = .ok (.ret (.bool true)) ∧ OldK s1.heap s2.heap ∧ s2.os = s1.os ∧ AllBare s2.gens) s1 := by
  have rel := vals_ints hints
  have len := hints.length
  suffices core : ∀ H : Hp, (∀ b, H b = none ∨ ∃ ob xs, H b = some (.frz ob (.lst xs))) → SqL K H a (ns.map V.int) → HOk P w H s1.heap → (∀ b, H b ≠ none → b = a) → (H a ≠ none → K.lookup a = none) →
      codeAny (model P w) callerA (.call (.ref fa) ⟨[.ref a], []⟩) (fun r s2 => r = .ok (.ret (.bool true)) ∧ OldK s1.heap s2.heap ∧ s2.os = s1.os ∧ AllBare s2.gens) s1 by
    by_cases hk : ∃ o, K.lookup a = some o
    · obtain ⟨o, hk⟩ := hk
      have same := inK a o hk
      rw [ha] at same
      cases same
      have tracked : SqL K (fun _ => none) a (ns.map V.int) := .inr ⟨_, vs.toArray, _, hk, rfl, rfl, rfl, by rw [List.size_toArray, len]; exact hl, by simpa using rel⟩
      exact core (fun _ => none) (fun _ => .inl rfl) tracked (fun b u z => by cases (show (none : Option HO) = some u from z)) (fun b z => (z rfl).elim) fun z => (z rfl).elim
    · have hk0 : K.lookup a = none := by
        cases h : K.lookup a with
        | none => rfl
        | some o => exact (hk ⟨o, h⟩).elim
      have at_a : scriptH a { cls := .type "list", data := .seq vs.toArray } ns a = some (.frz { cls := .type "list", data := .seq vs.toArray } (.lst (ns.map V.int))) := if_pos rfl
      have off : ∀ b, b ≠ a → scriptH a { cls := .type "list", data := .seq vs.toArray } ns b = none := fun b hne => if_neg hne
      refine core (scriptH a { cls := .type "list", data := .seq vs.toArray } ns) (fun b => ?_) (.inl (.inr ⟨_, at_a⟩)) (fun b u z => ?_) (fun b z => Decidable.byContradiction fun hne => z (off b hne)) fun _ => hk0
      · by_cases hne : b = a
        · exact .inr ⟨_, _, by rw [hne]; exact at_a⟩
        · exact .inl (off b hne)
      · by_cases hne : b = a
        · subst hne
          rw [at_a] at z
          cases z
          exact ⟨ha, by rw [List.length_map]; exact hl, vs, _, rel, ha⟩
        · rw [off b hne] at z
          cases z
  intro H only hS hok onlyA notK
  have lower : ∀ {b : Addr} {o : Obj}, s1.heap.get? b = some o → H b = none → (hidT s1.heap H).get? b = some o := fun q n => hidT_get q n
  have freeK : ∀ b o, K.lookup b = some o → H b = none := fun b o q => by
    cases h : H b with
    | none => rfl
    | some u =>
      have eb := onlyA b (by rw [h]; exact Option.some_ne_none u)
      subst eb
      rw [notK (by rw [h]; exact Option.some_ne_none u)] at q
      cases q
  have freeD : ∀ {b : Addr} {o : Obj} {es : Array DictEntry} {ep : Nat}, s1.heap.get? b = some o → o.data = .dict es ep → H b = none := fun {b o es ep} q d => by
    cases h : H b with
    | none => rfl
    | some u =>
      have eb := onlyA b (by rw [h]; exact Option.some_ne_none u)
      subst eb
      rw [ha] at q
      cases q
      cases (show Data.seq vs.toArray _ = Data.dict es ep from d)
  have lowerN : ∀ {b : Addr} {m : Str → Option Value}, s1.heap.Ns b m → (hidT s1.heap H).Ns b m := fun {b m} ⟨o, es, ep, q, d, r⟩ => ⟨o, es, ep, lower q (freeD q d), d, r⟩
  have inB : K.In (hidT s1.heap H) := fun b o q => lower (inK b o q) (freeK b o q)
  have mod : Mod K mg (hidT s1.heap H) := ⟨inB, lowerN nsM, ⟨mb, lowerN nsB, hmb⟩, let ⟨mc, q1, q2⟩ := noL; ⟨mc, lowerN q1, q2⟩⟩
  have start0 : Env0 P w K mg (hidT s1.heap H) callerA [] s1 H := ⟨rfl, mod, fun b o q => of_hidT q, Nat.le_of_eq (hidT_size _ _), trivial, fun b z => absurd (show b ∈ ([] : List Addr) from z) List.not_mem_nil, hok, .of_eq hgens⟩
  refine codeAny_mono ((F _ inB (lowerN nsM)).run callerA [] s1 H ⟨[.ref a], []⟩ [.ref a] [.ref a] _ _ rfl room start0 (hb s1 (.ref a)) (.cons rfl .nil) (hsp H hS onlyA)) fun r s2 hr => ?_
  match r, hr with
  | .error e, hr => exact hr.elim
  | .ok .next, hr => exact hr.elim
  | .ok .brk, hr => exact hr.elim
  | .ok .cont, hr => exact hr.elim
  | .ok (.ret u), hr =>
    obtain ⟨v, H2, os, bare, un, hok2, rv, q⟩ := hr
    have ev : v = .bl true := q
    subst ev
    cases (show u = Value.bool true from rv)
    refine ⟨rfl, OldK.of_keep fun b o q => ?_, os, bare⟩
    rcases only b with n | ⟨ob, xs, z⟩
    · exact un.keep b o q n (fun z => absurd (show b ∈ ([] : List Addr) from z) List.not_mem_nil) (fun z => absurd z List.not_mem_nil)
    · obtain ⟨q1, _⟩ := hok b _ z
      obtain ⟨q2, _⟩ := hok2 b _ (un.frzs b ob _ z)
      rw [q] at q1
      cases q1
      exact q2
theorem walk_ofG {l : PySem.W.OpenLaw} {n k : Nat} {q : Program} {loose : List Str} {XP : (Str → Option Value) → Heap → Prop} {YP : World → Heap → Prop} {d : DefRec} {K : Params → PySem.W.Frag} {sp : PySem.W.Frag → Sp} {x : Str}
    (hn : l.most = some n) (hn2 : n ≤ sizeLine) (hdf : d.params.defaults = []) (hr : Room k callerA)
    (hY : ∀ (w : World) (h : Heap), YP w h → (K w.params).In h)
    (F : ∀ (w : World) (mg : Str → Option Value) (fa : Addr) (h : Heap), (K w.params).In h → h.Ns mainGlobals mg → mg d.name = some (.ref fa) →
      ∃ fd : FuncData, (∀ (s : Shared) (u : Value), BindsTo s fd ⟨[u], []⟩ [(x, u)]) ∧ ∀ base : Heap, (K w.params).In base → base.Ns mainGlobals mg → FnG l.prog w (K w.params) mg base CX0 k fa fd [x] (sp (K w.params)))
    (hsp : ∀ (K : PySem.W.Frag) (H : Hp) (a : Addr) (ns : List Int), ns.length ≤ n → SqL K H a (ns.map V.int) → (∀ b, H b ≠ none → b = a) → sp K [.ref a] H (fun v _ => v = .bl true) fun _ _ _ => False) :
    PySem.W.WalkO q loose XP YP l.row.toRowW d [] (fun f vs => PySem.call f vs) := by
  refine Att.attach_call hn hdf fun w s0 s1 mg mb fa o pm cd doc a vs ns G Y ho hd hcd hmg hobj hints hlen hg => ?_
  obtain ⟨fd, hb, hF⟩ := F w mg fa _ (hY w _ Y) G.T.g hmg
  exact law_callG (hY w _ Y) G.T.g G.T.b G.T.builtins G.T.nolimit hg hobj hints (Nat.le_trans hlen hn2) hr hF hb fun H hS hA => hsp _ H a ns hlen hS hA
end L3

namespace L3
open PySem PySem.Spec PyProof.Rows L2
section
variable {X : Cx}
theorem oMod : OpR X (binaryOp .Mod) (rI (fun _ j => 0 < j) fun i j => .int (i % j)) := op_mod
theorem oPow : OpR X (binaryOp .Pow) (rI CPow fun i j => .int (i ^ j.toNat)) := op_pow
def rEqA (K : PySem.W.Frag) : R2 := fun x y H Q => rEq x y H Q ∨ rEqD K x y H Q
def rNeA (K : PySem.W.Frag) : R2 := fun x y H Q => rNe x y H Q ∨ rNeD K x y H Q
theorem oEq {k : Nat} (hr : Room k X.A) : OpR X (compareOp .Eq) (rEqA X.K) := op_eq.or (op_eqD hr.units)
theorem oNe {k : Nat} (hr : Room k X.A) : OpR X (compareOp .NotEq) (rNeA X.K) := op_ne.or (op_neD hr.units)
theorem oLt : OpR X (compareOp .Lt) (rI0 fun i j => .bl (decide (i < j))) := op_lt
theorem oGt : OpR X (compareOp .Gt) (rI0 fun i j => .bl (decide (j < i))) := op_gt
theorem oGe : OpR X (compareOp .GtE) (rI0 fun i j => .bl (decide (j ≤ i))) := op_ge
def rInA (K : PySem.W.Frag) : R2 := fun x y H Q => rIn K false x y H Q ∨ rInD K x y H Q
theorem oIn {k : Nat} (hr : Room k X.A) : OpR X (compareOp .In) (rInA X.K) := op_in_seq.or (op_inD (by have := hr.un; omega))
theorem oIx : IxR X (rIx X.K) := ix_seq
def iSeq (K : PySem.W.Frag) (te : TE) : TI := fun σ H R => te σ H fun x H1 => ∃ a xs, x = .ref a ∧ ((SqL K H1 a xs ∧ R (Itl K a) H1) ∨ (SqT K H1 a xs ∧ R (Itt K a) H1))
theorem pi_seq {tg e : Expr} {te : TE} (he : PE X e te) : PI X tg e (iSeq X.K te) := by
  refine ⟨fun pins s σ H R I h => thn (he.run pins s σ H _ I h) ?_⟩
  rintro v s1 ⟨x, H1, I1, r1, a, xs, rfl, hq⟩
  cases r1
  have fresh1 : ∀ b ∈ [s1.heap.objs.size], FpOk X pins H1 b := fun b hb => by
    rw [List.mem_singleton.mp hb]
    exact I1.fpOk (Nat.le_refl _) (I1.hok.fresh (Nat.le_refl _))
  rcases hq with ⟨hl, q⟩ | ⟨ht, q⟩
  · obtain ⟨its, rv, p, _⟩ := I1.list hl
    exact wpAny_pyIter_list p.isList ⟨s1.heap.objs.size, [s1.heap.objs.size], _, _, H1, rfl, I1.kept (t' := s1.toks) fun b u z => Heap.get?_push_of_some _ z, turn_list a _, ⟨_, Heap.get?_push_size _ rfl, rfl, rfl⟩, fresh1, q⟩
  · obtain ⟨its, rv, p, _⟩ := I1.tuple ht
    exact wpAny_pyIter_tuple (show s1.heap.IsTuple a its.toArray from p) ⟨s1.heap.objs.size, [s1.heap.objs.size], _, _, H1, rfl, I1.kept (t' := s1.toks) fun b u z => Heap.get?_push_of_some _ z, turn_tuple a _, ⟨_, Heap.get?_push_size _ rfl, rfl, rfl⟩, fresh1, q⟩
variable {K : PySem.W.Frag}
theorem kEq {k : Nat} (hr : Room k X.A) (hK : X.K = K := by rfl) : OpR X (compareOp .Eq) (rEqA K) := hK ▸ oEq hr
theorem kNe {k : Nat} (hr : Room k X.A) (hK : X.K = K := by rfl) : OpR X (compareOp .NotEq) (rNeA K) := hK ▸ oNe hr
theorem kIn {k : Nat} (hr : Room k X.A) (hK : X.K = K := by rfl) : OpR X (compareOp .In) (rInA K) := hK ▸ oIn hr
theorem kIx (hK : X.K = K := by rfl) : IxR X (rIx K) := hK ▸ oIx
theorem pi_seqK {tg e : Expr} {te : TE} (he : PE X e te) (hK : X.K = K := by rfl) : PI X tg e (iSeq K te) := hK ▸ pi_seq he
def rLenA (K : PySem.W.Frag) : List V → Hp → VK → Prop := fun xs H Q => ∃ x n, xs = [x] ∧ LenV K x H n ∧ Q (.int n) H
theorem kLen (hK : X.K = K := by rfl) : CallR X (.builtin "len") (rLenA K) := hK ▸ call_len
def rListA (K : PySem.W.Frag) : List V → Hp → VK → Prop := fun xs H Q => ∃ p ys, xs = [.ref p] ∧ (SqL K H p ys ∨ SqT K H p ys) ∧ ∀ l, H l = none → Q (.ref l) (upd H l (.lst ys))
theorem kList (hK : X.K = K := by rfl) : CallR X (.type "list") (rListA K) := hK ▸ call_list_of
def rInt1 : List V → Hp → VK → Prop := fun xs H Q => (∃ i, xs = [.int i] ∧ Q (.int i) H) ∨ ∃ k, xs = [.bl k] ∧ Q (.int (if k then 1 else 0)) H
theorem kInt : CallR X (.type "int") rInt1 := call_int1
theorem bmK {e : Expr} {T : String} {r : V → List V → Hp → VK → Prop} {to : TE} {t : TA} (h : PE X e (tBM X.K T r to t)) (hK : X.K = K := by rfl) : PE X e (tBM K T r to t) := hK ▸ h
theorem bm0K {e : Expr} {T : String} {r : V → List V → Hp → VK → Prop} {to : TE} (h : PE X e (tBM0 X.K T r to)) (hK : X.K = K := by rfl) : PE X e (tBM0 K T r to) := hK ▸ h
def tTruth (K : PySem.W.Frag) (ta : TE) : TT := fun σ H Q => ta σ H fun x H1 => ∃ k, TruV K x H1 k ∧ Q k H1
theorem pt_truthK {a : Expr} {ta : TE} (ha : PE X a ta) (he : ∀ whole, isTrue a X.env whole = (do let v ← whole; standAt a.pos; holding [v] (truthy v))) (hK : X.K = K := by rfl) : PT X a (tTruth K ta) := hK ▸ pt_truth ha he
end
end L3

namespace L3
open PySem PySem.Spec PyProof.Rows L2
def NoD (o : Obj) : Prop := o.cls = .type "tuple" ∧ o.dict = none
def TupF (H : Hp) (p : Addr) (xs : List V) : Prop := ∃ o, NoD o ∧ H p = some (.frz o (.tup xs))
theorem TupF.sq {K : PySem.W.Frag} {H : Hp} {p : Addr} {xs : List V} (h : TupF H p xs) : SqT K H p xs := let ⟨o, _, e⟩ := h; .inl (.inr ⟨o, e⟩)
def NewT (xs : List V) (H : Hp) (Q : VK) : Prop := ∀ (p : Addr) (o : Obj), H p = none → NoD o → Q (.ref p) (upd H p (.frz o (.tup xs)))
section
variable {X : Cx} {pins : List (Addr × Obj)} {σ : St} {H : Hp} {s : Shared}
theorem newT_run {Q : VK} {xs : List V} {us : List Value} (I : Inv X pins σ H s) (r : Vals xs us) (hz : xs.length ≤ sizeLine) (q : NewT xs H Q) :
    EP X pins σ Q (.ref s.heap.objs.size) { s with heap := s.heap.push { cls := .type "tuple", data := .seq us.toArray } } := by
  have fr : H s.heap.objs.size = none := I.hok.fresh (Nat.le_refl _)
  refine ⟨.ref s.heap.objs.size, upd H s.heap.objs.size (.frz { cls := .type "tuple", data := .seq us.toArray } (.tup xs)), I.laid (t' := s.toks) (fun b u z => Heap.get?_push_of_some _ z) (Nat.le_refl _) ?_, rfl, q _ _ fr ⟨rfl, rfl⟩⟩
  exact ⟨Heap.get?_push_size _ rfl, hz, us, r, _, Heap.get?_push_size _ rfl, rfl, _, rfl⟩
def tTupF (t : TA) : TE := fun σ H Q => t σ H fun xs H1 => xs.length ≤ sizeLine ∧ NewT xs H1 Q
theorem pe_tupF {es : List Expr} {t : TA} {x1 : Nat} {pos : Pos} (h : PA X es t) : PE X (.Tuple es x1 pos) (tTupF t) := by
  refine ⟨fun pins s σ H Q I hq => wpAny_Tuple_spliced (thn (h.run pos pins s σ H _ I hq) ?_)⟩
  rintro us s1 ⟨xs, H1, I1, r, z, q⟩
  exact ⟨by rw [← r.length]; exact z, newT_run I1 r z q⟩
def rTupF (K : PySem.W.Frag) : List V → Hp → VK → Prop := fun xs H Q => ∃ p ys, xs = [.ref p] ∧ ((SqL K H p ys ∧ NewT ys H Q) ∨ (SqT K H p ys ∧ Q (.ref p) H))
theorem call_tupleF : CallR X (.type "tuple") (rTupF X.K) := by
  rintro pins s σ H xs us Q I r ⟨p, ys, rfl, h⟩
  obtain ⟨u, rfl, rx⟩ := vals1 r
  cases rx
  rcases h with ⟨hq, q⟩ | ⟨hq, q⟩
  · obtain ⟨its, rv, pl, hz⟩ := I.list hq
    have hl := rv.length
    refine call_tuple_list pl.isList (fun h2 kp => ?_) (by rw [List.size_toArray]; omega)
    have I1 : Inv X pins σ H { s with heap := h2 } := I.kept (t' := s.toks) kp
    exact newT_run I1 rv hz q
  · obtain ⟨its, rv, pl, hz⟩ := I.tuple hq
    exact call_tuple_same pl ⟨.ref p, H, I, rfl, q⟩
open AutoSeq1 (wpAny_loadPart')
theorem tup_mul_one (l : Addr) (items : Array Value) (n : Nat) (dd : Option Addr) (sl : Array (Option Value)) (u : Tok) :
    Meets (Builtin.«tuple.__mul__» ⟨[.ref l, .int 1 u], []⟩) (fun _ R s => s.heap.get? l = some { cls := .type "tuple", dict := dd, data := .seq items n, slots := sl } ∧ R (.ok (.ret (.ref l))) s) :=
  .of_wp fun prog w A R s hh => by
    obtain ⟨hp, g, d, tk, os⟩ := s
    obtain ⟨hl, hR⟩ := hh
    have f1 := AutoSeq1.idx_int
    wp_walk using wpAny_loadPart' hl
    repeat (first
      | (refine wpAny_ite_false (by decide) ?_; wp_walk using wpAny_loadPart' hl)
      | (refine wpAny_ite_true (by rw [show ((1 : Int) == 1) = true from rfl, Bool.or_true]) ?_; wp_walk using wpAny_loadPart' hl))
    exact ⟨_, rfl, hR⟩
theorem tup_mul_none (l : Addr) (items : Array Value) (n : Nat) (dd : Option Addr) (sl : Array (Option Value)) (x : Int) (u : Tok) (c0 : (decide (x < -(2 ^ 63)) || decide (x ≥ 2 ^ 63)) = false) (c1 : (items.isEmpty || x == 1) = false) (c2 : (decide (x ≤ 0) || items.isEmpty) = true) :
    Meets (Builtin.«tuple.__mul__» ⟨[.ref l, .int x u], []⟩) (fun _ R s => s.heap.get? l = some { cls := .type "tuple", dict := dd, data := .seq items n, slots := sl } ∧
      R (.ok (.ret (.ref s.heap.objs.size))) { s with heap := s.heap.push { cls := .type "tuple", data := .seq #[] }, toks := s.toks }) :=
  .of_wp fun prog w A R s hh => by
    obtain ⟨hp, g, d, tk, os⟩ := s
    obtain ⟨hl, hR⟩ := hh
    have f1 := AutoSeq1.idx_int
    wp_walk using wpAny_loadPart' hl
    repeat (first
      | (refine wpAny_ite_false (decide_eq_false (by rw [c0]; exact Bool.false_ne_true)) ?_; wp_walk using wpAny_loadPart' hl)
      | (refine wpAny_ite_false (decide_eq_false (by rw [c1]; exact Bool.false_ne_true)) ?_; wp_walk using wpAny_loadPart' hl)
      | (refine wpAny_ite_true (decide_eq_true c2) ?_; wp_walk using wpAny_loadPart' hl))
    exact ⟨_, rfl, hR⟩
def rRepF (K : PySem.W.Frag) : R2 := fun x y H Q => ∃ l k xs, x = .ref l ∧ y = .int k ∧ SqT K H l xs ∧ xs ≠ [] ∧ -1000 ≤ k ∧ k ≤ 1000 ∧ xs.length ≤ 1000 ∧ (k = 1 → Q (.ref l) H) ∧ (k ≠ 1 → NewT (List.replicate k.toNat xs).flatten H Q)
theorem op_repF : OpR X (binaryOp .Mult) (rRepF X.K) := by
  rintro pins s σ H x y v u Q I rx ry ⟨l, k, xs, rfl, rfl, hT, hne, h0, h1, hz, q1, q2⟩
  cases rx
  obtain ⟨t, rfl⟩ := ry
  obtain ⟨its, r, ⟨⟨cls, dd, data, sl⟩, ho, hc, n, hd⟩, _⟩ := I.tuple hT
  cases (show cls = .type "tuple" from hc)
  cases (show data = .seq its.toArray n from hd)
  have len : its.length = xs.length := r.length.symm
  have pos : 0 < its.length := by
    rw [len]
    exact List.length_pos_iff.mpr hne
  have ie : its.toArray.isEmpty = false := by
    cases its with
    | nil => exact absurd pos (Nat.lt_irrefl 0)
    | cons a b => rfl
  have small : (decide (k < -(2 ^ 63)) || decide (k ≥ 2 ^ 63)) = false := by rw [decide_eq_false (by omega), decide_eq_false (by omega)]; rfl
  refine wpAny_binaryOp_repeat_ref (T := "tuple") (U := "int") (by decide) ⟨_, ho, rfl⟩ (fun s2 => typeIs_int s2 k t) noFill_tuple_mul F.fills_int_mul F.slot_int_rmul repeat_tuple F.slot_int_index.lookup
    (call_meets F.slot_int_rmul (typeIs_int s k t) F.entry_int_rmul (F.args_int_rmul_2 _ _) (int_rmul_tuple k t l its.toArray n dd sl) ⟨ho, rfl, ⟨_, ho, rfl⟩, ?_⟩)
  by_cases hk : k = 1
  · subst hk
    exact call_meets F.slot_tuple_mul ⟨_, ho, rfl⟩ F.entry_tuple_mul (F.args_tuple_mul_2 _ _) (tup_mul_one l its.toArray n dd sl t) ⟨ho, .ref l, H, I, rfl, q1 rfl⟩
  have ne1 : (its.toArray.isEmpty || k == 1) = false := by
    rw [ie, Bool.false_or]
    exact beq_eq_false_iff_ne.mpr hk
  have flat : (List.replicate k.toNat its).flatten.length ≤ 1000 * 1000 := by
    rw [PyProof.Rows.lm_len_rep_flat, len]
    exact Nat.mul_le_mul (by omega) hz
  have flat2 : (List.replicate k.toNat xs).flatten.length ≤ sizeLine := by
    rw [PyProof.Rows.lm_len_rep_flat]
    exact Nat.le_trans (Nat.mul_le_mul (show k.toNat ≤ 1000 by omega) hz) (by decide)
  by_cases hp : k ≤ 0
  · refine call_meets F.slot_tuple_mul ⟨_, ho, rfl⟩ F.entry_tuple_mul (F.args_tuple_mul_2 _ _) (tup_mul_none l its.toArray n dd sl k t small ne1 (by rw [decide_eq_true hp]; rfl)) ⟨ho, ?_⟩
    have e0 : k.toNat = 0 := by omega
    have q3 := q2 hk
    rw [e0] at q3
    exact newT_run I .nil (Nat.zero_le _) q3
  · have sz : its.toArray.size = xs.length := by rw [List.size_toArray, len]
    have prod : ((its.toArray.size : Nat) : Int) * k ≤ 1000000 := by
      rw [sz]
      have a1 : ((xs.length : Nat) : Int) * k ≤ 1000 * k := Int.mul_le_mul_of_nonneg_right (by omega) (by omega)
      omega
    have few : Builtin.Tuple.tupleTooMany (((its.toArray.size : Nat) : Int) * k) = false := by
      unfold Builtin.Tuple.tupleTooMany
      rw [sizeLine_eq]
      exact decide_eq_false (by omega)
    refine call_meets F.slot_tuple_mul ⟨_, ho, rfl⟩ F.entry_tuple_mul (F.args_tuple_mul_2 _ _)
      (tuple_mulW l its.toArray n dd sl k t small ne1 (by rw [ie, Bool.or_false]; exact decide_eq_false hp) (by omega) few (by rw [size_rep, List.size_toArray]; exact Nat.le_trans flat (by decide))) ⟨ho, ?_⟩
    rw [size_rep]
    exact newT_run I (r.rep k.toNat) flat2 (q2 hk)
def rMulF (K : PySem.W.Frag) : R2 := fun x y H Q => rI CMul (fun i j => .int (i * j)) x y H Q ∨ rRepF K x y H Q
theorem kMulF {K : PySem.W.Frag} (hK : X.K = K := by rfl) : OpR X (binaryOp .Mult) (rMulF K) := hK ▸ op_mul.or op_repF
theorem kTupleF {K : PySem.W.Frag} (hK : X.K = K := by rfl) : CallR X (.type "tuple") (rTupF K) := hK ▸ call_tupleF
theorem pe_revK {K : PySem.W.Frag} {e : Expr} {te : TE} {k : Nat} {p1 p2 p3 pos : Pos} (he : PE X e te) (hK : X.K = K := by rfl) : PE X (.Subscript e (.Slice none none (some (.UnaryOp .USub (.Constant (.int 1) k p1) p2)) p3) pos) (tRevL K te) := hK ▸ pe_revL he
def tJoin (t u : TS) : TS := fun D σ H => ∃ Mid : L2.St → Hp → Prop, t { D with nx := Mid } σ H ∧ ∀ τ G, Mid τ G → u D τ G
theorem pss_join {st : Stmt} {rest : List Stmt} {t u : TS} (h1 : PS X st t) (h2 : PSs X rest u) : PSs X (st :: rest) (tJoin t u) := by
  refine ⟨fun pins s σ H D I ⟨Mid, hm, hu⟩ => wpAny_execs_cons (thn (h1.run pins s σ H { D with nx := Mid } I hm) fun f s1 q => ?_)⟩
  match f, q with
  | .next, ⟨τ, G, J, q⟩ => exact h2.run pins s1 τ G D J (hu τ G q)
  | .ret v, q => exact q
  | .brk, q => exact q
  | .cont, q => exact q
end
end L3

namespace L3
open PySem PySem.Spec PyProof.Rows L2
def Ex (I J : Hp) : Prop := ∀ a o, I a = some o → J a = some o
theorem Ex.refl (I : Hp) : Ex I I := fun _ _ h => h
theorem Ex.trans {I J L : Hp} (h : Ex I J) (k : Ex J L) : Ex I L := fun a o e => k a o (h a o e)
theorem Ex.new {I : Hp} {p : Addr} {o : HO} (h : I p = none) : Ex I (upd I p o) := fun a u e => by
  rw [upd_ne (ne_of_none e h)]
  exact e
abbrev PL := List (Addr × HO)
structure Own (I : Hp) (ps : PL) (H : Hp) : Prop where
  ex : Ex I H
  pr : ∀ p ∈ ps, H p.1 = some p.2 ∧ I p.1 = none
  nd : (ps.map Prod.fst).Nodup
section
variable {K : PySem.W.Frag} {I J : Hp} {a : Addr} {xs : List V} {o : HO} {v : V} {d : PyData}
theorem At.up (e : Ex I J) (h : I a = some o) : J a = some o := e a o h
theorem Rd.up {u : HO} (e : Ex I J) (h : Rd I a u) : Rd J a u := by
  rcases h with h | ⟨o, h⟩
  · exact .inl (e _ _ h)
  · exact .inr ⟨o, e _ _ h⟩
theorem SqT.up (e : Ex I J) (h : SqT K I a xs) : SqT K J a xs := h.elim (fun h => .inl (Rd.up e h)) .inr
theorem SqL.up (e : Ex I J) (h : SqL K I a xs) : SqL K J a xs := h.elim (fun h => .inl (Rd.up e h)) .inr
theorem TupF.up (e : Ex I J) (h : TupF I a xs) : TupF J a xs := let ⟨o, n, q⟩ := h; ⟨o, n, e _ _ q⟩
mutual
theorem Dp.up (e : Ex I J) : ∀ {v : V} {d : PyData}, Dp K I v d → Dp K J v d
  | _, _, .non => .non
  | _, _, .bl b => .bl b
  | _, _, .int i => .int i
  | _, _, .str x => .str x
  | _, _, .lst h hs => .lst (SqL.up e h) (DpAll.up e hs)
  | _, _, .tup h hs => .tup (SqT.up e h) (DpAll.up e hs)
theorem DpAll.up (e : Ex I J) : ∀ {vs : List V} {ds : List PyData}, DpAll K I vs ds → DpAll K J vs ds
  | _, _, .nil => .nil
  | _, _, .cons h hs => .cons (Dp.up e h) (DpAll.up e hs)
end
theorem dpAll_ints : ∀ ns : List Int, DpAll K I (ns.map V.int) (ns.map PyData.int)
  | [] => .nil
  | n :: ns => .cons (.int n) (dpAll_ints ns)
end
section
variable {K : PySem.W.Frag} {I J H H2 : Hp} {ps qs : PL} {a p l : Addr} {xs : List V} {o u : HO} {v : V} {Q : VK}
theorem Own.dp {d : PyData} (O : Own I ps H) (h : Dp K I v d) : Dp K H v d := Dp.up O.ex h
theorem Own.at (O : Own I ps H) (h : I a = some o) : H a = some o := O.ex _ _ h
theorem Own.ix {i : Nat} (O : Own I ps H) (h : ps[i]? = some (l, o)) : H l = some o := (O.pr _ (List.mem_of_getElem? h)).1
theorem Own.none (O : Own I ps H) (h : H p = none) : I p = none := by
  cases q : I p with
  | none => rfl
  | some o => rw [O.ex _ _ q] at h; cases h
theorem Own.notin (O : Own I ps H) (h : H p = Option.none) : p ∉ ps.map Prod.fst := fun hm => by
  obtain ⟨q, hq, e⟩ := List.mem_map.mp hm
  have := (O.pr q hq).1
  rw [e, h] at this
  cases this
theorem Own.mono (O : Own I ps H) (e : Ex H H2) : Own I ps H2 := ⟨O.ex.trans e, fun p hp => ⟨e _ _ (O.pr p hp).1, (O.pr p hp).2⟩, O.nd⟩
theorem Own.skip (O : Own I ps H) (h : H p = Option.none) : Own I ps (upd H p o) := O.mono (Ex.new h)
theorem Own.keep (O : Own I ps H) (h : H p = Option.none) : Own (upd I p o) ps (upd H p o) where
  ex := fun b w e => by
    by_cases hb : b = p
    · subst hb; rw [upd_same] at e ⊢; exact e
    · rw [upd_ne hb] at e ⊢; exact O.ex _ _ e
  pr := fun q hq => by
    have ne : q.1 ≠ p := ne_of_none (O.pr q hq).1 h
    rw [upd_ne ne, upd_ne ne]
    exact O.pr q hq
  nd := O.nd
theorem Own.own (O : Own I ps H) (h : H p = Option.none) : Own I ((p, o) :: ps) (upd H p o) where
  ex := O.ex.trans (Ex.new h)
  pr := fun q hq => by
    rcases List.mem_cons.mp hq with rfl | hq
    · exact ⟨upd_same, O.none h⟩
    · rw [upd_ne (ne_of_none (O.pr q hq).1 h)]
      exact O.pr q hq
  nd := List.nodup_cons.mpr ⟨O.notin h, O.nd⟩
theorem nodup_inj {α β : Type} {f : α → β} : ∀ {l : List α} {i j : Nat} {x y : α}, (l.map f).Nodup → l[i]? = some x → l[j]? = some y → f x = f y → i = j := by
  intro l i j x y nd hi hj e
  have h1 := (List.getElem?_eq_some_iff.mp hi).1
  have h2 := (List.getElem?_eq_some_iff.mp hj).1
  have e1 : (l.map f)[i]'(by simpa using h1) = f x := by simp [(List.getElem?_eq_some_iff.mp hi).2]
  have e2 : (l.map f)[j]'(by simpa using h2) = f y := by simp [(List.getElem?_eq_some_iff.mp hj).2]
  exact (List.getElem_inj nd).mp (by rw [e1, e2, e])
theorem Own.set {i : Nat} (O : Own I ps H) (h : ps[i]? = some (l, o)) : Own I (ps.set i (l, u)) (upd H l u) where
  ex := fun b w e => by
    have hn := (O.pr _ (List.mem_of_getElem? h)).2
    rw [upd_ne (ne_of_none e hn)]
    exact O.ex _ _ e
  pr := fun q hq => by
    obtain ⟨j, hj⟩ := List.getElem?_of_mem hq
    rw [List.getElem?_set] at hj
    by_cases hij : i = j
    · rw [if_pos hij] at hj
      split at hj
      · cases hj
        exact ⟨upd_same, (O.pr _ (List.mem_of_getElem? h)).2⟩
      · cases hj
    · rw [if_neg hij] at hj
      have ne : q.1 ≠ l := fun e => hij (nodup_inj O.nd h hj e.symm)
      rw [upd_ne ne]
      exact O.pr q (List.mem_of_getElem? hj)
  nd := by
    have e : (ps.set i (l, u)).map Prod.fst = ps.map Prod.fst := by
      rw [List.map_set]
      have h1 := (List.getElem?_eq_some_iff.mp h).1
      apply List.ext_getElem?
      intro j
      rw [List.getElem?_set]
      split
      · rename_i hij
        subst hij
        obtain ⟨h3, h4⟩ := List.getElem?_eq_some_iff.mp h
        simp [h3, h4]
      · rfl
    rw [e]
    exact O.nd
theorem Own.freeze (O : Own I ((p, o) :: ps) H) : Own (upd I p o) ps H where
  ex := fun b w e => by
    by_cases hb : b = p
    · subst hb
      rw [upd_same] at e
      cases e
      exact (O.pr _ List.mem_cons_self).1
    · rw [upd_ne hb] at e
      exact O.ex _ _ e
  pr := fun q hq => by
    have ne : q.1 ≠ p := fun e => (List.nodup_cons.mp O.nd).1 (by rw [← e]; exact List.mem_map.mpr ⟨q, hq, rfl⟩)
    rw [upd_ne ne]
    exact O.pr q (List.mem_cons_of_mem _ hq)
  nd := (List.nodup_cons.mp O.nd).2
theorem Own.exf (O : Own I ((p, o) :: ps) H) : Ex I (upd I p o) := Ex.new (O.pr _ List.mem_cons_self).2
theorem Own.drop (O : Own I ((p, o) :: ps) H) : Own I ps H := ⟨O.ex, fun q hq => O.pr q (List.mem_cons_of_mem _ hq), (List.nodup_cons.mp O.nd).2⟩
theorem Own.perm (O : Own I ps H) (h : qs.Perm ps) : Own I qs H := ⟨O.ex, fun q hq => O.pr q (h.mem_iff.mp hq), (h.map _).nodup_iff.mpr O.nd⟩
end
def DkOk (n m k : Int) (cells : List Int) : Prop := 0 ≤ m ∧ m < 4294967296 ∧ 0 ≤ k ∧ k ≤ n ∧ cells.length ≤ 64
abbrev dkP (d c : Addr) (m k : Int) (cells : List Int) (ps : PL) : PL := (d, .lst [.ref c, .int m, .int k]) :: (c, .lst (cells.map V.int)) :: ps
inductive Kn where
  | own
  | deck (d : Addr) (n : Int)
def Sta : Kn → Hp → PL → Hp → Prop
  | .own, I, ps, H => Own I ps H
  | .deck d n, I, ps, H => ∃ (c : Addr) (m k : Int) (cells : List Int), DkOk n m k cells ∧ Own I (dkP d c m k cells ps) H
section
variable {K : PySem.W.Frag} {κ : Kn} {I J H H2 : Hp} {ps qs : PL} {a p l : Addr} {xs : List V} {o u : HO} {v : V} {Q : VK}
theorem Sta.ex : ∀ {κ : Kn}, Sta κ I ps H → Ex I H
  | .own, O => Own.ex O
  | .deck _ _, ⟨_, _, _, _, _, O⟩ => O.ex
theorem Sta.mono : ∀ {κ : Kn}, Sta κ I ps H → Ex H H2 → Sta κ I ps H2
  | .own, O, e => Own.mono O e
  | .deck _ _, ⟨c, m, k, cs, h, O⟩, e => ⟨c, m, k, cs, h, O.mono e⟩
theorem Sta.skip (O : Sta κ I ps H) (h : H p = none) : Sta κ I ps (upd H p o) := O.mono (Ex.new h)
theorem Sta.none (O : Sta κ I ps H) (h : H p = none) : I p = none := by
  cases q : I p with
  | none => rfl
  | some o => rw [O.ex _ _ q] at h; cases h
theorem Sta.keep : ∀ {κ : Kn}, Sta κ I ps H → H p = Option.none → Sta κ (upd I p o) ps (upd H p o)
  | .own, O, h => Own.keep O h
  | .deck _ _, ⟨c, m, k, cs, g, O⟩, h => ⟨c, m, k, cs, g, O.keep h⟩
theorem perm2 {α : Type} (x y z : α) (l : List α) : (x :: y :: z :: l).Perm (z :: x :: y :: l) := ((List.Perm.swap z y l).cons x).trans (List.Perm.swap z x (y :: l))
theorem Sta.own : ∀ {κ : Kn}, Sta κ I ps H → H p = Option.none → Sta κ I ((p, o) :: ps) (upd H p o)
  | .own, O, h => Own.own O h
  | .deck _ _, ⟨c, m, k, cs, g, O⟩, h => ⟨c, m, k, cs, g, (O.own h).perm (perm2 ..)⟩
theorem Sta.ix : ∀ {κ : Kn} {i : Nat}, Sta κ I ps H → ps[i]? = some (l, o) → H l = some o
  | .own, i, O, h => Own.ix (i := i) O h
  | .deck _ _, i, ⟨c, m, k, cs, g, O⟩, h => Own.ix (i := i + 2) O h
theorem Sta.set : ∀ {κ : Kn} {i : Nat}, Sta κ I ps H → ps[i]? = some (l, o) → Sta κ I (ps.set i (l, u)) (upd H l u)
  | .own, i, O, h => Own.set (i := i) O h
  | .deck _ _, i, ⟨c, m, k, cs, g, O⟩, h => ⟨c, m, k, cs, g, Own.set (i := i + 2) O h⟩
theorem Sta.freeze : ∀ {κ : Kn}, Sta κ I ((p, o) :: ps) H → Sta κ (upd I p o) ps H
  | .own, O => Own.freeze O
  | .deck _ _, ⟨c, m, k, cs, g, O⟩ => ⟨c, m, k, cs, g, Own.freeze (O.perm (perm2 ..).symm)⟩
theorem Sta.exf : ∀ {κ : Kn}, Sta κ I ((p, o) :: ps) H → Ex I (upd I p o)
  | .own, O => Own.exf O
  | .deck _ _, ⟨c, m, k, cs, g, O⟩ => Own.exf (O.perm (perm2 ..).symm)
theorem Sta.drop : ∀ {κ : Kn}, Sta κ I ((p, o) :: ps) H → Sta κ I ps H
  | .own, O => Own.drop O
  | .deck _ _, ⟨c, m, k, cs, g, O⟩ => ⟨c, m, k, cs, g, Own.drop (O.perm (perm2 ..).symm)⟩
theorem Sta.perm : ∀ {κ : Kn}, Sta κ I ps H → qs.Perm ps → Sta κ I qs H
  | .own, O, h => Own.perm O h
  | .deck _ _, ⟨c, m, k, cs, g, O⟩, h => ⟨c, m, k, cs, g, O.perm ((h.cons _).cons _)⟩
theorem Sta.up {d : Addr} {n n2 : Int} (O : Sta (.deck d n) I ps H) (h : n ≤ n2) : Sta (.deck d n2) I ps H := by
  obtain ⟨c, m, k, cs, ⟨g1, g2, g3, g4, g5⟩, O⟩ := O
  exact ⟨c, m, k, cs, ⟨g1, g2, g3, by omega, g5⟩, O⟩
theorem Sta.newT (O : Sta κ I ps H) (k : ∀ p J H2, Sta κ J ps H2 → Ex I J → TupF J p xs → Q (.ref p) H2) : NewT xs H Q := fun p o hp nd =>
  k p _ _ (O.keep hp) (Ex.new (O.none hp)) ⟨o, nd, upd_same⟩
theorem Sta.newO (O : Sta κ I ps H) (k : ∀ p J H2, Sta κ J ps H2 → Ex I J → J p = some o → Q (.ref p) H2) : ∀ p, H p = Option.none → Q (.ref p) (upd H p o) := fun p hp =>
  k p _ _ (O.keep hp) (Ex.new (O.none hp)) upd_same
end
end L3

namespace L3
open PySem PySem.Spec PyProof.Rows L2
section
variable {K : PySem.W.Frag} {κ : Kn} {I J H H1 H2 : Hp} {ps qs : PL} {a p l b : Addr} {xs ys : List V} {o u : HO} {v x y : V} {Q : VK} {σ σ2 : St} {D : Ends} {i j : Nat}
theorem r_or {t w : TT} {R : Bool → Hp → Prop} (h : t σ H fun c H1 => if c = true then R true H1 else w σ H1 R) : tOr t w σ H R := h
def LoopR (J : It) (g : TG) (tb : TS) (D : Ends) (σ : St) (H : Hp) : Prop := ∃ W : Nat → Nat → St → Hp → Prop, (∃ m, W 0 m σ H) ∧ ∀ i m σ H, W i m σ H →
  (J.stop i H ∧ D.nx σ H) ∨ (J.go i H ∧ ∃ N : St → Hp → Prop, (∀ σ2 H2, N σ2 H2 → ∃ m2, m2 < m ∧ W (i + 1) m2 σ2 H2) ∧ ∀ x H2, J.yld i H x H2 → g x σ H2 fun σ3 H3 => tb { D with nx := N, ct := N, bk := D.nx } σ3 H3)
def CompR (J : It) (g : TG) (tt : TT) (te : TE) (vs : List Nat) (σ : St) (H : Hp) (Q : VK) : Prop := ∀ D, H D = none → ∃ W : Nat → Nat → Hp → Prop, (∃ m, W 0 m (upd H D (.lst []))) ∧ ∀ i m H, W i m H →
  (J.stop i H ∧ Q (.ref D) H) ∨ (J.go i H ∧ ∃ Nx : Hp → Prop, (∀ H2, Nx H2 → ∃ m2, m2 < m ∧ W (i + 1) m2 H2) ∧ ∀ x H2, J.yld i H x H2 → g x (wipe σ vs) H2 fun σ2 H3 => wipe σ2 vs = wipe σ vs ∧ tt σ2 H3 fun b H4 =>
    if b = true then te σ2 H4 fun y H5 => ∃ acc, H5 D = some (.lst acc) ∧ acc.length < sizeLine ∧ Nx (upd H5 D (.lst (acc ++ [y]))) else Nx H4)
end
end L3

namespace L3
open PySem PySem.Spec PyProof.Rows L2
def LInv (I : Hp) (κ : Nat → Kn) (Pv : Nat → St → Hp → PL → Prop) (i : Nat) (σ : St) (H : Hp) : Prop := ∃ J ps, Ex I J ∧ Sta (κ i) J ps H ∧ Pv i σ J ps
def CInv (I : Hp) (κ : Nat → Kn) (Pv : Nat → Hp → PL → List V → Prop) (D : Addr) (i : Nat) (H : Hp) : Prop := ∃ J ps acc, Ex I J ∧ Sta (κ i) J ((D, .lst acc) :: ps) H ∧ Pv i J ps acc
section
variable {K : PySem.W.Frag} {κ : Nat → Kn} {I J H : Hp} {ps : PL} {a b : Addr} {xs ys : List V} {Q : VK} {σ : St} {D : Ends} {g : TG} {tb : TS} {tt : TT} {te : TE} {vs : List Nat}
theorem loop_rng {lo : Int} {n : Nat} (κ : Nat → Kn) (Pv : Nat → St → Hp → PL → Prop) (O : Sta (κ 0) I ps H) (h0 : Pv 0 σ I ps)
    (hs : ∀ i σ1 J ps1 H1, i < n → Ex I J → Sta (κ i) J ps1 H1 → Pv i σ1 J ps1 → g (.int (lo + (i : Nat))) σ1 H1 fun σ2 H2 => tb { D with nx := LInv I κ Pv (i + 1), ct := LInv I κ Pv (i + 1), bk := D.nx } σ2 H2)
    (hd : ∀ σ1 J ps1 H1, Ex I J → Sta (κ n) J ps1 H1 → Pv n σ1 J ps1 → D.nx σ1 H1) : LoopR (Itr lo n) g tb D σ H :=
  for_range (LInv I κ Pv) ⟨I, ps, Ex.refl I, O, h0⟩ (fun i σ1 H1 hi ⟨J, ps1, e, O1, p⟩ => hs i σ1 J ps1 H1 hi e O1 p) fun σ1 H1 ⟨J, ps1, e, O1, p⟩ => hd σ1 J ps1 H1 e O1 p
theorem loop_rng0 {n : Nat} (κ : Nat → Kn) (Pv : Nat → St → Hp → PL → Prop) (O : Sta (κ 0) I ps H) (h0 : Pv 0 σ I ps)
    (hs : ∀ i σ1 J ps1 H1, i < n → Ex I J → Sta (κ i) J ps1 H1 → Pv i σ1 J ps1 → g (.int (i : Nat)) σ1 H1 fun σ2 H2 => tb { D with nx := LInv I κ Pv (i + 1), ct := LInv I κ Pv (i + 1), bk := D.nx } σ2 H2)
    (hd : ∀ σ1 J ps1 H1, Ex I J → Sta (κ n) J ps1 H1 → Pv n σ1 J ps1 → D.nx σ1 H1) : LoopR (Itr 0 n) g tb D σ H :=
  loop_rng κ Pv O h0 (fun i σ1 J ps1 H1 hi e O1 p => by rw [Int.zero_add]; exact hs i σ1 J ps1 H1 hi e O1 p) hd
def CTurn (I : Hp) (κ : Nat → Kn) (Pv : Nat → Hp → PL → List V → Prop) (tt : TT) (te : TE) (vs : List Nat) (σ : St) (Dl : Addr) (i : Nat) (σ2 : St) (H : Hp) : Prop := wipe σ2 vs = wipe σ vs ∧ tt σ2 H fun c H4 =>
  if c = true then te σ2 H4 fun y H5 => ∃ acc, H5 Dl = some (.lst acc) ∧ acc.length < sizeLine ∧ CInv I κ Pv Dl (i + 1) (upd H5 Dl (.lst (acc ++ [y]))) else CInv I κ Pv Dl (i + 1) H4
theorem comp_rng {lo : Int} {n : Nat} (κ : Nat → Kn) (Pv : Nat → Hp → PL → List V → Prop) (O : Sta (κ 0) I ps H) (h0 : Pv 0 I ps [])
    (hs : ∀ Dl i J ps1 acc H1, i < n → Ex I J → Sta (κ i) J ((Dl, .lst acc) :: ps1) H1 → Pv i J ps1 acc → g (.int (lo + (i : Nat))) (wipe σ vs) H1 (CTurn I κ Pv tt te vs σ Dl i))
    (hd : ∀ p J ps1 acc H1, Ex I J → Sta (κ n) J ((p, .lst acc) :: ps1) H1 → Pv n J ps1 acc → Q (.ref p) H1) : CompR (Itr lo n) g tt te vs σ H Q := fun Dl hD =>
  lc_range (Qd := fun H1 => Q (.ref Dl) H1) (CInv I κ Pv Dl) ⟨I, ps, [], Ex.refl I, O.own hD, h0⟩ (fun i H1 hi ⟨J, ps1, acc, e, O1, p⟩ => hs Dl i J ps1 acc H1 hi e O1 p) fun H1 ⟨J, ps1, acc, e, O1, p⟩ => hd Dl J ps1 acc H1 e O1 p
theorem comp_rng0 {n : Nat} (κ : Nat → Kn) (Pv : Nat → Hp → PL → List V → Prop) (O : Sta (κ 0) I ps H) (h0 : Pv 0 I ps [])
    (hs : ∀ Dl i J ps1 acc H1, i < n → Ex I J → Sta (κ i) J ((Dl, .lst acc) :: ps1) H1 → Pv i J ps1 acc → g (.int (i : Nat)) (wipe σ vs) H1 (CTurn I κ Pv tt te vs σ Dl i))
    (hd : ∀ p J ps1 acc H1, Ex I J → Sta (κ n) J ((p, .lst acc) :: ps1) H1 → Pv n J ps1 acc → Q (.ref p) H1) : CompR (Itr 0 n) g tt te vs σ H Q :=
  comp_rng κ Pv O h0 (fun Dl i J ps1 acc H1 hi e O1 p => by rw [Int.zero_add]; exact hs Dl i J ps1 acc H1 hi e O1 p) hd
end
end L3

namespace L3
open PySem PySem.Spec PyProof.Rows L2
def good : Nat → PyData → Prop
  | _, .none => True
  | _, .bool _ => True
  | _, .int i => i.natAbs.log2 < 1920
  | _, .str x => PyData.strOk x = true ∧ ∀ c ∈ x.cps.toList, c < 16 ^ 8
  | 0, .list _ => False
  | 0, .tuple _ => False
  | k + 1, .list xs => ∀ x ∈ xs, good k x
  | k + 1, .tuple xs => ∀ x ∈ xs, good k x
  | _, .dict _ => False
mutual
def nz : PyData → Nat
  | .none => 4
  | .bool _ => 5
  | .int _ => 1921
  | .str x => 10 * x.length + 4
  | .list xs => 3 + nzAll xs
  | .tuple xs => 3 + nzAll xs
  | .dict _ => 0
def nzAll : List PyData → Nat
  | [] => 0
  | x :: xs => nz x + 2 + nzAll xs
end
theorem log2_small {i : Int} (h : i.natAbs < 2 ^ 1919) : i.natAbs.log2 < 1920 := by
  by_cases h0 : i.natAbs = 0
  · rw [h0]; decide
  · exact Nat.lt_succ_of_lt ((Nat.log2_lt h0).mpr h)
theorem good_int {k : Nat} {i : Int} (h1 : -1000000000000000000000000 < i) (h2 : i < 1000000000000000000000000) : good k (.int i) := by
  have : i.natAbs.log2 < 1920 := log2_small (Nat.lt_trans (show i.natAbs < 1000000000000000000000000 by omega) (by decide))
  cases k <;> exact this
mutual
theorem good_show : ∀ (k : Nat) (d : PyData), good k d → d.showable = true
  | _, .none, _ => by simp only [PyData.showable]
  | _, .bool _, _ => by simp only [PyData.showable]
  | 0, .int i, h => by simpa [PyData.showable] using (show i.natAbs.log2 < 1920 from h)
  | k + 1, .int i, h => by simpa [PyData.showable] using (show i.natAbs.log2 < 1920 from h)
  | _, .str _, _ => by simp only [PyData.showable]
  | k + 1, .list xs, h => by simp only [PyData.showable]; exact goods_show k xs h
  | k + 1, .tuple xs, h => by simp only [PyData.showable]; exact goods_show k xs h
  | 0, .list _, h => h.elim
  | 0, .tuple _, h => h.elim
  | 0, .dict _, h => h.elim
  | k + 1, .dict _, h => h.elim
theorem goods_show : ∀ (k : Nat) (ds : List PyData), (∀ x ∈ ds, good k x) → PyData.showableAll ds = true
  | _, [], _ => by simp only [PyData.showableAll]
  | k, d :: ds, h => by simp only [PyData.showableAll, good_show k d (h d List.mem_cons_self), goods_show k ds fun x hx => h x (List.mem_cons_of_mem _ hx), Bool.and_self]
end
mutual
theorem good_depth : ∀ (k : Nat) (d : PyData), good k d → d.depth ≤ k
  | _, .none, _ => by simp only [PyData.depth]; omega
  | _, .bool _, _ => by simp only [PyData.depth]; omega
  | _, .int i, _ => by simp only [PyData.depth]; omega
  | _, .str _, _ => by simp only [PyData.depth]; omega
  | k + 1, .list xs, h => by simp only [PyData.depth]; have := goods_depth k xs h; omega
  | k + 1, .tuple xs, h => by simp only [PyData.depth]; have := goods_depth k xs h; omega
  | 0, .list _, h => h.elim
  | 0, .tuple _, h => h.elim
  | 0, .dict _, h => h.elim
  | k + 1, .dict _, h => h.elim
theorem goods_depth : ∀ (k : Nat) (ds : List PyData), (∀ x ∈ ds, good k x) → PyData.depthAll ds ≤ k
  | _, [], _ => by simp only [PyData.depthAll]; omega
  | k, d :: ds, h => by
    simp only [PyData.depthAll]
    have h1 := good_depth k d (h d List.mem_cons_self)
    have h2 := goods_depth k ds fun x hx => h x (List.mem_cons_of_mem _ hx)
    omega
end
mutual
theorem good_nz : ∀ (k : Nat) (d : PyData), good k d → d.shown.length ≤ nz d
  | _, .none, _ => by simp only [PyData.shown, nz]; decide
  | _, .bool b, _ => by cases b <;> simp only [PyData.shown, nz] <;> decide
  | 0, .int i, h => by simp only [PyData.shown, nz]; exact PyProof.Rows.int_text_len_1921 h
  | k + 1, .int i, h => by simp only [PyData.shown, nz]; exact PyProof.Rows.int_text_len_1921 h
  | 0, .str x, h => by simp only [PyData.shown, nz]; exact Nat.le_trans (StrLaws.reprText_len x h.2) (Nat.add_le_add_left (by decide) _)
  | k + 1, .str x, h => by simp only [PyData.shown, nz]; exact Nat.le_trans (StrLaws.reprText_len x h.2) (Nat.add_le_add_left (by decide) _)
  | k + 1, .list xs, h => by
    simp only [PyData.shown, nz]
    have h1 := listText_len_le (PyData.shownAll xs)
    have h2 := goods_nz k xs h
    omega
  | k + 1, .tuple xs, h => by
    simp only [PyData.shown, nz]
    have h1 := tupleText_len_le (PyData.shownAll xs)
    have h2 := goods_nz k xs h
    omega
  | 0, .list _, h => h.elim
  | 0, .tuple _, h => h.elim
  | 0, .dict _, h => h.elim
  | k + 1, .dict _, h => h.elim
theorem goods_nz : ∀ (k : Nat) (ds : List PyData), (∀ x ∈ ds, good k x) → ((PyData.shownAll ds).map (·.length)).sum + 2 * (PyData.shownAll ds).length ≤ nzAll ds
  | _, [], _ => by simp only [PyData.shownAll, nzAll]; decide
  | k, d :: ds, h => by
    simp only [PyData.shownAll, nzAll, List.map_cons, List.sum_cons, List.length_cons]
    have h1 := good_nz k d (h d List.mem_cons_self)
    have h2 := goods_nz k ds fun x hx => h x (List.mem_cons_of_mem _ hx)
    omega
end
section
variable {K : PySem.W.Frag} {κ : Kn} {I J H H1 H2 : Hp} {ps qs : PL} {a p l b : Addr} {xs ys : List V} {o u : HO} {v x y : V} {Q : VK} {σ σ2 : St} {D : Ends} {i j : Nat}
theorem shaped_intsL (ns : List Int) : SeqAt.shaped (.list (ns.map .int)) = true := by
  have h : ∀ ns : List Int, PyData.canLayAll0 (ns.map .int) = true ∧ PyData.depthAll (ns.map .int) = 0 := by
    intro ns
    induction ns with
    | nil => exact ⟨by simp only [List.map_nil, PyData.canLayAll0], by simp only [List.map_nil, PyData.depthAll]⟩
    | cons n ns ih => exact ⟨by simp only [List.map_cons, PyData.canLayAll0, PyData.canLay0, ih.1, Bool.and_self], by simp only [List.map_cons, PyData.depthAll, PyData.depth, ih.2, Nat.max_self]⟩
  unfold SeqAt.shaped
  simp only [PyData.canLay0, PyData.depth, (h ns).1, (h ns).2]
  rfl
theorem eqv_nil (ds : List PyData) : PyData.eqv (.list ds) (.list []) = decide (ds = []) := by
  cases ds with
  | nil => simp [PyData.eqv, PyData.eqvAll]
  | cons d ds => simp [PyData.eqv, PyData.eqvAll]
theorem at_nat {α : Type} {xs : List α} {j : Nat} {x : α} (h : xs[j]? = some x) : atI xs (j : Int) = some x := by
  have hj := (List.getElem?_eq_some_iff.mp h).1
  unfold atI ixN
  rw [if_pos (by omega), if_pos (by omega)]
  simpa using h
theorem at_int {α : Type} {xs : List α} {i : Int} (h0 : 0 ≤ i) (h1 : i < xs.length) : ∃ x, atI xs i = some x ∧ xs[i.toNat]? = some x := by
  have hj : i.toNat < xs.length := by omega
  refine ⟨xs[i.toNat], ?_, List.getElem?_eq_getElem hj⟩
  have := at_nat (List.getElem?_eq_getElem hj)
  rwa [Int.toNat_of_nonneg h0] at this
theorem map_at {α β : Type} {f : α → β} {xs : List α} {i : Nat} {y : β} (h : (xs.map f)[i]? = some y) : ∃ x, xs[i]? = some x ∧ y = f x := by
  rw [List.getElem?_map] at h
  cases e : xs[i]? with
  | none => rw [e] at h; cases h
  | some x => rw [e] at h; exact ⟨x, rfl, (Option.some.inj h).symm⟩
end
end L3

namespace L5
open PySem PySem.Spec PyProof.Rows L2 L3
abbrev St := L2.St
section
variable {X : Cx}
def rCatF (K : PySem.W.Frag) : R2 := fun x y H Q => ∃ a b xs ys, x = .ref a ∧ y = .ref b ∧ SqT K H a xs ∧ SqT K H b ys ∧ xs.length + ys.length ≤ sizeLine ∧
  (xs = [] → Q (.ref b) H) ∧ (xs ≠ [] → ys = [] → Q (.ref a) H) ∧ (xs ≠ [] → ys ≠ [] → NewT (xs ++ ys) H Q)
theorem op_catF : OpR X (binaryOp .Add) (rCatF X.K) := by
  intro pins s σ H x y v u Q I rx ry h
  obtain ⟨a, b, xs, ys, rfl, rfl, ha, hb, hz, q0, q1, q2⟩ := h
  cases rx
  cases ry
  obtain ⟨its, r1, p1, _⟩ := I.tuple ha
  obtain ⟨its2, r2, p2, _⟩ := I.tuple hb
  by_cases hx : xs = []
  · subst hx
    cases r1
    exact cat_tup0 p1 p2 ⟨.ref b, H, I, rfl, q0 rfl⟩
  · refine HT.cat_tup p1 p2 (fun z => hx (r1.nil_iff.mp z)) (fun z => ⟨.ref a, H, I, rfl, q1 hx (r2.nil_iff.mp z)⟩) (fun z => ?_) (by rw [← r1.length, ← r2.length]; exact hz)
    exact newT_run I (r1.append r2) (by rw [List.length_append]; exact hz) (q2 hx fun w => z (r2.nil_iff.mpr w))
def rSlF (K : PySem.W.Frag) : V → Option Int → Option Int → Hp → VK → Prop := fun x lo hi H Q => ∃ a xs, x = .ref a ∧ SqT K H a xs ∧
  (HT.sIx xs.length 0 lo = 0 ∧ HT.sIx xs.length xs.length hi = xs.length → Q (.ref a) H) ∧ (¬ (HT.sIx xs.length 0 lo = 0 ∧ HT.sIx xs.length xs.length hi = xs.length) → NewT (cutV xs lo hi) H Q)
theorem sl_tupF : SlR X (rSlF X.K) := by
  intro pins s σ H x v vl vu lo hi sl Q I rx hs pl pu h
  obtain ⟨a, xs, rfl, hx, q1, q2⟩ := h
  cases rx
  obtain ⟨its, r, ht, hz⟩ := I.tuple hx
  have hlen : its.toArray.size = xs.length := by rw [List.size_toArray]; exact r.length.symm
  refine ⟨"tuple", _, PyProof.Rows.slot_tuple_getitem.lookup, ht.typeIs, ?_⟩
  by_cases hw : HT.sIx xs.length 0 lo = 0 ∧ HT.sIx xs.length xs.length hi = xs.length
  · exact getItem_tuple_whole ht hs pl pu (by rw [hlen]; exact hw) ⟨.ref a, H, I, rfl, q1 hw⟩
  · refine HT.getItem_tuple_cut ht hs pl pu (by rw [hlen]; exact hw) ?_ (by rw [hlen]; exact hz)
    rw [hlen]
    exact newT_run I ((r.drop (HT.sIx xs.length 0 lo)).take (HT.sIx xs.length xs.length hi - HT.sIx xs.length 0 lo)) (Nat.le_trans (cutV_length xs lo hi) hz) (q2 hw)
end
inductive PV where
  | non
  | bl (b : Bool)
  | int (i : Int)
  | str (x : Str)
  | tup (xs : List PV)
  | lst (xs : List PV)
  | scr (ns : List Int)
  | own (k : Nat)
  | ty (n : String)
  | cls (C : Addr)
  | kt (xs : List PV)
  | ins (C : Addr) (N : List Str) (xs : List PV)
  | dct (ks : List Key) (xs : List PV)
  | exc (a : Addr) (d : Option Addr) (C : Addr) (N : List Str) (xs : List PV)
inductive AO where
  | lst (xs : List PV)
  | dct (ks : List Key) (xs : List PV)
  | dcT (ks : List (List Key)) (xs : List PV)
  | ins (C : Addr) (N : List Str) (xs : List PV)
  | tab (k : Nat) (P : Addr) (q : Str)
def KTup (K : PySem.W.Frag) (a : Addr) (us : List V) : Prop :=
  ∃ (o : Obj) (its : Array Value) (n : Nat), K.lookup a = some o ∧ o.cls = .type "tuple" ∧ o.data = .seq its n ∧ its.size ≤ sizeLine ∧ Vals us its.toList
theorem KTup.sq {K : PySem.W.Frag} {H : Hp} {a : Addr} {us : List V} (h : KTup K a us) : SqT K H a us := .inr h
structure ClsF (K : PySem.W.Frag) (C : Addr) (N : List Str) : Prop where
  cl : Cls K C
  nd : N.Nodup
  no : ∀ f ∈ N, NoAttr K C f
  ha : PySem.W.findIn K (.ref C) "__class__" = some (some (.builtin "object.__class__"))
  hn : PySem.W.specialIn K (.builtin "object.__class__") "__get__" = some (some (.builtin "getset_descriptor.__get__"))
  ht : PySem.W.takesIn K (.builtin "object.__class__") = some true
  hm : PySem.W.mroIn K C (.type "object") = some true
  few : N.length ≤ 900
abbrev Sto := List AO
abbrev AEnv := List (Option PV)
mutual
inductive VR (K : PySem.W.Frag) (I : Hp) (ad : List Addr) : V → PV → Prop where
  | non : VR K I ad .non .non
  | bl (b : Bool) : VR K I ad (.bl b) (.bl b)
  | int (i : Int) : VR K I ad (.int i) (.int i)
  | str (x : Str) : VR K I ad (.str x) (.str x)
  | tup {a : Addr} {us : List V} {xs : List PV} : TupF I a us → VRs K I ad us xs → VR K I ad (.ref a) (.tup xs)
  | lst {a : Addr} {us : List V} {xs : List PV} : I a = some (.lst us) → VRs K I ad us xs → VR K I ad (.ref a) (.lst xs)
  | scr {a : Addr} {ns : List Int} : SqL K I a (ns.map V.int) → VR K I ad (.ref a) (.scr ns)
  | own {a : Addr} {k : Nat} : ad[k]? = some a → VR K I ad (.ref a) (.own k)
  | ty (n : String) : VR K I ad (.ty n) (.ty n)
  | cls (C : Addr) : VR K I ad (.ref C) (.cls C)
  | kt {a : Addr} {us : List V} {xs : List PV} : KTup K a us → VRs K I ad us xs → VR K I ad (.ref a) (.kt xs)
  | ins {a C dx : Addr} {N : List Str} {fs : List (Str × V)} {xs : List PV} : I a = some (.ins C dx fs) → ClsF K C N → xs.length ≤ N.length → fs.map Prod.fst = N.take xs.length → VRs K I ad (fs.map Prod.snd) xs → VR K I ad (.ref a) (.ins C N xs)
  | dct {a : Addr} {kvs : List (Key × V)} {ks : List Key} {xs : List PV} : I a = some (.dK kvs) → kvs.map Prod.fst = ks → ks.Nodup → VRs K I ad (kvs.map Prod.snd) xs → VR K I ad (.ref a) (.dct ks xs)
  | exc0 (a C : Addr) : VR K I ad (.ref a) (.exc a none C [] [])
  | exc {a dd C : Addr} {N : List Str} {fs : List (Str × V)} {xs : List PV} : I dd = some (.xd fs) → fs.map Prod.fst = N → N.Nodup → VRs K I ad (fs.map Prod.snd) xs → VR K I ad (.ref a) (.exc a (some dd) C N xs)
inductive VRs (K : PySem.W.Frag) (I : Hp) (ad : List Addr) : List V → List PV → Prop where
  | nil : VRs K I ad [] []
  | cons {v : V} {p : PV} {vs : List V} {ps : List PV} : VR K I ad v p → VRs K I ad vs ps → VRs K I ad (v :: vs) (p :: ps)
end
structure Wd where
  I : Hp
  ad : List Addr
  fr : PL
structure Wd.Lo (W W' : Wd) : Prop where
  ex : Ex W.I W'.I
  ad : ∀ (k : Nat) (a : Addr), W.ad[k]? = some a → W'.ad[k]? = some a
structure Wd.Le (W W' : Wd) : Prop extends Wd.Lo W W' where
  fr : W'.fr = W.fr
theorem Wd.Lo.refl (W : Wd) : W.Lo W := ⟨Ex.refl _, fun _ _ h => h⟩
theorem Wd.Lo.trans {A B C : Wd} (h : A.Lo B) (k : B.Lo C) : A.Lo C := ⟨h.ex.trans k.ex, fun i a e => k.ad i a (h.ad i a e)⟩
theorem Wd.Le.refl (W : Wd) : W.Le W := ⟨.refl W, rfl⟩
theorem Wd.Le.trans {A B C : Wd} (h : A.Le B) (k : B.Le C) : A.Le C := ⟨h.toLo.trans k.toLo, k.fr.trans h.fr⟩
section
variable {K : PySem.W.Frag} {W W' : Wd}
mutual
theorem VR.up (l : W.Lo W') : ∀ {v : V} {p : PV}, VR K W.I W.ad v p → VR K W'.I W'.ad v p
  | _, _, .non => .non
  | _, _, .bl b => .bl b
  | _, _, .int i => .int i
  | _, _, .str x => .str x
  | _, _, .tup h hs => .tup (TupF.up l.ex h) (VRs.up l hs)
  | _, _, .lst h hs => .lst (l.ex _ _ h) (VRs.up l hs)
  | _, _, .scr h => .scr (SqL.up l.ex h)
  | _, _, .own h => .own (l.ad _ _ h)
  | _, _, .ty n => .ty n
  | _, _, .cls C => .cls C
  | _, _, .kt h hs => .kt h (VRs.up l hs)
  | _, _, .ins h c z e hs => .ins (l.ex _ _ h) c z e (VRs.up l hs)
  | _, _, .dct h e n hs => .dct (l.ex _ _ h) e n (VRs.up l hs)
  | _, _, .exc0 a C => .exc0 a C
  | _, _, .exc h e n hs => .exc (l.ex _ _ h) e n (VRs.up l hs)
theorem VRs.up (l : W.Lo W') : ∀ {vs : List V} {ps : List PV}, VRs K W.I W.ad vs ps → VRs K W'.I W'.ad vs ps
  | _, _, .nil => .nil
  | _, _, .cons h hs => .cons (VR.up l h) (VRs.up l hs)
end
variable {I : Hp} {ad : List Addr}
theorem VRs.length {vs : List V} {ps : List PV} (h : VRs K I ad vs ps) : vs.length = ps.length := by
  induction vs generalizing ps with
  | nil => cases h; rfl
  | cons v vs ih => cases h with | cons _ h => rw [List.length_cons, List.length_cons, ih h]
theorem VRs.get {vs : List V} {ps : List PV} (h : VRs K I ad vs ps) {i : Nat} {p : PV} (e : ps[i]? = some p) : ∃ v, vs[i]? = some v ∧ VR K I ad v p := by
  induction vs generalizing ps i with
  | nil => cases h; cases e
  | cons v vs ih =>
    cases h with
    | cons h hs =>
      cases i with
      | zero => cases e; exact ⟨v, rfl, h⟩
      | succ i => exact ih hs e
theorem VRs.getV {vs : List V} {ps : List PV} (h : VRs K I ad vs ps) {i : Nat} {v : V} (e : vs[i]? = some v) : ∃ p, ps[i]? = some p ∧ VR K I ad v p := by
  induction vs generalizing ps i with
  | nil => cases h; cases e
  | cons v' vs ih =>
    cases h with
    | cons h hs =>
      cases i with
      | zero => cases e; exact ⟨_, rfl, h⟩
      | succ i => exact ih hs e
theorem VRs.append {vs us : List V} {ps qs : List PV} (h : VRs K I ad vs ps) (k : VRs K I ad us qs) : VRs K I ad (vs ++ us) (ps ++ qs) := by
  induction vs generalizing ps with
  | nil => cases h; exact k
  | cons v vs ih => cases h with | cons h hs => exact .cons h (ih hs)
theorem VRs.drop {vs : List V} {ps : List PV} (h : VRs K I ad vs ps) (n : Nat) : VRs K I ad (vs.drop n) (ps.drop n) := by
  induction n generalizing vs ps with
  | zero => exact h
  | succ n ih => cases h with
    | nil => exact .nil
    | cons _ hs => exact ih hs
theorem VRs.take {vs : List V} {ps : List PV} (h : VRs K I ad vs ps) (n : Nat) : VRs K I ad (vs.take n) (ps.take n) := by
  induction n generalizing vs ps with
  | zero => exact .nil
  | succ n ih => cases h with
    | nil => exact .nil
    | cons h hs => exact .cons h (ih hs)
theorem VRs.reverse {vs : List V} {ps : List PV} (h : VRs K I ad vs ps) : VRs K I ad vs.reverse ps.reverse := by
  induction vs generalizing ps with
  | nil => cases h; exact .nil
  | cons v vs ih => cases h with | cons h hs => rw [List.reverse_cons, List.reverse_cons]; exact (ih hs).append (.cons h .nil)
theorem VRs.set {vs : List V} {ps : List PV} (h : VRs K I ad vs ps) {v : V} {p : PV} (hv : VR K I ad v p) (n : Nat) : VRs K I ad (vs.set n v) (ps.set n p) := by
  induction n generalizing vs ps with
  | zero => cases h with
    | nil => exact .nil
    | cons _ hs => exact .cons hv hs
  | succ n ih => cases h with
    | nil => exact .nil
    | cons h hs => exact .cons h (ih hs)
theorem VRs.dropLast {vs : List V} {ps : List PV} (h : VRs K I ad vs ps) : VRs K I ad vs.dropLast ps.dropLast := by
  rw [List.dropLast_eq_take, List.dropLast_eq_take, h.length]
  exact h.take _
theorem VRs.flat {vs : List V} {ps : List PV} (h : VRs K I ad vs ps) : ∀ n : Nat, VRs K I ad (List.replicate n vs).flatten (List.replicate n ps).flatten
  | 0 => .nil
  | n + 1 => by
    rw [List.replicate_succ, List.flatten_cons, List.replicate_succ, List.flatten_cons]
    exact h.append (h.flat n)
theorem VRs.ints (ns : List Int) : VRs K I ad (ns.map V.int) (ns.map PV.int) := by
  induction ns with
  | nil => exact .nil
  | cons n ns ih => exact .cons (.int n) ih
theorem VRs.cut {vs : List V} {ps : List PV} (h : VRs K I ad vs ps) (lo hi : Option Int) : VRs K I ad (cutV vs lo hi) ((ps.drop (HT.sIx ps.length 0 lo)).take (HT.sIx ps.length ps.length hi - HT.sIx ps.length 0 lo)) := by
  unfold cutV
  rw [h.length]
  exact (h.drop _).take _
def TabI (I : Hp) (q : Str) (ps : Array Value) : Prop := TriplesOk ps.toList ∧ ∀ (pos : Pos) (cv : Value), codeAmong pos ps.toList = some cv → ∃ c, cv = .ref c ∧ I c = some (LamX.CodeO c q)
theorem TabI.up {I J : Hp} {q : Str} {ps : Array Value} (h : TabI I q ps) (e : Ex I J) : TabI J q ps := ⟨h.1, fun pos cv k => let ⟨c, e1, e2⟩ := h.2 pos cv k; ⟨c, e1, e _ _ e2⟩⟩
inductive OR (K : PySem.W.Frag) (I : Hp) (ad : List Addr) : HO → AO → Prop where
  | lst {us : List V} {xs : List PV} : VRs K I ad us xs → OR K I ad (.lst us) (.lst xs)
  | dct {kvs : List (Key × V)} {ks : List Key} {xs : List PV} : kvs.map Prod.fst = ks → ks.Nodup → VRs K I ad (kvs.map Prod.snd) xs → OR K I ad (.dK kvs) (.dct ks xs)
  | dcT {kvs : List (List Key × V)} {ks : List (List Key)} {xs : List PV} : kvs.map Prod.fst = ks → ks.Nodup → VRs K I ad (kvs.map Prod.snd) xs → OR K I ad (.dT kvs) (.dcT ks xs)
  | ins {C dx : Addr} {N : List Str} {fs : List (Str × V)} {xs : List PV} : ClsF K C N → xs.length ≤ N.length → fs.map Prod.fst = N.take xs.length → VRs K I ad (fs.map Prod.snd) xs → OR K I ad (.ins C dx fs) (.ins C N xs)
  | tab {k : Nat} {P : Addr} {q : Str} {ps : Array Value} : ad[k]? = some P → TabI I q ps → OR K I ad (.tbl ps) (.tab k P q)
theorem OR.up (l : W.Lo W') {o : HO} {a : AO} (h : OR K W.I W.ad o a) : OR K W'.I W'.ad o a := by
  cases h with
  | lst h => exact .lst (h.up l)
  | dct e n h => exact .dct e n (h.up l)
  | dcT e n h => exact .dcT e n (h.up l)
  | ins c z e h => exact .ins c z e (h.up l)
  | tab h t => exact .tab (l.ad _ _ h) (t.up l.ex)
structure In (K : PySem.W.Frag) (W : Wd) (S : Sto) (H : Hp) : Prop where
  ex : ∃ os : List HO, Own W.I (W.ad.zip os ++ W.fr) H ∧ os.length = W.ad.length ∧ os.length = S.length ∧ ∀ (k : Nat) (o : HO) (a : AO), os[k]? = some o → S[k]? = some a → OR K W.I W.ad o a
  fr : ∀ p ∈ W.fr, ∀ us, p.2 ≠ HO.tup us
theorem In.view {S : Sto} {H : Hp} (h : In K W S H) : ∃ ps, Sta .own W.I ps H ∧ ∀ J H2, Ex W.I J → Sta .own J ps H2 → In K ⟨J, W.ad, W.fr⟩ S H2 ∧ W.Le ⟨J, W.ad, W.fr⟩ := by
  obtain ⟨os, O, h1, h2, h3⟩ := h.ex
  refine ⟨_, O, fun J H2 e O2 => ?_⟩
  have l : W.Le ⟨J, W.ad, W.fr⟩ := ⟨⟨e, fun _ _ h => h⟩, rfl⟩
  exact ⟨⟨⟨os, O2, h1, h2, fun k o a q1 q2 => (h3 k o a q1 q2).up l.toLo⟩, h.fr⟩, l⟩
theorem In.exH {S : Sto} {H : Hp} (h : In K W S H) : Ex W.I H := let ⟨_, O, _⟩ := h.ex; O.ex
theorem zip_get {α β : Type} {xs : List α} {ys : List β} {k : Nat} {x : α} {y : β} (h1 : xs[k]? = some x) (h2 : ys[k]? = some y) : (xs.zip ys)[k]? = some (x, y) := by
  rw [List.getElem?_zip_eq_some]
  exact ⟨h1, h2⟩
theorem In.atG {S : Sto} {H : Hp} (h : In K W S H) {v : V} {k : Nat} {ao : AO} (hv : VR K W.I W.ad v (.own k)) (hk : S[k]? = some ao) :
    ∃ a o, v = .ref a ∧ H a = some o ∧ OR K W.I W.ad o ao ∧ ∀ o' ao', OR K W.I W.ad o' ao' → In K W (S.set k ao') (upd H a o') := by
  obtain ⟨os, O, h1, h2, h3⟩ := h.ex
  cases hv with
  | own ha =>
    rename_i a
    have hlt : k < os.length := by rw [h2]; exact (List.getElem?_eq_some_iff.mp hk).1
    have ho : os[k]? = some os[k] := List.getElem?_eq_getElem hlt
    have hr := h3 k _ _ ho hk
    generalize os[k] = o at ho hr
    have hz : (W.ad.zip os ++ W.fr)[k]? = some (a, o) := by
      rw [List.getElem?_append_left (by rw [List.length_zip, ← h1, Nat.min_self]; exact hlt)]
      exact zip_get ha ho
    refine ⟨a, o, rfl, O.ix hz, hr, fun o' ao' hr' => ⟨⟨os.set k o', ?_, by rw [List.length_set]; exact h1, by rw [List.length_set, List.length_set]; exact h2, fun j o2 a2 q1 q2 => ?_⟩, h.fr⟩⟩
    · have O2 := O.set (u := o') hz
      have e : (W.ad.zip os ++ W.fr).set k (a, o') = W.ad.zip (os.set k o') ++ W.fr := by
        rw [List.set_append_left _ _ (by rw [List.length_zip, ← h1, Nat.min_self]; exact hlt)]
        congr 1
        apply List.ext_getElem?
        intro j
        rw [List.getElem?_set]
        split
        · rename_i e
          subst e
          rw [if_pos (by rw [List.length_zip, ← h1, Nat.min_self]; exact hlt)]
          exact (zip_get ha (by rw [List.getElem?_set_self hlt])).symm
        · rename_i e
          simp only [List.zip, List.getElem?_zipWith, List.getElem?_set_ne e]
      rw [← e]
      exact O2
    · rw [List.getElem?_set] at q1 q2
      by_cases e : k = j
      · subst e
        rw [if_pos rfl, if_pos hlt] at q1
        rw [if_pos rfl, if_pos (by rw [← h2]; exact hlt)] at q2
        cases q1
        cases q2
        exact hr'
      · rw [if_neg e] at q1 q2
        exact h3 j o2 a2 q1 q2
theorem In.at {S : Sto} {H : Hp} (h : In K W S H) {v : V} {k : Nat} {xs : List PV} (hv : VR K W.I W.ad v (.own k)) (hk : S[k]? = some (.lst xs)) :
    ∃ a us, v = .ref a ∧ H a = some (.lst us) ∧ VRs K W.I W.ad us xs ∧ ∀ us' xs', VRs K W.I W.ad us' xs' → In K W (S.set k (.lst xs')) (upd H a (.lst us')) := by
  obtain ⟨a, o, e, ha, r, up⟩ := h.atG hv hk
  cases r with
  | lst r => exact ⟨a, _, e, ha, r, fun us' xs' r' => up _ _ (.lst r')⟩
theorem In.atD {S : Sto} {H : Hp} (h : In K W S H) {v : V} {k : Nat} {ks : List Key} {xs : List PV} (hv : VR K W.I W.ad v (.own k)) (hk : S[k]? = some (.dct ks xs)) :
    ∃ a kvs, v = .ref a ∧ H a = some (.dK kvs) ∧ kvs.map Prod.fst = ks ∧ ks.Nodup ∧ VRs K W.I W.ad (kvs.map Prod.snd) xs ∧ ∀ kvs' ks' xs', kvs'.map Prod.fst = ks' → ks'.Nodup → VRs K W.I W.ad (kvs'.map Prod.snd) xs' → In K W (S.set k (.dct ks' xs')) (upd H a (.dK kvs')) := by
  obtain ⟨a, o, e, ha, r, up⟩ := h.atG hv hk
  cases r with
  | dct e2 n r => exact ⟨a, _, e, ha, e2, n, r, fun kvs' ks' xs' e' n' r' => up _ _ (.dct e' n' r')⟩
theorem In.atI {S : Sto} {H : Hp} (h : In K W S H) {v : V} {k : Nat} {C : Addr} {N : List Str} {xs : List PV} (hv : VR K W.I W.ad v (.own k)) (hk : S[k]? = some (.ins C N xs)) :
    ∃ a dx fs, v = .ref a ∧ H a = some (.ins C dx fs) ∧ ClsF K C N ∧ xs.length ≤ N.length ∧ fs.map Prod.fst = N.take xs.length ∧ VRs K W.I W.ad (fs.map Prod.snd) xs ∧
      ∀ dx' fs' xs', xs'.length ≤ N.length → fs'.map Prod.fst = N.take xs'.length → VRs K W.I W.ad (fs'.map Prod.snd) xs' → In K W (S.set k (.ins C N xs')) (upd H a (.ins C dx' fs')) := by
  obtain ⟨a, o, e, ha, r, up⟩ := h.atG hv hk
  cases r with
  | ins c z e2 r => exact ⟨a, _, _, e, ha, c, z, e2, r, fun dx' fs' xs' z' e' r' => up _ _ (.ins c z' e' r')⟩
theorem In.ownG {S : Sto} {H : Hp} (h : In K W S H) {p : Addr} {o : HO} {ao : AO} (hp : H p = none) (hr : OR K W.I W.ad o ao) :
    In K ⟨W.I, W.ad ++ [p], W.fr⟩ (S ++ [ao]) (upd H p o) ∧ W.Le ⟨W.I, W.ad ++ [p], W.fr⟩ ∧ VR K W.I (W.ad ++ [p]) (.ref p) (.own S.length) := by
  obtain ⟨os, O, h1, h2, h3⟩ := h.ex
  have l : W.Le ⟨W.I, W.ad ++ [p], W.fr⟩ := ⟨⟨Ex.refl _, fun k a e => by
    show (W.ad ++ [p])[k]? = some a
    rw [List.getElem?_append_left (List.getElem?_eq_some_iff.mp e).1]; exact e⟩, rfl⟩
  refine ⟨⟨⟨os ++ [o], ?_, by simp [h1], by simp [h2], fun k o2 a q1 q2 => ?_⟩, h.fr⟩, l, .own (by rw [← h2, h1]; simp)⟩
  · have O2 := O.own (o := o) hp
    refine O2.perm ?_
    rw [List.zip_append h1.symm, List.append_assoc]
    exact List.perm_middle
  · by_cases e : k < os.length
    · rw [List.getElem?_append_left e] at q1
      rw [List.getElem?_append_left (by rw [← h2]; exact e)] at q2
      exact (h3 k o2 a q1 q2).up l.toLo
    · rw [List.getElem?_append_right (by omega)] at q1
      rw [List.getElem?_append_right (by omega), ← h2] at q2
      cases z : k - os.length with
      | zero =>
        rw [z] at q1 q2
        cases q1
        cases q2
        exact hr.up l.toLo
      | succ n => rw [z] at q1; cases q1
theorem In.own {S : Sto} {H : Hp} (h : In K W S H) {p : Addr} {us : List V} {xs : List PV} (hp : H p = none) (hr : VRs K W.I W.ad us xs) :
    In K ⟨W.I, W.ad ++ [p], W.fr⟩ (S ++ [.lst xs]) (upd H p (.lst us)) ∧ W.Le ⟨W.I, W.ad ++ [p], W.fr⟩ ∧ VR K W.I (W.ad ++ [p]) (.ref p) (.own S.length) := h.ownG hp (.lst hr)
theorem In.push {S : Sto} {H : Hp} (h : In K W S H) {p : Addr} {o : HO} (hp : H p = none) (ho : ∀ us, o ≠ HO.tup us := by intro _ e; cases e) : In K ⟨W.I, W.ad, (p, o) :: W.fr⟩ S (upd H p o) := by
  obtain ⟨os, O, h1, h2, h3⟩ := h.ex
  exact ⟨⟨os, (O.own hp).perm List.perm_middle, h1, h2, h3⟩, fun q hq => by
    rcases List.mem_cons.mp hq with rfl | hq
    · exact ho
    · exact h.fr q hq⟩
theorem In.pop {I : Hp} {ad : List Addr} {fr : PL} {p : Addr} {o : HO} {S : Sto} {H : Hp} (h : In K ⟨I, ad, (p, o) :: fr⟩ S H) : H p = some o ∧ ∀ (u : HO) (_ : ∀ us, u ≠ HO.tup us := by intro _ e; cases e), In K ⟨I, ad, (p, u) :: fr⟩ S (upd H p u) := by
  obtain ⟨os, O, h1, h2, h3⟩ := h.ex
  have O1 : Own I ((p, o) :: (ad.zip os ++ fr)) H := O.perm List.perm_middle.symm
  refine ⟨O1.ix (i := 0) rfl, fun u hu => ⟨⟨os, ?_, h1, h2, h3⟩, fun q hq => by
    rcases List.mem_cons.mp hq with rfl | hq
    · exact hu
    · exact h.fr q (List.mem_cons_of_mem _ hq)⟩⟩
  exact (O1.set (i := 0) (u := u) rfl).perm List.perm_middle
theorem In.fin {I : Hp} {ad : List Addr} {fr : PL} {p : Addr} {us : List V} {xs : List PV} {S : Sto} {H : Hp} (h : In K ⟨I, ad, (p, .lst us) :: fr⟩ S H) (hr : VRs K I ad us xs) :
    In K ⟨upd I p (.lst us), ad, fr⟩ S H ∧ Wd.Lo ⟨I, ad, fr⟩ ⟨upd I p (.lst us), ad, fr⟩ ∧ VR K (upd I p (.lst us)) ad (.ref p) (.lst xs) := by
  obtain ⟨os, O, h1, h2, h3⟩ := h.ex
  have O1 : Own I ((p, .lst us) :: (ad.zip os ++ fr)) H := O.perm List.perm_middle.symm
  have l : Wd.Lo ⟨I, ad, fr⟩ ⟨upd I p (.lst us), ad, fr⟩ := ⟨O1.exf, fun _ _ e => e⟩
  exact ⟨⟨⟨os, O1.freeze, h1, h2, fun k o a q1 q2 => (h3 k o a q1 q2).up l⟩, fun q hq => h.fr q (List.mem_cons_of_mem _ hq)⟩, l, .lst upd_same (hr.up l)⟩
theorem In.finG {I : Hp} {ad : List Addr} {fr : PL} {p : Addr} {o : HO} {ao : AO} {S : Sto} {H : Hp} (h : In K ⟨I, ad, (p, o) :: fr⟩ S H) (hr : OR K I ad o ao) :
    In K ⟨I, ad ++ [p], fr⟩ (S ++ [ao]) H ∧ Wd.Lo ⟨I, ad, fr⟩ ⟨I, ad ++ [p], fr⟩ ∧ VR K I (ad ++ [p]) (.ref p) (.own S.length) := by
  obtain ⟨os, O, h1, h2, h3⟩ := h.ex
  have h1 : os.length = ad.length := h1
  have l : Wd.Lo ⟨I, ad, fr⟩ ⟨I, ad ++ [p], fr⟩ := ⟨Ex.refl _, fun k a e => by
    show (ad ++ [p])[k]? = some a
    rw [List.getElem?_append_left (List.getElem?_eq_some_iff.mp e).1]; exact e⟩
  refine ⟨⟨⟨os ++ [o], ?_, by simp [h1], by simp [h2], fun k o2 a q1 q2 => ?_⟩, fun q hq => h.fr q (List.mem_cons_of_mem _ hq)⟩, l, .own (by rw [← h2, h1]; simp)⟩
  · have O1 : Own I ((p, o) :: (ad.zip os ++ fr)) H := O.perm List.perm_middle.symm
    refine O1.perm ?_
    show ((ad ++ [p]).zip (os ++ [o]) ++ fr).Perm _
    rw [List.zip_append h1.symm, List.append_assoc]
    exact List.perm_middle
  · by_cases e : k < os.length
    · rw [List.getElem?_append_left e] at q1
      rw [List.getElem?_append_left (by rw [← h2]; exact e)] at q2
      exact (h3 k o2 a q1 q2).up l
    · rw [List.getElem?_append_right (by omega)] at q1
      rw [List.getElem?_append_right (by omega), ← h2] at q2
      cases z : k - os.length with
      | zero =>
        rw [z] at q1 q2
        cases q1
        cases q2
        exact hr.up l
      | succ n => rw [z] at q1; cases q1
theorem In.keep {I : Hp} {ad : List Addr} {fr : PL} {p : Addr} {o : HO} {S : Sto} {H : Hp} (h : In K ⟨I, ad, (p, o) :: fr⟩ S H) : In K ⟨upd I p o, ad, fr⟩ S H ∧ Wd.Lo ⟨I, ad, fr⟩ ⟨upd I p o, ad, fr⟩ := by
  obtain ⟨os, O, h1, h2, h3⟩ := h.ex
  have O1 : Own I ((p, o) :: (ad.zip os ++ fr)) H := O.perm List.perm_middle.symm
  have l : Wd.Lo ⟨I, ad, fr⟩ ⟨upd I p o, ad, fr⟩ := ⟨O1.exf, fun _ _ e => e⟩
  exact ⟨⟨⟨os, O1.freeze, h1, h2, fun k o a q1 q2 => (h3 k o a q1 q2).up l⟩, fun q hq => h.fr q (List.mem_cons_of_mem _ hq)⟩, l⟩
inductive ER (K : PySem.W.Frag) (W : Wd) : St → AEnv → Prop where
  | nil : ER K W [] []
  | any {x : Option V} {σ : St} {ρ : AEnv} : ER K W σ ρ → ER K W (x :: σ) (none :: ρ)
  | cons {v : V} {p : PV} {σ : St} {ρ : AEnv} : VR K W.I W.ad v p → ER K W σ ρ → ER K W (some v :: σ) (some p :: ρ)
theorem ER.up (l : W.Lo W') {σ : St} {ρ : AEnv} (h : ER K W σ ρ) : ER K W' σ ρ := by
  induction h with
  | nil => exact .nil
  | any _ ih => exact .any ih
  | cons h _ ih => exact .cons (h.up l) ih
@[reducible] def look : AEnv → Nat → Option PV
  | [], _ => none
  | x :: _, 0 => x
  | _ :: r, n + 1 => look r n
@[reducible] def put : AEnv → Nat → PV → AEnv
  | [], _, _ => []
  | _ :: r, 0, p => some p :: r
  | x :: r, n + 1, p => x :: put r n p
@[reducible] def hide : AEnv → Nat → AEnv
  | [], _ => []
  | _ :: r, 0 => none :: r
  | x :: r, n + 1 => x :: hide r n
@[reducible] def hides : AEnv → List Nat → AEnv
  | ρ, [] => ρ
  | ρ, v :: vs => hide (hides ρ vs) v
theorem ER.look {σ : St} {ρ : AEnv} (h : ER K W σ ρ) : ∀ {i : Nat} {p : PV}, look ρ i = some p → ∃ v, σ[i]? = some (some v) ∧ VR K W.I W.ad v p := by
  induction h with
  | nil => intro i p e; cases e
  | any _ ih =>
    intro i p e
    cases i with
    | zero => cases e
    | succ i => exact ih e
  | cons h _ ih =>
    intro i p e
    cases i with
    | zero => cases e; exact ⟨_, rfl, h⟩
    | succ i => exact ih e
theorem ER.put {σ : St} {ρ : AEnv} (h : ER K W σ ρ) {v : V} {p : PV} (hv : VR K W.I W.ad v p) : ∀ i : Nat, ER K W (σ.set i (some v)) (put ρ i p) := by
  induction h with
  | nil => intro i; exact .nil
  | any h ih =>
    intro i
    cases i with
    | zero => exact .cons hv h
    | succ i => exact .any (ih i)
  | cons h hs ih =>
    intro i
    cases i with
    | zero => exact .cons hv hs
    | succ i => exact .cons h (ih i)
theorem ER.hide {σ : St} {ρ : AEnv} (h : ER K W σ ρ) : ∀ i : Nat, ER K W (σ.set i none) (hide ρ i) := by
  induction h with
  | nil => intro i; exact .nil
  | any h ih =>
    intro i
    cases i with
    | zero => exact .any h
    | succ i => exact .any (ih i)
  | cons h hs ih =>
    intro i
    cases i with
    | zero => exact .any hs
    | succ i => exact .cons h (ih i)
theorem ER.wipe {σ : St} {ρ : AEnv} (h : ER K W σ ρ) : ∀ vs : List Nat, ER K W (wipe σ vs) (hides ρ vs)
  | [] => h
  | v :: vs => (h.wipe vs).hide v
end
end L5

namespace L3
open PySem PySem.Spec PyProof.Rows L2
section
variable {X : Cx} {CX : CXT} {k j n : Nat} {f C q g : Addr} {fd : FuncData} {ps ks : List Str} {sp : Sp} {E : XK} {x m : Str} {p pos apos np : Pos} {e o : Expr} {es : List Expr} {kws : List Keyword} {ta : TE} {t tk : TA}
structure Cm (P : Program) (w : World) (K : PySem.W.Frag) (mg : Str → Option Value) (base : Heap) (CX : CXT) (k : Nat) (C : Addr) (m : Str) (sp : Sp) : Prop where
  ex : ∃ (f : Addr) (fd : FuncData) (ps : List Str), FnG P w K mg base CX k f fd ps sp ∧ Meth K C m f ∧ Binds K fd ps []
theorem Cm.mono {P : Program} {w : World} {K : PySem.W.Frag} {mg : Str → Option Value} {base : Heap} (c : Cm P w K mg base CX k C m sp) (h : k ≤ j) : Cm P w K mg base CX j C m sp := by
  obtain ⟨f, fd, ps, F, a, b⟩ := c.ex
  exact ⟨⟨f, fd, ps, F.mono h, a, b⟩⟩
theorem Cg.mono {P : Program} {w : World} {K : PySem.W.Frag} {mg : Str → Option Value} {base : Heap} (c : Cg P w K mg base CX k x sp) (h : k ≤ j) : Cg P w K mg base CX j x sp := by
  obtain ⟨f, fd, ps, F, a, b, d⟩ := c.ex
  exact ⟨⟨f, fd, ps, F.mono h, a, b, d⟩⟩
end
end L3

namespace L5
open PySem PySem.Spec PyProof.Rows L2 L3
abbrev AV := PV → Sto → Prop
abbrev ATE := AEnv → Sto → AV → Prop
abbrev ATT := AEnv → Sto → (Bool → Sto → Prop) → Prop
abbrev ATA := AEnv → Sto → (List PV → Sto → Prop) → Prop
abbrev A1 := PV → Sto → AV → Prop
abbrev A2 := PV → PV → Sto → AV → Prop
abbrev AL := List PV → Sto → AV → Prop
abbrev AM := PV → List PV → Sto → AV → Prop
structure newO (S : Sto) (o : AO) (P : AV) : Prop where
  h : P (.own S.length) (S ++ [o])
theorem r_new {S S' : Sto} {o : AO} {P : AV} {k : Nat} (e1 : S.length = k) (e2 : S ++ [o] = S') (h : P (.own k) S') : newO S o P := ⟨by subst e1 e2; exact h⟩
section
variable (K : PySem.W.Frag) (W : Wd)
def CE (P : AV) (Q : VK) : Prop := ∀ W' S v p H, W.Le W' → In K W' S H → VR K W'.I W'.ad v p → P p S → Q v H
def CT (P : Bool → Sto → Prop) (Q : Bool → Hp → Prop) : Prop := ∀ W' S b H, W.Le W' → In K W' S H → P b S → Q b H
def CA (P : List PV → Sto → Prop) (Q : List V → Hp → Prop) : Prop := ∀ W' S vs ps H, W.Le W' → In K W' S H → VRs K W'.I W'.ad vs ps → P ps S → Q vs H
end
section
variable (K : PySem.W.Frag)
structure SE (te : TE) (f : ATE) : Prop where
  run : ∀ {W S σ ρ H Q P}, In K W S H → ER K W σ ρ → f ρ S P → CE K W P Q → te σ H Q
structure STs (tt : TT) (f : ATT) : Prop where
  run : ∀ {W S σ ρ H Q P}, In K W S H → ER K W σ ρ → f ρ S P → CT K W P Q → tt σ H Q
structure SA (ta : TA) (f : ATA) : Prop where
  run : ∀ {W S σ ρ H Q P}, In K W S H → ER K W σ ρ → f ρ S P → CA K W P Q → ta σ H Q
structure S1 (r : V → Hp → VK → Prop) (f : A1) : Prop where
  run : ∀ {W S x p H Q P}, In K W S H → VR K W.I W.ad x p → f p S P → CE K W P Q → r x H Q
structure SO (r : R2) (f : A2) : Prop where
  run : ∀ {W S x y p q H Q P}, In K W S H → VR K W.I W.ad x p → VR K W.I W.ad y q → f p q S P → CE K W P Q → r x y H Q
structure SL (r : List V → Hp → VK → Prop) (f : AL) : Prop where
  run : ∀ {W S xs ps H Q P}, In K W S H → VRs K W.I W.ad xs ps → f ps S P → CE K W P Q → r xs H Q
structure SM (r : V → List V → Hp → VK → Prop) (f : AM) : Prop where
  run : ∀ {W S x p xs ps H Q P}, In K W S H → VR K W.I W.ad x p → VRs K W.I W.ad xs ps → f p ps S P → CE K W P Q → r x xs H Q
end
section
variable {K : PySem.W.Frag} {W W' : Wd} {S : Sto} {H : Hp} {P : AV} {Q : VK}
theorem CE.up (l : W.Le W') (c : CE K W P Q) : CE K W' P Q := fun W2 S v p H k I r h => c W2 S v p H (l.trans k) I r h
theorem CT.up {P : Bool → Sto → Prop} {Q : Bool → Hp → Prop} (l : W.Le W') (c : CT K W P Q) : CT K W' P Q := fun W2 S b H k I h => c W2 S b H (l.trans k) I h
theorem CA.up {P : List PV → Sto → Prop} {Q : List V → Hp → Prop} (l : W.Le W') (c : CA K W P Q) : CA K W' P Q := fun W2 S vs ps H k I r h => c W2 S vs ps H (l.trans k) I r h
theorem CE.at (c : CE K W P Q) (I : In K W S H) {v : V} {p : PV} (r : VR K W.I W.ad v p) (h : P p S) : Q v H := c W S v p H (.refl W) I r h
theorem In.newT (I : In K W S H) {us : List V} {xs : List PV} (r : VRs K W.I W.ad us xs) (c : CE K W P Q) (h : P (.tup xs) S) : NewT us H Q := by
  obtain ⟨ps, O, gr⟩ := I.view
  refine O.newT fun p J H2 O2 e hp => ?_
  obtain ⟨I2, l⟩ := gr J H2 e O2
  exact c _ S _ _ H2 l I2 (.tup hp (r.up l.toLo)) h
theorem In.newL (I : In K W S H) {us : List V} {xs : List PV} (r : VRs K W.I W.ad us xs) (c : CE K W P Q) (h : P (.lst xs) S) : ∀ p, H p = none → Q (.ref p) (upd H p (.lst us)) := by
  obtain ⟨ps, O, gr⟩ := I.view
  refine O.newO fun p J H2 O2 e hp => ?_
  obtain ⟨I2, l⟩ := gr J H2 e O2
  exact c _ S _ _ H2 l I2 (.lst hp (r.up l.toLo)) h
theorem In.newO (I : In K W S H) {us : List V} {xs : List PV} (r : VRs K W.I W.ad us xs) (c : CE K W P Q) (h : newO S (.lst xs) P) : ∀ p, H p = none → Q (.ref p) (upd H p (.lst us)) := fun p hp => by
  obtain ⟨I2, l, r2⟩ := I.own hp r
  exact c _ _ _ _ _ l I2 r2 h.h
@[reducible] def aoL (o : AO) : Option (List PV) := match o with
  | .lst xs => some xs
  | _ => none
@[reducible] def aoD (o : AO) : Option (List Key × List PV) := match o with
  | .dct ks xs => some (ks, xs)
  | _ => none
@[reducible] def aoI (o : AO) : Option (Addr × List Str × List PV) := match o with
  | .ins C N xs => some (C, N, xs)
  | _ => none
@[reducible] def sget : Sto → Nat → Option (List PV)
  | [], _ => none
  | o :: _, 0 => aoL o
  | _ :: r, n + 1 => sget r n
@[reducible] def sgetD : Sto → Nat → Option (List Key × List PV)
  | [], _ => none
  | o :: _, 0 => aoD o
  | _ :: r, n + 1 => sgetD r n
@[reducible] def sgetI : Sto → Nat → Option (Addr × List Str × List PV)
  | [], _ => none
  | o :: _, 0 => aoI o
  | _ :: r, n + 1 => sgetI r n
@[reducible] def spo : Sto → Nat → AO → Sto
  | [], _, _ => []
  | _ :: r, 0, x => x :: r
  | o :: r, n + 1, x => o :: spo r n x
theorem spo_eq : ∀ (S : Sto) (k : Nat) (x : AO), spo S k x = S.set k x
  | [], _, _ => rfl
  | _ :: r, 0, x => rfl
  | o :: r, n + 1, x => by
    show o :: spo r n x = o :: r.set n _
    rw [spo_eq r n x]
theorem sgetD_eq : ∀ {S : Sto} {k : Nat} {ks : List Key} {xs : List PV}, sgetD S k = some (ks, xs) → S[k]? = some (.dct ks xs)
  | [], _, _, _, h => by cases h
  | .dct _ ys :: _, 0, ks, xs, h => by cases h; rfl
  | .dcT _ _ :: _, 0, ks, xs, h => by cases h
  | .lst _ :: _, 0, ks, xs, h => by cases h
  | .ins _ _ _ :: _, 0, ks, xs, h => by cases h
  | .tab _ _ _ :: _, 0, ks, xs, h => by cases h
  | _ :: r, n + 1, ks, xs, h => sgetD_eq (S := r) h
@[reducible] def sput : Sto → Nat → List PV → Sto
  | [], _, _ => []
  | _ :: r, 0, xs => .lst xs :: r
  | o :: r, n + 1, xs => o :: sput r n xs
theorem sget_eq : ∀ {S : Sto} {k : Nat} {xs : List PV}, sget S k = some xs → S[k]? = some (.lst xs)
  | [], _, _, h => by cases h
  | .lst ys :: _, 0, xs, h => by cases h; rfl
  | .dct _ _ :: _, 0, xs, h => by cases h
  | .dcT _ _ :: _, 0, xs, h => by cases h
  | .ins _ _ _ :: _, 0, xs, h => by cases h
  | .tab _ _ _ :: _, 0, xs, h => by cases h
  | _ :: r, n + 1, xs, h => sget_eq (S := r) h
theorem sput_eq : ∀ (S : Sto) (k : Nat) (xs : List PV), sput S k xs = S.set k (.lst xs)
  | [], _, _ => rfl
  | _ :: r, 0, xs => rfl
  | o :: r, n + 1, xs => by
    show o :: sput r n xs = o :: r.set n _
    rw [sput_eq r n xs]
@[reducible] def lv (p : PV) (S : Sto) : Option (List PV) := match p with
  | .lst xs => some xs
  | .scr ns => some (ns.map .int)
  | .own k => sget S k
  | _ => none
@[reducible] def sq (p : PV) (S : Sto) : Option (List PV) := match p with
  | .tup xs => some xs
  | .kt xs => some xs
  | .lst xs => some xs
  | .scr ns => some (ns.map .int)
  | .own k => sget S k
  | _ => none
theorem VR.lv (I : In K W S H) {v : V} {p : PV} (r : VR K W.I W.ad v p) {xs : List PV} (e : lv p S = some xs) : ∃ a us, v = .ref a ∧ SqL K H a us ∧ VRs K W.I W.ad us xs := by
  cases r with
  | lst h hs => cases e; exact ⟨_, _, rfl, SqL.of (I.exH _ _ h), hs⟩
  | scr h => cases e; exact ⟨_, _, rfl, SqL.up I.exH h, VRs.ints _⟩
  | own h =>
    obtain ⟨a, us, e1, e2, hs, _⟩ := I.at (.own h) (sget_eq e)
    cases e1
    exact ⟨_, _, rfl, SqL.of e2, hs⟩
  | _ => cases e
theorem VR.tupS (I : In K W S H) {v : V} {xs : List PV} (r : VR K W.I W.ad v (.tup xs)) : ∃ a us, v = .ref a ∧ SqT K H a us ∧ VRs K W.I W.ad us xs := by
  cases r with
  | tup h hs => exact ⟨_, _, rfl, TupF.sq (TupF.up I.exH h), hs⟩
theorem VR.sq (I : In K W S H) {v : V} {p : PV} (r : VR K W.I W.ad v p) {xs : List PV} (e : sq p S = some xs) : ∃ a us, v = .ref a ∧ (SqL K H a us ∨ SqT K H a us) ∧ VRs K W.I W.ad us xs := by
  cases p with
  | tup ys =>
    cases e
    obtain ⟨a, us, h1, h2, h3⟩ := r.tupS I
    exact ⟨a, us, h1, .inr h2, h3⟩
  | lst ys => obtain ⟨a, us, h1, h2, h3⟩ := r.lv I (xs := xs) e; exact ⟨a, us, h1, .inl h2, h3⟩
  | scr ys => obtain ⟨a, us, h1, h2, h3⟩ := r.lv I (xs := xs) e; exact ⟨a, us, h1, .inl h2, h3⟩
  | own ys => obtain ⟨a, us, h1, h2, h3⟩ := r.lv I (xs := xs) e; exact ⟨a, us, h1, .inl h2, h3⟩
  | kt ys =>
    cases e
    exact (match r with
      | .kt h hs => ⟨_, _, rfl, .inr h.sq, hs⟩)
  | _ => cases e
structure br (c : Bool) (A B : Prop) : Prop where
  t : c = true → A
  f : c = false → B
@[reducible] def aVar (i : Nat) : ATE := fun ρ S P => match look ρ i with
  | some p => P p S
  | none => False
@[reducible] def aC (p : PV) : ATE := fun _ S P => P p S
@[reducible] def aOp (f : A2) (a b : ATE) : ATE := fun ρ S P => a ρ S fun x S1 => b ρ S1 fun y S2 => f x y S2 P
@[reducible] def aUn (f : A1) (a : ATE) : ATE := fun ρ S P => a ρ S fun x S1 => f x S1 P
@[reducible] def onB (p : PV) (P : Bool → Prop) : Prop := match p with
  | .bl c => P c
  | _ => False
theorem VR.onB {v : V} {p : PV} {I : Hp} {ad : List Addr} (r : VR K I ad v p) {P : Bool → Prop} (h : onB p P) : ∃ c, v = .bl c ∧ P c := by
  cases r with
  | bl b => exact ⟨b, rfl, h⟩
  | _ => exact h.elim
@[reducible] def aNotV (a : ATE) : ATE := fun ρ S P => a ρ S fun x S1 => onB x fun c => P (.bl (!c)) S1
@[reducible] def aIf (t : ATT) (a b : ATE) : ATE := fun ρ S P => t ρ S fun c S1 => br c (a ρ S1 P) (b ρ S1 P)
@[reducible] def aNil : ATA := fun _ S P => P [] S
@[reducible] def aCons (a : ATE) (r : ATA) : ATA := fun ρ S P => a ρ S fun x S1 => r ρ S1 fun xs S2 => P (x :: xs) S2
inductive onL (o : Option (List PV)) (P : List PV → Prop) : Prop where
  | mk (xs : List PV) (e : o = some xs) (h : P xs) : onL o P
theorem onL_of {o : Option (List PV)} {P : List PV → Prop} (h : onL o P) : ∃ xs, o = some xs ∧ P xs := by
  cases h with
  | mk xs e h => exact ⟨xs, e, h⟩
@[reducible] def aTup (t : ATA) : ATE := fun ρ S P => t ρ S fun xs S1 => xs.length ≤ sizeLine ∧ P (.tup xs) S1
@[reducible] def aLst (t : ATA) : ATE := fun ρ S P => t ρ S fun xs S1 => xs.length ≤ sizeLine ∧ P (.lst xs) S1
variable {te ta tb tc : TE} {f fa fb fc : ATE} {tt : TT} {ft : ATT} {t : TA} {fs : ATA}
theorem se_var {i : Nat} : SE K (tVar i) (aVar i) := ⟨fun {W S σ ρ H Q P} I E h c => by
  unfold aVar at h
  cases e : look ρ i with
  | none => rw [e] at h; exact h.elim
  | some p =>
    rw [e] at h
    obtain ⟨v, h1, h2⟩ := E.look e
    exact ⟨v, h1, c.at I h2 h⟩⟩
theorem se_int {i : Int} : SE K (tC (.int i)) (aC (.int i)) := ⟨fun I _ h c => c.at I (.int i) h⟩
theorem se_bl {i : Bool} : SE K (tC (.bl i)) (aC (.bl i)) := ⟨fun I _ h c => c.at I (.bl i) h⟩
theorem se_non : SE K (tC .non) (aC .non) := ⟨fun I _ h c => c.at I .non h⟩
theorem se_str {i : Str} : SE K (tC (.str i)) (aC (.str i)) := ⟨fun I _ h c => c.at I (.str i) h⟩
theorem se_op {r : R2} {g : A2} (hr : SO K r g) (ha : SE K ta fa) (hb : SE K tb fb) : SE K (tOp r ta tb) (aOp g fa fb) := ⟨fun I E h c =>
  ha.run I E h fun W1 S1 x p H1 l1 I1 r1 h1 => hb.run I1 (E.up l1.toLo) h1 fun W2 S2 y q H2 l2 I2 r2 h2 => hr.run I2 (r1.up l2.toLo) r2 h2 (c.up (l1.trans l2))⟩
theorem se_un {r : V → Hp → VK → Prop} {g : A1} (hr : S1 K r g) (ha : SE K ta fa) : SE K (tUn r ta) (aUn g fa) := ⟨fun I E h c =>
  ha.run I E h fun W1 S1 x p H1 l1 I1 r1 h1 => hr.run I1 r1 h1 (c.up l1)⟩
theorem se_notV (ha : SE K ta fa) : SE K (tNotV ta) (aNotV fa) := ⟨fun I E h c =>
  ha.run I E h fun W1 S1 x p H1 l1 I1 r1 h1 => by
    obtain ⟨k, e, h2⟩ := r1.onB h1
    exact ⟨k, e, c _ _ _ _ _ l1 I1 (.bl _) h2⟩⟩
theorem se_if (ht : STs K tt ft) (ha : SE K ta fa) (hb : SE K tb fb) : SE K (tIf tt ta tb) (aIf ft fa fb) := ⟨fun I E h c =>
  ht.run I E h fun W1 S1 k H1 l1 I1 h1 => by
    cases k with
    | true => rw [if_pos rfl]; exact ha.run I1 (E.up l1.toLo) (h1.t rfl) (c.up l1)
    | false => rw [if_neg Bool.false_ne_true]; exact hb.run I1 (E.up l1.toLo) (h1.f rfl) (c.up l1)⟩
theorem sa_nil : SA K tNil aNil := ⟨fun I _ h c => c _ _ _ _ _ (.refl _) I .nil h⟩
theorem sa_cons (ha : SE K ta fa) (hr : SA K t fs) : SA K (tCons ta t) (aCons fa fs) := ⟨fun I E h c =>
  ha.run I E h fun W1 S1 x p H1 l1 I1 r1 h1 => hr.run I1 (E.up l1.toLo) h1 fun W2 S2 xs ps H2 l2 I2 r2 h2 => c _ _ _ _ _ (l1.trans l2) I2 (.cons (r1.up l2.toLo) r2) h2⟩
theorem se_tup (hr : SA K t fs) : SE K (tTupF t) (aTup fs) := ⟨fun I E h c =>
  hr.run I E h fun W1 S1 xs ps H1 l1 I1 r1 ⟨hz, h1⟩ => ⟨by rw [r1.length]; exact hz, I1.newT r1 (c.up l1) h1⟩⟩
theorem se_lst (hr : SA K t fs) : SE K (tLst t) (aLst fs) := ⟨fun I E h c =>
  hr.run I E h fun W1 S1 xs ps H1 l1 I1 r1 ⟨hz, h1⟩ => ⟨by rw [r1.length]; exact hz, I1.newL r1 (c.up l1) h1⟩⟩
@[reducible] def aTest (a : ATE) : ATT := fun ρ S P => a ρ S fun x S1 => onB x fun c => P c S1
@[reducible] def aOr (a b : ATT) : ATT := fun ρ S P => a ρ S fun c S1 => br c (P true S1) (b ρ S1 P)
@[reducible] def aYes : ATT := fun _ S P => P true S
@[reducible] def truth (p : PV) (S : Sto) (P : Bool → Prop) : Prop := match p with
  | .non => P false
  | .bl c => P c
  | .int i => P (i != 0)
  | .tup xs => P (!xs.isEmpty)
  | .lst xs => P (!xs.isEmpty)
  | .own k => onL (sget S k) fun xs => P (!xs.isEmpty)
  | _ => False
@[reducible] def aTruth (a : ATE) : ATT := fun ρ S P => a ρ S fun x S1 => truth x S1 fun c => P c S1
variable {t1 t2 : TT} {f1 f2 : ATT}
theorem st_test (ha : SE K ta fa) : STs K (tTest ta) (aTest fa) := ⟨fun I E h c =>
  ha.run I E h fun W1 S1 x p H1 l1 I1 r1 h1 => by
    obtain ⟨k, e, h2⟩ := r1.onB h1
    exact ⟨k, e, c _ _ _ _ l1 I1 h2⟩⟩
theorem st_or (ha : STs K t1 f1) (hb : STs K t2 f2) : STs K (tOr t1 t2) (aOr f1 f2) := ⟨fun I E h c =>
  ha.run I E h fun W1 S1 k H1 l1 I1 h1 => by
    cases k with
    | true => rw [if_pos rfl]; exact c _ _ _ _ l1 I1 (h1.t rfl)
    | false => rw [if_neg Bool.false_ne_true]; exact hb.run I1 (E.up l1.toLo) (h1.f rfl) (c.up l1)⟩
theorem st_yes : STs K tYes aYes := ⟨fun I _ h c => c _ _ _ _ (.refl _) I h⟩
theorem VRs.empty {I : Hp} {ad : List Addr} {us : List V} {xs : List PV} (r : VRs K I ad us xs) : us.isEmpty = xs.isEmpty := by cases r <;> rfl
theorem st_truth (ha : SE K ta fa) : STs K (tTruth K ta) (aTruth fa) := ⟨fun {W S σ ρ H Q P} I E h c =>
  ha.run I E h fun W1 S1 x p H1 l1 I1 r1 h1 => by
    have go : ∀ k, TruV K x H1 k → P k S1 → ∃ k, TruV K x H1 k ∧ Q k H1 := fun k a b => ⟨k, a, c _ _ _ _ l1 I1 b⟩
    have r0 := r1
    cases r1 with
    | non => exact go _ rfl h1
    | bl b => exact go _ rfl h1
    | int i => exact go _ rfl h1
    | tup h hs =>
      obtain ⟨a, us, e, h2, h3⟩ := r0.tupS I1
      cases e
      exact go _ (.inr (.inl ⟨us, h2, by rw [h3.empty]⟩)) h1
    | lst h hs =>
      obtain ⟨a, us, e, h2, h3⟩ := r0.lv I1 rfl
      cases e
      exact go _ (.inl ⟨us, h2, by rw [h3.empty]⟩) h1
    | own h =>
      obtain ⟨xs, e, h2⟩ := onL_of h1
      obtain ⟨a, us, e2, h3, h4⟩ := r0.lv I1 (xs := xs) e
      cases e2
      exact go _ (.inl ⟨us, h3, by rw [h4.empty]⟩) h2
    | _ => exact h1.elim⟩
end
end L5

namespace L5
open PySem PySem.Spec PyProof.Rows L2 L3
section
variable {X : Cx}
def rAddF (K : PySem.W.Frag) : R2 := fun x y H Q => rI0 (fun i j => .int (i + j)) x y H Q ∨ rCatF K x y H Q ∨ rCat x y H Q ∨ (∃ i j, x = .str i ∧ y = .str j ∧ i.length + j.length ≤ sizeLine ∧ Q (.str (i ++ j)) H)
theorem kAddF {K : PySem.W.Frag} (hK : X.K = K := by rfl) : OpR X (binaryOp .Add) (rAddF K) := hK ▸ op_add.or (op_catF.or (op_cat.or op_add_str))
def rMulG (K : PySem.W.Frag) : R2 := fun x y H Q => rMulF K x y H Q ∨ rRep x y H Q
theorem kMulG {K : PySem.W.Frag} (hK : X.K = K := by rfl) : OpR X (binaryOp .Mult) (rMulG K) := (kMulF hK).or op_rep
def rSlG (K : PySem.W.Frag) : V → Option Int → Option Int → Hp → VK → Prop := fun x lo hi H Q => rSlL K x lo hi H Q ∨ rSlF K x lo hi H Q
theorem kSlG {K : PySem.W.Frag} (hK : X.K = K := by rfl) : SlR X (rSlG K) := hK ▸ sl_list.or sl_tupF
end
@[reducible] def onI (x : PV) (P : Int → Prop) : Prop := match x with
  | .int i => P i
  | _ => False
@[reducible] def onI2 (x y : PV) (P : Int → Int → Prop) : Prop := onI x fun i => onI y fun j => P i j
def onO {α : Type} (o : Option α) (P : α → Prop) : Prop := ∃ v, o = some v ∧ P v
section
variable {K : PySem.W.Frag} {W W' : Wd} {S : Sto} {H : Hp} {P : AV} {Q : VK} {I : Hp} {ad : List Addr}
theorem VR.onI {v : V} {p : PV} (r : VR K I ad v p) {P : Int → Prop} (h : onI p P) : ∃ i, v = .int i ∧ p = .int i ∧ P i := by
  cases r with
  | int i => exact ⟨i, rfl, rfl, h⟩
  | _ => exact h.elim
theorem VR.onI2 {v w : V} {p q : PV} (r : VR K I ad v p) (r2 : VR K I ad w q) {P : Int → Int → Prop} (h : onI2 p q P) : ∃ i j, v = .int i ∧ w = .int j ∧ P i j := by
  obtain ⟨i, e, _, h⟩ := r.onI h
  obtain ⟨j, e2, _, h⟩ := r2.onI h
  exact ⟨i, j, e, e2, h⟩
@[reducible] def vI0b (g : Int → Int → Bool) : A2 := fun x y S P => onI2 x y fun i j => P (.bl (g i j)) S
@[reducible] def vI (C : Int → Int → Prop) (g : Int → Int → Int) : A2 := fun x y S P => onI2 x y fun i j => C i j ∧ P (.int (g i j)) S
theorem so_I0b {g : Int → Int → Bool} : SO K (rI0 fun i j => .bl (g i j)) (vI0b g) := ⟨fun I r1 r2 h c => by
  obtain ⟨i, j, e, e2, h⟩ := r1.onI2 r2 h
  exact ⟨i, j, e, e2, c.at I (.bl _) h⟩⟩
theorem so_I {C : Int → Int → Prop} {g : Int → Int → Int} : SO K (rI C fun i j => .int (g i j)) (vI C g) := ⟨fun I r1 r2 h c => by
  obtain ⟨i, j, e, e2, hc, h⟩ := r1.onI2 r2 h
  exact ⟨i, j, e, e2, hc, c.at I (.int _) h⟩⟩
theorem s1_neg {g : Int → Int} : S1 K (rU fun i => .int (g i)) (fun x S P => onI x fun i => P (.int (g i)) S) := ⟨fun I r h c => by
  obtain ⟨i, e, _, h⟩ := r.onI h
  exact ⟨i, e, c.at I (.int _) h⟩⟩
@[reducible] def vMod : A2 := fun x y S P => onI2 x y fun i j => 0 < j ∧ P (.int (i % j)) S
@[reducible] def vPow : A2 := fun x y S P => onI2 x y fun i j => CPow i j ∧ P (.int (i ^ j.toNat)) S
@[reducible] def vLt : A2 := fun x y S P => onI2 x y fun i j => P (.bl (decide (i < j))) S
@[reducible] def vGt : A2 := fun x y S P => onI2 x y fun i j => P (.bl (decide (j < i))) S
@[reducible] def vGe : A2 := fun x y S P => onI2 x y fun i j => P (.bl (decide (j ≤ i))) S
@[reducible] def vNeg : A1 := fun x S P => onI x fun i => P (.int (-i)) S
theorem so_mod : SO K (rI (fun _ j => 0 < j) fun i j => .int (i % j)) vMod := so_I
theorem so_pow : SO K (rI CPow fun i j => .int (i ^ j.toNat)) vPow := so_I
theorem so_lt : SO K (rI0 fun i j => .bl (decide (i < j))) vLt := so_I0b
theorem so_gt : SO K (rI0 fun i j => .bl (decide (j < i))) vGt := so_I0b
theorem so_ge : SO K (rI0 fun i j => .bl (decide (j ≤ i))) vGe := so_I0b
theorem s1_neg1 : S1 K (rU fun i => .int (-i)) vNeg := s1_neg
theorem VR.lstH (I : In K W S H) {v : V} {p : PV} (r : VR K W.I W.ad v p) {xs : List PV} (e : L5.lv p S = some xs) (hn : ∀ ns, p ≠ .scr ns) : ∃ a us, v = .ref a ∧ H a = some (.lst us) ∧ VRs K W.I W.ad us xs := by
  cases r with
  | lst h hs => cases e; exact ⟨_, _, rfl, I.exH _ _ h, hs⟩
  | scr h => exact (hn _ rfl).elim
  | own h =>
    obtain ⟨a, us, e1, e2, hs, _⟩ := I.at (.own h) (sget_eq e)
    cases e1
    exact ⟨_, _, rfl, e2, hs⟩
  | _ => cases e
@[reducible] def onS (x : PV) (P : Str → Prop) : Prop := match x with
  | .str i => P i
  | _ => False
@[reducible] def onT (x : PV) (P : List PV → Prop) : Prop := match x with
  | .tup xs => P xs
  | _ => False
theorem VR.onS {v : V} {p : PV} (r : VR K I ad v p) {P : Str → Prop} (h : onS p P) : ∃ i, v = .str i ∧ p = .str i ∧ P i := by
  cases r with
  | str i => exact ⟨i, rfl, rfl, h⟩
  | _ => exact h.elim
theorem VR.onT {v : V} {p : PV} (r : VR K I ad v p) {P : List PV → Prop} (h : onT p P) : ∃ xs, p = .tup xs ∧ P xs := by
  cases r with
  | tup _ _ => exact ⟨_, rfl, h⟩
  | _ => exact h.elim
@[reducible] def lw (p : PV) (S : Sto) : Option (List PV) := match p with
  | .lst xs => some xs
  | .own k => sget S k
  | _ => none
theorem VR.lw (I : In K W S H) {v : V} {p : PV} (r : VR K W.I W.ad v p) {xs : List PV} (e : lw p S = some xs) : ∃ a us, v = .ref a ∧ H a = some (.lst us) ∧ VRs K W.I W.ad us xs := by
  cases p with
  | lst ys => exact r.lstH I e (fun _ z => nomatch z)
  | own k => exact r.lstH I e (fun _ z => nomatch z)
  | _ => cases e
@[reducible] def vAdd : A2 := fun x y S P => match x with
  | .int i => onI y fun j => P (.int (i + j)) S
  | .str i => onS y fun j => i.length + j.length ≤ sizeLine ∧ P (.str (i ++ j)) S
  | .tup xs => onT y fun ys => xs.length + ys.length ≤ sizeLine ∧ P (.tup (xs ++ ys)) S
  | _ => onL (lw x S) fun xs => onL (lw y S) fun ys => xs.length + ys.length ≤ sizeLine ∧ P (.lst (xs ++ ys)) S
theorem so_add : SO K (rAddF K) vAdd := ⟨fun {W S x y p q H Q P} I r1 r2 h c => by
  have go : (onL (L5.lw p S) fun xs => onL (L5.lw q S) fun ys => xs.length + ys.length ≤ sizeLine ∧ P (.lst (xs ++ ys)) S) → rAddF K x y H Q := fun h => by
    obtain ⟨xs, e, h⟩ := onL_of h
    obtain ⟨ys, e2, hz, h⟩ := onL_of h
    obtain ⟨a, us, rfl, ha, ra⟩ := r1.lw I e
    obtain ⟨b, ws, rfl, hb, rb⟩ := r2.lw I e2
    exact .inr (.inr (.inl ⟨a, b, us, ws, rfl, rfl, ha, hb, by rw [ra.length, rb.length]; exact hz, I.newL (ra.append rb) c h⟩))
  cases p with
  | int i =>
    obtain ⟨j, rfl, _, h⟩ := r2.onI h
    cases r1
    exact .inl ⟨_, _, rfl, rfl, c.at I (.int _) h⟩
  | str i =>
    obtain ⟨j, rfl, _, h⟩ := r2.onS h
    cases r1
    exact .inr (.inr (.inr ⟨_, _, rfl, rfl, h.1, c.at I (.str _) h.2⟩))
  | tup xs =>
    obtain ⟨ys, rfl, h⟩ := r2.onT h
    obtain ⟨a, us, rfl, ha, ra⟩ := r1.tupS I
    obtain ⟨b, ws, rfl, hb, rb⟩ := r2.tupS I
    obtain ⟨hz, h⟩ := h
    refine .inr (.inl ⟨a, b, us, ws, rfl, rfl, ha, hb, by rw [ra.length, rb.length]; exact hz, fun e => ?_, fun _ e => ?_, fun _ _ => I.newT (ra.append rb) c h⟩)
    · subst e
      cases ra
      exact c.at I r2 h
    · subst e
      cases rb
      rw [List.append_nil] at h
      exact c.at I r1 h
  | _ => exact go h⟩
@[reducible] def vMul : A2 := fun x y S P => match x with
  | .int i => onI y fun j => CMul i j ∧ P (.int (i * j)) S
  | .tup xs => onI y fun k => xs ≠ [] ∧ -1000 ≤ k ∧ k ≤ 1000 ∧ xs.length ≤ 1000 ∧ P (.tup (List.replicate k.toNat xs).flatten) S
  | .lst xs => onI y fun k => -(2 ^ 63) ≤ k ∧ k < 2 ^ 63 ∧ xs.length * k.toNat ≤ sizeLine ∧ P (.lst (List.replicate k.toNat xs).flatten) S
  | _ => False
theorem so_mul : SO K (rMulG K) vMul := ⟨fun {W S x y p q H Q P} I r1 r2 h c => by
  cases p with
  | int i =>
    obtain ⟨j, rfl, _, h⟩ := r2.onI h
    cases r1
    exact .inl (.inl ⟨_, _, rfl, rfl, h.1, c.at I (.int _) h.2⟩)
  | tup xs =>
    obtain ⟨k, rfl, _, h⟩ := r2.onI h
    obtain ⟨a, us, rfl, ha, ra⟩ := r1.tupS I
    obtain ⟨h1, h2, h3, h4, h5⟩ := h
    refine .inl (.inr ⟨a, k, us, rfl, rfl, ha, fun e => h1 (by subst e; cases ra; rfl), h2, h3, by rw [ra.length]; exact h4, fun e => ?_, fun _ => I.newT (ra.flat _) c h5⟩)
    subst e
    have : (List.replicate (1 : Int).toNat xs).flatten = xs := by simp
    rw [this] at h5
    exact c.at I r1 h5
  | lst xs =>
    obtain ⟨k, rfl, _, h⟩ := r2.onI h
    obtain ⟨a, us, rfl, ha, ra⟩ := r1.lstH I rfl (fun _ e => nomatch e)
    obtain ⟨h1, h2, h3, h4⟩ := h
    exact .inr ⟨a, k, us, rfl, rfl, ha, h1, h2, by rw [ra.length]; exact h3, I.newL (ra.flat _) c h4⟩
  | _ => exact h.elim⟩
mutual
def dat : PV → PyData
  | .non => .none
  | .bl b => .bool b
  | .int i => .int i
  | .str x => .str x
  | .tup xs => .tuple (dats xs)
  | .lst xs => .list (dats xs)
  | .scr ns => .list (ns.map .int)
  | .kt xs => .tuple (dats xs)
  | _ => .none
def dats : List PV → List PyData
  | [] => []
  | x :: xs => dat x :: dats xs
end
mutual
def nown : PV → Bool
  | .tup xs => nowns xs
  | .lst xs => nowns xs
  | .kt xs => nowns xs
  | .non => true
  | .bl _ => true
  | .int _ => true
  | .str _ => true
  | .scr _ => true
  | _ => false
def nowns : List PV → Bool
  | [] => true
  | x :: xs => nown x && nowns xs
end
theorem dats_map : ∀ xs : List PV, dats xs = xs.map dat
  | [] => rfl
  | x :: xs => by rw [dats, dats_map xs]; rfl
theorem nowns_all : ∀ xs : List PV, nowns xs = xs.all nown
  | [] => rfl
  | x :: xs => by rw [nowns, nowns_all xs]; rfl
mutual
theorem VR.dp : ∀ {v : V} {p : PV}, VR K I ad v p → nown p = true → Dp K I v (dat p)
  | _, _, .non, _ => .non
  | _, _, .bl b, _ => .bl b
  | _, _, .int i, _ => .int i
  | _, _, .str x, _ => .str x
  | _, _, .tup h hs, e => .tup (TupF.sq h) (VRs.dp hs e)
  | _, _, .lst h hs, e => .lst (SqL.of h) (VRs.dp hs e)
  | _, _, .scr h, _ => .lst h (dpAll_ints _)
  | _, _, .kt h hs, e => .tup h.sq (VRs.dp hs e)
  | _, _, .own _, e => nomatch e
  | _, _, .ty _, e => nomatch e
  | _, _, .cls _, e => nomatch e
  | _, _, .ins _ _ _ _ _, e => nomatch e
  | _, _, .dct _ _ _ _, e => nomatch e
  | _, _, .exc0 _ _, e => nomatch e
  | _, _, .exc _ _ _ _, e => nomatch e
theorem VRs.dp : ∀ {vs : List V} {ps : List PV}, VRs K I ad vs ps → nowns ps = true → DpAll K I vs (dats ps)
  | _, _, .nil, _ => .nil
  | _, _, .cons h hs, e => by
    rw [nowns, Bool.and_eq_true] at e
    exact .cons (VR.dp h e.1) (VRs.dp hs e.2)
end
@[reducible] def rsv (p : PV) (S : Sto) : PV := match p with
  | .own k => match sget S k with
    | some xs => .lst xs
    | none => .own k
  | x => x
theorem VR.dpS (I : In K W S H) {v : V} {p : PV} (r : VR K W.I W.ad v p) (e : nown (rsv p S) = true) : Dp K H v (dat (rsv p S)) := by
  have go : nown p = true → Dp K H v (dat p) := fun e => Dp.up I.exH (r.dp e)
  cases p with
  | own k =>
    simp only [rsv] at e ⊢
    cases z : sget S k with
    | none => rw [z] at e; cases e
    | some xs =>
      rw [z] at e
      obtain ⟨a, us, h1, h2, h3⟩ := r.lv I (xs := xs) z
      subst h1
      exact .lst h2 (DpAll.up I.exH (h3.dp e))
  | _ => exact go e
def shOk (p : PV) : Prop := nown p = true ∧ ∃ k, k ≤ 60 ∧ good k (dat p)
def eqOk (p : PV) : Prop := nown p = true ∧ SeqAt.shaped (dat p) = true
theorem dats_ints (ns : List Int) : dats (ns.map PV.int) = ns.map .int := by rw [dats_map, List.map_map]; rfl
theorem nowns_ints (ns : List Int) : nowns (ns.map PV.int) = true := by rw [nowns_all]; simp [nown]
theorem eqOk_iL (ns : List Int) : eqOk (.lst (ns.map PV.int)) := ⟨by rw [nown, nowns_ints], by rw [dat, dats_ints]; exact shaped_intsL ns⟩
@[reducible] def eqS (x y : PV) : Option Bool := match x with
  | .int i => match y with
    | .int j => some (decide (i = j))
    | .non => some false
    | .str _ => some false
    | _ => none
  | .str i => match y with
    | .str j => some (decide (i = j))
    | .non => some false
    | .int _ => some false
    | _ => none
  | .bl i => match y with
    | .bl j => some (decide (i = j))
    | _ => none
  | .non => match y with
    | .non => some true
    | .int _ => some false
    | .str _ => some false
    | _ => none
  | _ => none
@[reducible] def onE (o : Option Bool) (P : Bool → Prop) (G : Prop) : Prop := match o with
  | some b => P b
  | none => G
@[reducible] def isNil (y : PV) : Bool := match y with
  | .lst xs => (match xs with
    | [] => true
    | _ => false)
  | _ => false
@[reducible] def eqG (x y : PV) (S : Sto) (P : AV) : Prop := match isNil y with
  | true => onL (lv x S) fun xs => eqOk (.lst xs) ∧ P (.bl xs.isEmpty) S
  | false => eqOk (rsv x S) ∧ eqOk (rsv y S) ∧ P (.bl (PyData.eqv (dat (rsv x S)) (dat (rsv y S)))) S
@[reducible] def vEq : A2 := fun x y S P => onE (eqS x y) (fun b => P (.bl b) S) (eqG x y S P)
theorem eqS_ok {x y : V} {p q : PV} (r1 : VR K I ad x p) (r2 : VR K I ad y q) {b : Bool} (e : eqS p q = some b) : scal x y = true ∧ decide (x = y) = b := by
  cases p with
  | int i =>
    cases r1
    cases q with
    | int j => cases r2; cases e; exact ⟨rfl, by simp⟩
    | non => cases r2; cases e; exact ⟨rfl, by simp⟩
    | str j => cases r2; cases e; exact ⟨rfl, by simp⟩
    | _ => cases e
  | str i =>
    cases r1
    cases q with
    | int j => cases r2; cases e; exact ⟨rfl, by simp⟩
    | non => cases r2; cases e; exact ⟨rfl, by simp⟩
    | str j => cases r2; cases e; exact ⟨rfl, by simp⟩
    | _ => cases e
  | bl i =>
    cases r1
    cases q with
    | bl j => cases r2; cases e; exact ⟨rfl, by simp⟩
    | _ => cases e
  | non =>
    cases r1
    cases q with
    | int j => cases r2; cases e; exact ⟨rfl, by simp⟩
    | non => cases r2; cases e; exact ⟨rfl, by simp⟩
    | str j => cases r2; cases e; exact ⟨rfl, by simp⟩
    | _ => cases e
  | _ => cases e
@[reducible] def vNe : A2 := fun x y S P => vEq x y S fun r S1 => onB r fun c => P (.bl (!c)) S1
theorem eq_core (I : In K W S H) {x y : V} {p q : PV} (r1 : VR K W.I W.ad x p) (r2 : VR K W.I W.ad y q) {P : AV} (h : vEq p q S P) : ∃ b, P (.bl b) S ∧ ((scal x y = true ∧ decide (x = y) = b) ∨ ∃ d e, Dp K H x d ∧ Dp K H y e ∧ SeqAt.shaped d = true ∧ SeqAt.shaped e = true ∧ PyData.eqv d e = b) := by
  have h : onE (eqS p q) (fun b => P (.bl b) S) (eqG p q S P) := h
  cases z : eqS p q with
  | some b =>
    rw [z] at h
    exact ⟨b, h, .inl (eqS_ok r1 r2 z)⟩
  | none =>
    rw [z] at h
    have h : eqG p q S P := h
    unfold eqG at h
    cases n : isNil q with
    | true =>
      rw [n] at h
      obtain ⟨xs, e, ⟨h1, h2⟩, h3⟩ := onL_of h
      clear h
      obtain ⟨a, us, rfl, hq, rs⟩ := r1.lv I e
      cases q with
      | lst ys =>
        cases ys with
        | nil =>
          cases r2 with
          | lst hb hs =>
            cases hs
            rw [nown] at h1
            rw [dat] at h2
            refine ⟨_, h3, .inr ⟨_, .list [], .lst hq (DpAll.up I.exH (rs.dp h1)), .lst (SqL.of (I.exH _ _ hb)) .nil, h2, shaped_intsL [], ?_⟩⟩
            rw [eqv_nil, dats_map]
            cases xs <;> simp
        | cons _ _ => cases n
      | _ => cases n
    | false =>
      rw [n] at h
      obtain ⟨⟨h1, g1⟩, ⟨h2, g2⟩, h⟩ := h
      exact ⟨_, h, .inr ⟨_, _, r1.dpS I h1, r2.dpS I h2, g1, g2, rfl⟩⟩
theorem so_eq : SO K (rEqA K) vEq := ⟨fun {W S x y p q H Q P} I r1 r2 h c => by
  obtain ⟨b, hb, ⟨e1, e2⟩ | ⟨d, e, h1, h2, h3, h4, h5⟩⟩ := eq_core I r1 r2 h
  · exact .inl ⟨e1, by rw [e2]; exact c.at I (.bl _) hb⟩
  · exact .inr ⟨d, e, h1, h2, h3, h4, by rw [h5]; exact c.at I (.bl _) hb⟩⟩
theorem so_ne : SO K (rNeA K) vNe := ⟨fun {W S x y p q H Q P} I r1 r2 h c => by
  obtain ⟨b, hb, ⟨e1, e2⟩ | ⟨d, e, h1, h2, h3, h4, h5⟩⟩ := eq_core I r1 r2 h
  · exact .inl ⟨e1, by rw [e2]; exact c.at I (.bl _) hb⟩
  · exact .inr ⟨d, e, h1, h2, h3, h4, by rw [h5]; exact c.at I (.bl _) hb⟩⟩
@[reducible] def vIx : A2 := fun x y S P => onL (sq x S) fun xs => onI y fun i => onO (atI xs i) fun v => P v S
theorem VRs.atI {us : List V} {xs : List PV} (r : VRs K I ad us xs) {i : Int} {p : PV} (e : atI xs i = some p) : ∃ v, L2.atI us i = some v ∧ VR K I ad v p := by
  unfold L2.atI at e ⊢
  rw [r.length]
  cases z : ixN xs.length i with
  | none => rw [z] at e; cases e
  | some j =>
    rw [z] at e
    exact r.get e
theorem so_ix : SO K (rIx K) vIx := ⟨fun {W S x y p q H Q P} I r1 r2 h c => by
  obtain ⟨xs, e, h⟩ := onL_of h
  obtain ⟨i, rfl, _, h⟩ := r2.onI h
  obtain ⟨z, e2, h⟩ := h
  obtain ⟨a, us, rfl, hq, rs⟩ := r1.sq I e
  obtain ⟨v, e3, rv⟩ := rs.atI e2
  rcases hq with hq | hq
  · exact .inl ⟨a, us, i, v, rfl, rfl, hq, e3, c.at I rv h⟩
  · exact .inr (.inl ⟨a, us, i, v, rfl, rfl, hq, e3, c.at I rv h⟩)⟩
abbrev APt := AEnv → Sto → (Option Int → Sto → Prop) → Prop
structure SPt (K : PySem.W.Frag) (tp : TO) (f : APt) : Prop where
  run : ∀ {W S σ ρ H R P}, In K W S H → ER K W σ ρ → f ρ S P → (∀ W' S' o H', W.Le W' → In K W' S' H' → P o S' → R o H') → tp σ H R
@[reducible] def aNo : APt := fun _ S P => P none S
@[reducible] def aPart (a : ATE) : APt := fun ρ S P => a ρ S fun x S1 => onI x fun i => P (some i) S1
theorem sp_no : SPt K tNoPart aNo := ⟨fun I _ h c => c _ _ _ _ (.refl _) I h⟩
theorem sp_part {te : TE} {f : ATE} (ha : SE K te f) : SPt K (tPart te) (aPart f) := ⟨fun I E h c =>
  ha.run I E h fun W1 S1 x p H1 l1 I1 r1 h1 => by
    obtain ⟨i, e, _, h2⟩ := r1.onI h1
    exact ⟨i, e, c _ _ _ _ l1 I1 h2⟩⟩
def cutP (xs : List PV) (lo hi : Option Int) : List PV := (xs.drop (HT.sIx xs.length 0 lo)).take (HT.sIx xs.length xs.length hi - HT.sIx xs.length 0 lo)
@[reducible] def vSl (x : PV) (lo hi : Option Int) (S : Sto) (P : AV) : Prop := match x with
  | .tup xs => P (.tup (cutP xs lo hi)) S
  | _ => onL (lv x S) fun xs => P (.lst (cutP xs lo hi)) S
@[reducible] def aSl (g : PV → Option Int → Option Int → Sto → AV → Prop) (a : ATE) (l h : APt) : ATE := fun ρ S P => a ρ S fun x S1 => l ρ S1 fun lo S2 => h ρ S2 fun hi S3 => g x lo hi S3 P
structure SSl (K : PySem.W.Frag) (r : V → Option Int → Option Int → Hp → VK → Prop) (g : PV → Option Int → Option Int → Sto → AV → Prop) : Prop where
  run : ∀ {W S x p lo hi H Q P}, In K W S H → VR K W.I W.ad x p → g p lo hi S P → CE K W P Q → r x lo hi H Q
theorem cut_whole2 {xs : List PV} {lo hi : Option Int} (h : HT.sIx xs.length 0 lo = 0 ∧ HT.sIx xs.length xs.length hi = xs.length) : cutP xs lo hi = xs := by
  unfold cutP
  rw [h.1, h.2]
  simp
theorem sl_any : SSl K (rSlG K) vSl := ⟨fun {W S x p lo hi H Q P} I r h c => by
  have go : onL (lv p S) (fun xs => P (.lst (cutP xs lo hi)) S) → rSlG K x lo hi H Q := fun h => by
    obtain ⟨xs, e, h⟩ := onL_of h
    obtain ⟨a, us, rfl, hq, rs⟩ := r.lv I e
    exact .inl ⟨a, us, rfl, hq, I.newL (rs.cut lo hi) c h⟩
  cases p with
  | tup xs =>
    obtain ⟨a, us, rfl, hq, rs⟩ := r.tupS I
    refine .inr ⟨a, us, rfl, hq, fun w => ?_, fun _ => I.newT (rs.cut lo hi) c h⟩
    rw [rs.length] at w
    have h : P (.tup (cutP xs lo hi)) S := h
    rw [cut_whole2 w] at h
    exact c.at I r h
  | _ => exact go h⟩
theorem se_sl {r : V → Option Int → Option Int → Hp → VK → Prop} {g : PV → Option Int → Option Int → Sto → AV → Prop} {te : TE} {f : ATE} {tl th : TO} {fl fh : APt} (hr : SSl K r g) (ha : SE K te f) (hl : SPt K tl fl) (hh : SPt K th fh) : SE K (tSl r te tl th) (aSl g f fl fh) := ⟨fun I E h c =>
  ha.run I E h fun W1 S1 x p H1 l1 I1 r1 h1 => hl.run I1 (E.up l1.toLo) h1 fun W2 S2 lo H2 l2 I2 h2 => hh.run I2 (E.up (l1.trans l2).toLo) h2 fun W3 S3 hi H3 l3 I3 h3 =>
    hr.run I3 (r1.up (l2.trans l3).toLo) h3 (c.up ((l1.trans l2).trans l3))⟩
@[reducible] def aRevO (a : ATE) : ATE := fun ρ S P => a ρ S fun x S1 => onL (lv x S1) fun xs => newO S1 (.lst xs.reverse) P
theorem se_revO {te : TE} {f : ATE} (ha : SE K te f) : SE K (tRevL K te) (aRevO f) := ⟨fun I E h c =>
  ha.run I E h fun W1 S1 x p H1 l1 I1 r1 h1 => by
    obtain ⟨xs, e, h⟩ := onL_of h1
    obtain ⟨a, us, rfl, hq, rs⟩ := r1.lv I1 e
    exact ⟨a, us, rfl, hq, I1.newO rs.reverse (c.up l1) h⟩⟩
end
end L5

namespace L5
open PySem PySem.Spec PyProof.Rows L2 L3
section
variable {K : PySem.W.Frag} {W W' : Wd} {S : Sto} {H : Hp} {P : AV} {Q : VK} {I : Hp} {ad : List Addr}
@[reducible] def aCB (g : AL) (t : ATA) : ATE := fun ρ S P => t ρ S fun xs S1 => g xs S1 P
theorem se_cb {r : List V → Hp → VK → Prop} {g : AL} {t : TA} {f : ATA} (hr : SL K r g) (ha : SA K t f) : SE K (tCB r t) (aCB g f) := ⟨fun I E h c =>
  ha.run I E h fun W1 S1 xs ps H1 l1 I1 r1 h1 => hr.run I1 r1 h1 (c.up l1)⟩
@[reducible] def on1 (xs : List PV) (P : PV → Prop) : Prop := match xs with
  | [x] => P x
  | _ => False
theorem VRs.on1 {vs : List V} {ps : List PV} (r : VRs K I ad vs ps) {P : PV → Prop} (h : on1 ps P) : ∃ v p, vs = [v] ∧ ps = [p] ∧ VR K I ad v p ∧ P p := by
  cases r with
  | nil => exact h.elim
  | cons r rs => cases rs with
    | nil => exact ⟨_, _, rfl, rfl, r, h⟩
    | cons _ _ => exact h.elim
@[reducible] def vLen : AL := fun xs S P => on1 xs fun x => onL (sq x S) fun ys => P (.int (ys.length : Nat)) S
theorem sl_len : SL K (rLenA K) vLen := ⟨fun I r h c => by
  obtain ⟨v, p, rfl, rfl, r, h⟩ := r.on1 h
  obtain ⟨ys, e, h⟩ := onL_of h
  obtain ⟨a, us, rfl, hq, rs⟩ := r.sq I e
  rw [← rs.length] at h
  rcases hq with hq | hq
  · exact ⟨_, us.length, rfl, .inl ⟨us, hq, rfl⟩, c.at I (.int _) h⟩
  · exact ⟨_, us.length, rfl, .inr ⟨us, hq, rfl⟩, c.at I (.int _) h⟩⟩
def rpOk (p : PV) : Prop := shOk p ∧ nz (dat p) ≤ 16000000
@[reducible] def vList : AL := fun xs S P => on1 xs fun x => onL (sq x S) fun ys => P (.lst ys) S
theorem sl_list : SL K (rListA K) vList := ⟨fun I r h c => by
  obtain ⟨v, p, rfl, rfl, r, h⟩ := r.on1 h
  obtain ⟨ys, e, h⟩ := onL_of h
  obtain ⟨a, us, rfl, hq, rs⟩ := r.sq I e
  exact ⟨a, us, rfl, hq, I.newL rs c h⟩⟩
@[reducible] def sqN (p : PV) (S : Sto) : Option (List PV) := match p with
  | .tup xs => some xs
  | .lst xs => some xs
  | .scr ns => some (ns.map .int)
  | .own k => sget S k
  | _ => none
@[reducible] def vTuple : AL := fun xs S P => on1 xs fun x => onL (sqN x S) fun ys => P (.tup ys) S
theorem sl_tuple : SL K (rTupF K) vTuple := ⟨fun {W S xs ps H Q P} I r h c => by
  obtain ⟨v, p, rfl, rfl, r, h⟩ := r.on1 h
  obtain ⟨ys, e, h2⟩ := onL_of h
  clear h
  have go : lv p S = some ys → rTupF K [v] H Q := fun e => by
    obtain ⟨a, us, rfl, hq, rs⟩ := r.lv I e
    exact ⟨a, us, rfl, .inl ⟨hq, I.newT rs c h2⟩⟩
  cases p with
  | tup xs =>
    cases e
    obtain ⟨a, us, rfl, hq, rs⟩ := r.tupS I
    exact ⟨a, us, rfl, .inr ⟨hq, c.at I r h2⟩⟩
  | _ => exact go e⟩
@[reducible] def vInt : AL := fun xs S P => match xs with
  | [.int i] => P (.int i) S
  | [.bl k] => P (.int (if k then 1 else 0)) S
  | _ => False
theorem sl_int : SL K rInt1 vInt := ⟨fun {W S xs ps H Q P} I r h c => by
  unfold vInt at h
  split at h
  · cases r with
    | cons r1 r2 => cases r2; cases r1; exact .inl ⟨_, rfl, c.at I (.int _) h⟩
  · cases r with
    | cons r1 r2 => cases r2; cases r1; exact .inr ⟨_, rfl, c.at I (.int _) h⟩
  · exact h.elim⟩
@[reducible] def aBM (g : AM) (o : ATE) (t : ATA) : ATE := fun ρ S P => o ρ S fun x S1 => onL (lv x S1) fun _ => t ρ S1 fun xs S2 => g x xs S2 P
@[reducible] def aBM0 (g : AM) (o : ATE) : ATE := fun ρ S P => o ρ S fun x S1 => onL (lv x S1) fun _ => g x [] S1 P
theorem se_bm {r : V → List V → Hp → VK → Prop} {g : AM} {to : TE} {fo : ATE} {t : TA} {f : ATA} (hr : SM K r g) (ho : SE K to fo) (ha : SA K t f) : SE K (tBM K "list" r to t) (aBM g fo f) := ⟨fun I E h c =>
  ho.run I E h fun W1 S1 x p H1 l1 I1 r1 h1 => by
    obtain ⟨ys, e, h2⟩ := onL_of h1
    obtain ⟨a, us, rfl, hq, rs⟩ := r1.lv I1 e
    exact ⟨.inl ⟨rfl, us, hq⟩, ha.run I1 (E.up l1.toLo) h2 fun W2 S2 xs ps H2 l2 I2 r2 h3 => hr.run I2 (r1.up l2.toLo) r2 h3 (c.up (l1.trans l2))⟩⟩
theorem se_bm0 {r : V → List V → Hp → VK → Prop} {g : AM} {to : TE} {fo : ATE} (hr : SM K r g) (ho : SE K to fo) : SE K (tBM0 K "list" r to) (aBM0 g fo) := ⟨fun I E h c =>
  ho.run I E h fun W1 S1 x p H1 l1 I1 r1 h1 => by
    obtain ⟨ys, e, h2⟩ := onL_of h1
    obtain ⟨a, us, rfl, hq, rs⟩ := r1.lv I1 e
    exact ⟨.inl ⟨rfl, us, hq⟩, hr.run I1 r1 .nil h2 (c.up l1)⟩⟩
@[reducible] def onK (x : PV) (S : Sto) (P : Nat → List PV → Prop) : Prop := match x with
  | .own k => onL (sget S k) fun xs => P k xs
  | _ => False
theorem VR.onK (I : In K W S H) {v : V} {p : PV} (r : VR K W.I W.ad v p) {P : Nat → List PV → Prop} (h : onK p S P) :
    ∃ a us k xs, v = .ref a ∧ p = .own k ∧ H a = some (.lst us) ∧ VRs K W.I W.ad us xs ∧ sget S k = some xs ∧ (∀ us' xs', VRs K W.I W.ad us' xs' → In K W (sput S k xs') (upd H a (.lst us'))) ∧ P k xs := by
  cases p with
  | own k =>
    obtain ⟨xs, e, h⟩ := onL_of h
    obtain ⟨a, us, e1, e2, rs, up⟩ := I.at r (sget_eq e)
    exact ⟨a, us, k, xs, e1, rfl, e2, rs, e, fun us' xs' r' => by rw [sput_eq]; exact up us' xs' r', h⟩
  | _ => exact h.elim
@[reducible] def vAppend : AM := fun x ys S P => on1 ys fun y => onK x S fun k xs => xs.length < sizeLine ∧ P .non (sput S k (xs ++ [y]))
theorem sm_append : SM K rAppend vAppend := ⟨fun I r rs h c => by
  obtain ⟨v, p, rfl, rfl, r2, h⟩ := rs.on1 h
  obtain ⟨a, us, k, xs, rfl, rfl, e, r3, _, up, hz, h⟩ := r.onK I h
  exact ⟨a, us, v, rfl, rfl, e, by rw [r3.length]; exact hz, c.at (up _ _ (r3.append (.cons r2 .nil))) .non h⟩⟩
@[reducible] def vPop : AM := fun x ys S P => match ys with
  | [] => onK x S fun k xs => onO xs[xs.length - 1]? fun y => P y (sput S k xs.dropLast)
  | _ => False
theorem sm_pop : SM K rPop vPop := ⟨fun {W S x p xs ps H Q P} I r rs h c => by
  cases rs with
  | cons _ _ => exact h.elim
  | nil =>
    have h : onK p S fun k xs => onO xs[xs.length - 1]? fun y => P y (sput S k xs.dropLast) := h
    obtain ⟨a, us, k, zs, rfl, rfl, e, r3, _, up, y, ey, h⟩ := r.onK I h
    obtain ⟨v, ev, rv⟩ := r3.get ey
    exact ⟨a, us, v, rfl, rfl, e, by rw [r3.length]; exact ev, c.at (up _ _ r3.dropLast) rv h⟩⟩
inductive AItem where
  | one (p : PV)
  | many (xs : List PV)
inductive IR (K : PySem.W.Frag) (W : Wd) (H : Hp) : V → AItem → Prop where
  | one {v : V} {p : PV} : VR K W.I W.ad v p → IR K W H v (.one p)
  | many {a : Addr} {us : List V} {xs : List PV} : SqT K H a us → VRs K W.I W.ad us xs → IR K W H (.ref a) (.many xs)
abbrev AG := AItem → AEnv → Sto → (AEnv → Sto → Prop) → Prop
def Fx (ws : List Nat) (σ σ' : St) : Prop := ∀ vs : List Nat, (∀ i ∈ ws, i ∈ vs) → wipe σ' vs = wipe σ vs
theorem Fx.refl {ws : List Nat} (σ : St) : Fx ws σ σ := fun _ _ => rfl
theorem wipe_set_out {σ : St} {i : Nat} {x : Option V} : ∀ {vs : List Nat}, i ∉ vs → wipe (σ.set i x) vs = (wipe σ vs).set i x
  | [], _ => rfl
  | v :: vs, h => by
    unfold wipe
    rw [wipe_set_out (fun z => h (List.mem_cons_of_mem _ z)), List.set_comm _ _ (fun e => h (by rw [e]; exact List.mem_cons_self))]
theorem wipe_set_in {σ : St} {i : Nat} {x : Option V} : ∀ {vs : List Nat}, i ∈ vs → wipe (σ.set i x) vs = wipe σ vs
  | v :: vs, h => by
    unfold wipe
    by_cases hi : i ∈ vs
    · rw [wipe_set_in hi]
    · rcases List.mem_cons.mp h with rfl | h
      · rw [wipe_set_out hi, List.set_set]
      · exact absurd h hi
theorem Fx.set {i : Nat} {x : Option V} (σ : St) : Fx [i] σ (σ.set i x) := fun vs h => wipe_set_in (h i List.mem_cons_self)
structure SG (K : PySem.W.Frag) (g : TG) (f : AG) (ws : List Nat) : Prop where
  run : ∀ {W S σ ρ H v it R P}, In K W S H → ER K W σ ρ → IR K W H v it → f it ρ S P → (∀ W' S' σ' ρ' H', W.Le W' → In K W' S' H' → ER K W' σ' ρ' → Fx ws σ σ' → P ρ' S' → R σ' H') → g v σ H R
structure setE (ρ : AEnv) (i : Nat) (p : PV) (P : AEnv → Prop) : Prop where
  h : P (put ρ i p)
theorem r_set {ρ ρ' : AEnv} {i : Nat} {p : PV} {P : AEnv → Prop} (e : put ρ i p = ρ') (h : P ρ') : setE ρ i p P := ⟨by rw [e]; exact h⟩
@[reducible] def gaName (i : Nat) : AG := fun it ρ S P => match it with
  | .one p => setE ρ i p fun ρ1 => P ρ1 S
  | _ => False
theorem sg_name {i : Nat} : SG K (gName i) (gaName i) [i] := ⟨fun {W S σ ρ H v it R P} I E r h c => by
  cases r with
  | one r => exact c _ _ _ _ _ (.refl _) I (E.put r i) (Fx.set σ) h.h
  | many _ _ => exact h.elim⟩
structure Yl (K : PySem.W.Frag) (W : Wd) (J : It) (C : Sto → Prop) (its : List AItem) : Prop where
  go : ∀ W' S H i, W.Lo W' → In K W' S H → C S → i < its.length → J.go i H
  stop : ∀ W' S H, W.Lo W' → In K W' S H → C S → J.stop its.length H
  yld : ∀ W' S H i it x H', W.Lo W' → In K W' S H → C S → its[i]? = some it → J.yld i H x H' → In K W' S H' ∧ IR K W' H' x it
abbrev ATI := AEnv → Sto → ((Sto → Prop) → List AItem → Sto → Prop) → Prop
structure SI (K : PySem.W.Frag) (wi : TI) (f : ATI) : Prop where
  run : ∀ {W S σ ρ H R P}, In K W S H → ER K W σ ρ → f ρ S P → (∀ W' S' J C its H', W.Le W' → In K W' S' H' → Yl K W' J C its → P C its S' → R J H') → wi σ H R
theorem In.skip (I : In K W S H) {p : Addr} {o : HO} (h : H p = none) : In K W S (upd H p o) := by
  obtain ⟨os, O, h1, h2, h3⟩ := I.ex
  exact ⟨⟨os, O.skip h, h1, h2, h3⟩, I.fr⟩
def cT : Sto → Prop := fun _ => True
@[reducible] def aSeq1 (a : ATE) : ATI := fun ρ S R => a ρ S fun x S1 => match x with
  | .tup xs => R cT (xs.map .one) S1
  | .kt xs => R cT (xs.map .one) S1
  | .lst xs => R cT (xs.map .one) S1
  | .scr ns => R cT (ns.map fun n => .one (.int n)) S1
  | .own k => onL (sget S1 k) fun xs => R (fun S2 => sget S2 k = some xs) (xs.map .one) S1
  | _ => False
theorem one_get {xs : List PV} {i : Nat} {it : AItem} (h : (xs.map AItem.one)[i]? = some it) : ∃ p, xs[i]? = some p ∧ it = .one p := by
  rw [List.getElem?_map] at h
  cases e : xs[i]? with
  | none => rw [e] at h; cases h
  | some p => rw [e] at h; cases h; exact ⟨p, rfl, rfl⟩
theorem yl_tup {a : Addr} {us : List V} {xs : List PV} (hq : SqT K W.I a us) (rs : VRs K W.I W.ad us xs) : Yl K W (Itt K a) cT (xs.map .one) where
  go := fun W' S H i l I' _ hi => by
    rw [List.length_map, ← rs.length] at hi
    exact ⟨us, _, SqT.up (l.ex.trans I'.exH) hq, List.getElem?_eq_getElem hi⟩
  stop := fun W' S H l I' _ => ⟨us, SqT.up (l.ex.trans I'.exH) hq, by rw [List.length_map, rs.length]; exact Nat.le_refl _⟩
  yld := fun W' S H i it x H' l I' _ e ⟨e1, e2⟩ => by
    subst e1
    obtain ⟨p, hp, rfl⟩ := one_get e
    obtain ⟨v, hv, rv⟩ := rs.get hp
    have := e2 us (SqT.up (l.ex.trans I'.exH) hq)
    rw [hv] at this
    cases this
    exact ⟨I', .one (rv.up l)⟩
theorem yl_lst {a : Addr} {us : List V} {xs : List PV} {C : Sto → Prop} (hq : ∀ W' S H, W.Lo W' → In K W' S H → C S → ∃ us, SqL K H a us ∧ VRs K W'.I W'.ad us xs) (un : ∀ H (us us' : List V), SqL K H a us → SqL K H a us' → us = us' ∨ True) : Yl K W (Itl K a) C (xs.map .one) where
  go := fun W' S H i l I' c hi => by
    obtain ⟨us, h1, h2⟩ := hq W' S H l I' c
    rw [List.length_map, ← h2.length] at hi
    exact ⟨us, _, h1, List.getElem?_eq_getElem hi⟩
  stop := fun W' S H l I' c => by
    obtain ⟨us, h1, h2⟩ := hq W' S H l I' c
    exact ⟨us, h1, by rw [List.length_map, h2.length]; exact Nat.le_refl _⟩
  yld := fun W' S H i it x H' l I' c e ⟨e1, e2⟩ => by
    subst e1
    obtain ⟨us, h1, h2⟩ := hq W' S _ l I' c
    obtain ⟨p, hp, rfl⟩ := one_get e
    obtain ⟨v, hv, rv⟩ := h2.get hp
    have := e2 us h1
    rw [hv] at this
    cases this
    exact ⟨I', .one rv⟩
theorem si_seq {te : TE} {f : ATE} (ha : SE K te f) : SI K (iSeq K te) (aSeq1 f) := ⟨fun {W S σ ρ H R P} I E h c =>
  ha.run I E h fun W1 S1 x p H1 l1 I1 r1 h1 => by
    cases r1 with
    | tup hf hs => exact ⟨_, _, rfl, .inr ⟨SqT.up I1.exH hf.sq, c _ _ _ _ _ _ l1 I1 (yl_tup hf.sq hs) h1⟩⟩
    | kt hf hs => exact ⟨_, _, rfl, .inr ⟨hf.sq, c _ _ _ _ _ _ l1 I1 (yl_tup hf.sq hs) h1⟩⟩
    | lst hl hs => exact ⟨_, _, rfl, .inl ⟨SqL.of (I1.exH _ _ hl), c _ _ _ _ _ _ l1 I1 (yl_lst (us := []) (fun W' S H l I' _ => ⟨_, SqL.of (I'.exH _ _ (l.ex _ _ hl)), hs.up l⟩) fun _ _ _ _ _ => .inr trivial) h1⟩⟩
    | scr hl =>
      rename_i a ns
      have h1 : P cT ((ns.map PV.int).map .one) S1 := by
        rw [List.map_map]
        exact h1
      exact ⟨_, _, rfl, .inl ⟨SqL.up I1.exH hl, c _ _ _ _ _ _ l1 I1 (yl_lst (us := []) (fun W' S H l I' _ => ⟨_, SqL.up (l.ex.trans I'.exH) hl, VRs.ints ns⟩) fun _ _ _ _ _ => .inr trivial) h1⟩⟩
    | own hk =>
      rename_i a k
      obtain ⟨xs, e, h2⟩ := onL_of h1
      obtain ⟨a', us, e1, e2, rs, _⟩ := I1.at (.own hk) (sget_eq e)
      cases e1
      refine ⟨_, _, rfl, .inl ⟨SqL.of e2, c _ _ _ _ _ _ l1 I1 (yl_lst (us := []) (fun W' S H l I' hc => ?_) fun _ _ _ _ _ => .inr trivial) h2⟩⟩
      obtain ⟨a'', us', e3, e4, rs', _⟩ := I'.at (.own (l.ad _ _ hk)) (sget_eq hc)
      cases e3
      exact ⟨us', SqL.of e4, rs'⟩
    | _ => exact h1.elim⟩
def rngI (lo : Int) (n : Nat) : List AItem := (List.range n).map fun i => .one (.int (lo + (i : Nat)))
@[reducible] def aRng1 (t : ATA) : ATI := fun ρ S R => t ρ S fun ps S1 => on1 ps fun x => onI x fun j => -(2 ^ 62) ≤ j ∧ j < 2 ^ 62 ∧ R cT (rngI 0 j.toNat) S1
theorem rngI_get {lo : Int} {n i : Nat} {it : AItem} (h : (rngI lo n)[i]? = some it) : i < n ∧ it = .one (.int (lo + (i : Nat))) := by
  unfold rngI at h
  rw [List.getElem?_map] at h
  by_cases hi : i < n
  · rw [List.getElem?_range hi] at h
    cases h
    exact ⟨hi, rfl⟩
  · rw [List.getElem?_eq_none (by simpa using hi)] at h
    cases h
theorem rngI_len {lo : Int} {n : Nat} : (rngI lo n).length = n := by unfold rngI; simp
theorem yl_rng {lo : Int} {n : Nat} : Yl K W (Itr lo n) cT (rngI lo n) where
  go := fun W' S H i l I' _ hi => by rw [rngI_len] at hi; exact hi
  stop := fun W' S H l I' _ => by rw [rngI_len]; exact Nat.le_refl n
  yld := fun W' S H i it x H' l I' _ e ⟨e1, e2⟩ => by
    subst e1 e2
    obtain ⟨_, rfl⟩ := rngI_get e
    exact ⟨I', .one (.int _)⟩
theorem si_rng1 {t : TA} {f : ATA} (ha : SA K t f) : SI K (iRng1 t) (aRng1 f) := ⟨fun I E h c =>
  ha.run I E h fun W1 S1 xs ps H1 l1 I1 r1 h1 => by
    obtain ⟨v, p, rfl, rfl, r, h1⟩ := r1.on1 h1
    obtain ⟨j, rfl, _, h2, h3, h1⟩ := r.onI h1
    exact ⟨j, rfl, h2, h3, c _ _ _ _ _ _ l1 I1 yl_rng h1⟩⟩
end
end L5

namespace L5
open PySem PySem.Spec PyProof.Rows L2 L3
structure AEnds where
  nx : AEnv → Sto → Prop
  rt : AV
  bk : AEnv → Sto → Prop := fun _ _ => False
  ct : AEnv → Sto → Prop := fun _ _ => False
abbrev ATS := AEnds → AEnv → Sto → Prop
section
variable (K : PySem.W.Frag)
def CS (W : Wd) (P : AEnv → Sto → Prop) (Q : St → Hp → Prop) : Prop := ∀ W' S σ ρ H, W.Le W' → In K W' S H → ER K W' σ ρ → P ρ S → Q σ H
structure SEnds (W : Wd) (D : Ends) (D' : AEnds) : Prop where
  nx : CS K W D'.nx D.nx
  rt : CE K W D'.rt D.rt
  bk : CS K W D'.bk D.bk
  ct : CS K W D'.ct D.ct
structure SS (t : TS) (f : ATS) : Prop where
  run : ∀ {W S σ ρ H D D'}, In K W S H → ER K W σ ρ → f D' ρ S → SEnds K W D D' → t D σ H
end
section
variable {K : PySem.W.Frag} {W W' : Wd} {S : Sto} {H : Hp} {P : AV} {Q : VK} {I : Hp} {ad : List Addr}
theorem CS.up {P : AEnv → Sto → Prop} {Q : St → Hp → Prop} (l : W.Le W') (c : CS K W P Q) : CS K W' P Q := fun W2 S σ ρ H k I E h => c W2 S σ ρ H (l.trans k) I E h
theorem SEnds.up {D : Ends} {D' : AEnds} (l : W.Le W') (c : SEnds K W D D') : SEnds K W' D D' := ⟨c.nx.up l, c.rt.up l, c.bk.up l, c.ct.up l⟩
variable {t u : TS} {f g : ATS} {te : TE} {fe : ATE} {tt : TT} {ft : ATT} {ta : TA} {fa : ATA}
@[reducible] def aNext : ATS := fun D ρ S => D.nx ρ S
@[reducible] def aSeq (s t : ATS) : ATS := fun D ρ S => s { nx := t D, rt := D.rt, bk := D.bk, ct := D.ct } ρ S
def aJoin (s t : ATS) : ATS := fun D ρ S => ∃ M : AEnv → Sto → Prop, s { nx := M, rt := D.rt, bk := D.bk, ct := D.ct } ρ S ∧ ∀ ρ' S', M ρ' S' → t D ρ' S'
@[reducible] def aDrop (e : ATE) : ATS := fun D ρ S => e ρ S fun _ S1 => D.nx ρ S1
@[reducible] def aRet (e : ATE) : ATS := fun D ρ S => e ρ S D.rt
@[reducible] def aIfS (c : ATT) (s t : ATS) : ATS := fun D ρ S => c ρ S fun b S1 => br b (s D ρ S1) (t D ρ S1)
@[reducible] def aAsg (e : ATE) (g : AG) : ATS := fun D ρ S => e ρ S fun x S1 => g (.one x) ρ S1 D.nx
@[reducible] def aPar (i j : Nat) (a : ATA) : ATS := fun D ρ S => a ρ S fun ps S1 => match ps with
  | [p, q] => setE ρ i p fun ρ1 => setE ρ1 j q fun ρ2 => D.nx ρ2 S1
  | _ => False
theorem ss_nil : SS K tNext aNext := ⟨fun I E h c => c.nx _ _ _ _ _ (.refl _) I E h⟩
theorem ss_cons (h1 : SS K t f) (h2 : SS K u g) : SS K (tSeq t u) (aSeq f g) := ⟨fun I E h c =>
  h1.run I E h ⟨fun W1 S1 σ1 ρ1 H1 l I1 E1 k => h2.run I1 E1 k (c.up l), c.rt, c.bk, c.ct⟩⟩
theorem ss_join (h1 : SS K t f) (h2 : SS K u g) : SS K (tJoin t u) (aJoin f g) := ⟨fun {W S σ ρ H D D'} I E ⟨M, h, k⟩ c =>
  ⟨fun τ G => ∃ W' S' ρ', W.Le W' ∧ In K W' S' G ∧ ER K W' τ ρ' ∧ M ρ' S',
    h1.run I E h ⟨fun W1 S1 σ1 ρ1 H1 l I1 E1 k => ⟨W1, S1, ρ1, l, I1, E1, k⟩, c.rt, c.bk, c.ct⟩,
    fun τ G ⟨W', S', ρ', l, I', E', m⟩ => h2.run I' E' (k ρ' S' m) (c.up l)⟩⟩
theorem ss_expr (he : SE K te fe) : SS K (tDrop te) (aDrop fe) := ⟨fun I E h c =>
  he.run I E h fun W1 S1 x p H1 l1 I1 r1 h1 => c.nx _ _ _ _ _ l1 I1 (E.up l1.toLo) h1⟩
theorem ss_ret (he : SE K te fe) : SS K (tRet te) (aRet fe) := ⟨fun I E h c => he.run I E h c.rt⟩
theorem ss_if (hc : STs K tt ft) (h1 : SS K t f) (h2 : SS K u g) : SS K (tIfS tt t u) (aIfS ft f g) := ⟨fun I E h c =>
  hc.run I E h fun W1 S1 k H1 l1 I1 h3 => by
    cases k with
    | true => rw [if_pos rfl]; exact h1.run I1 (E.up l1.toLo) (h3.t rfl) (c.up l1)
    | false => rw [if_neg Bool.false_ne_true]; exact h2.run I1 (E.up l1.toLo) (h3.f rfl) (c.up l1)⟩
theorem ss_asg {g : TG} {fg : AG} {ws : List Nat} (he : SE K te fe) (hg : SG K g fg ws) : SS K (tAsg te g) (aAsg fe fg) := ⟨fun I E h c =>
  he.run I E h fun W1 S1 x p H1 l1 I1 r1 h1 => hg.run I1 (E.up l1.toLo) (.one r1) h1 fun W2 S2 σ2 ρ2 H2 l2 I2 E2 _ k => c.nx _ _ _ _ _ (l1.trans l2) I2 E2 k⟩
theorem ss_par {i j : Nat} (ha : SA K ta fa) : SS K (tPar i j ta) (aPar i j fa) := ⟨fun I E h c =>
  ha.run I E h fun W1 S1 xs ps H1 l1 I1 r1 h1 => by
    cases r1 with
    | nil => exact h1.elim
    | cons r1 r2 => cases r2 with
      | nil => exact h1.elim
      | cons r2 r3 => cases r3 with
        | cons _ _ => exact h1.elim
        | nil => exact ⟨_, _, rfl, c.nx _ _ _ _ _ l1 I1 (((E.up l1.toLo).put r1 i).put r2 j) h1.h.h⟩⟩
def aLoop (C : Sto → Prop) (its : List AItem) (g : AG) (b : ATS) (D : AEnds) (ρ : AEnv) (S : Sto) : Prop :=
  ∃ Iv : Nat → AEnv → Sto → Prop, Iv 0 ρ S ∧ ∀ i ρ S, Iv i ρ S → C S ∧ ((i = its.length ∧ D.nx ρ S) ∨ ∃ it, its[i]? = some it ∧ g it ρ S fun ρ1 S1 => b { nx := Iv (i + 1), ct := Iv (i + 1), bk := D.nx, rt := D.rt } ρ1 S1)
@[reducible] def aFor (w : ATI) (g : AG) (b : ATS) : ATS := fun D ρ S => w ρ S fun C its S1 => aLoop C its g b D ρ S1
theorem ss_for {wi : TI} {fi : ATI} {g : TG} {fg : AG} {ws : List Nat} (hi : SI K wi fi) (hg : SG K g fg ws) (hb : SS K t f) : SS K (tFor wi g t) (aFor fi fg f) := ⟨fun {W S σ ρ H D D'} I E h c =>
  hi.run I E h fun W1 S1 J C its H1 l1 I1 y ⟨Iv, h0, step⟩ => by
    refine ⟨fun i m σ H => ∃ W2 S2 ρ2, W1.Le W2 ∧ In K W2 S2 H ∧ ER K W2 σ ρ2 ∧ Iv i ρ2 S2 ∧ i ≤ its.length ∧ m = its.length - i, ⟨its.length - 0, W1, S1, ρ, .refl _, I1, E.up l1.toLo, h0, Nat.zero_le _, rfl⟩, ?_⟩
    rintro i m σ2 H2 ⟨W2, S2, ρ2, l2, I2, E2, iv, hle, rfl⟩
    obtain ⟨hC, h⟩ := step i ρ2 S2 iv
    rcases h with ⟨rfl, h⟩ | ⟨it, e, h⟩
    · exact .inl ⟨y.stop W2 S2 H2 l2.toLo I2 hC, c.nx _ _ _ _ _ (l1.trans l2) I2 E2 h⟩
    · have hlt := (List.getElem?_eq_some_iff.mp e).1
      refine .inr ⟨y.go W2 S2 H2 i l2.toLo I2 hC hlt, fun σ H => ∃ W3 S3 ρ3, W1.Le W3 ∧ In K W3 S3 H ∧ ER K W3 σ ρ3 ∧ Iv (i + 1) ρ3 S3, fun σ3 H3 ⟨W3, S3, ρ3, l3, I3, E3, iv3⟩ => ⟨its.length - (i + 1), by omega, W3, S3, ρ3, l3, I3, E3, iv3, hlt, rfl⟩, fun x H3 hy => ?_⟩
      obtain ⟨I3, r3⟩ := y.yld W2 S2 H2 i it x H3 l2.toLo I2 hC e hy
      exact hg.run I3 E2 r3 h fun W4 S4 σ4 ρ4 H4 l4 I4 E4 _ k4 => hb.run I4 E4 k4
        ⟨fun W5 S5 σ5 ρ5 H5 l5 I5 E5 k5 => ⟨W5, S5, ρ5, (l2.trans l4).trans l5, I5, E5, k5⟩, c.rt.up ((l1.trans l2).trans l4), c.nx.up ((l1.trans l2).trans l4), fun W5 S5 σ5 ρ5 H5 l5 I5 E5 k5 => ⟨W5, S5, ρ5, (l2.trans l4).trans l5, I5, E5, k5⟩⟩⟩
def aComp (C : Sto → Prop) (its : List AItem) (g : AG) (at' : ATT) (ae : ATE) (ρ : AEnv) (S : Sto) (R : List PV → Sto → Prop) : Prop :=
  ∃ Iv : Nat → Sto → List PV → Prop, Iv 0 S [] ∧ ∀ i S acc, Iv i S acc → C S ∧ ((i = its.length ∧ R acc S) ∨ ∃ it, its[i]? = some it ∧ g it ρ S fun ρ2 S2 => at' ρ2 S2 fun b S3 =>
    br b (ae ρ2 S3 fun y S4 => acc.length < sizeLine ∧ Iv (i + 1) S4 (acc ++ [y])) (Iv (i + 1) S3 acc))
@[reducible] def aLc (w : ATI) (g : AG) (at' : ATT) (ae : ATE) (vs : List Nat) : ATE := fun ρ S P => w ρ S fun C its S1 => aComp C its g at' ae (hides ρ vs) S1 fun acc S2 => P (.lst acc) S2
theorem lc_core {wi : TI} {fi : ATI} {g : TG} {fg : AG} {ws vs : List Nat} (hi : SI K wi fi) (hg : SG K g fg ws) (hw : ∀ i ∈ ws, i ∈ vs) (ht : STs K tt ft) (he : SE K te fe) {σ : St} {ρ : AEnv} {R : List PV → Sto → Prop} (I : In K W S H) (E : ER K W σ ρ)
    (h : fi ρ S fun C its S1 => aComp C its fg ft fe (hides ρ vs) S1 R)
    (c : ∀ W' S' p us acc H', W.Le W' → In K ⟨W'.I, W'.ad, (p, .lst us) :: W'.fr⟩ S' H' → VRs K W'.I W'.ad us acc → R acc S' → Q (.ref p) H') : tLc wi g tt te vs σ H Q :=
  hi.run I E h fun W1 S1 J C its H1 l1 I1 y ⟨Iv, h0, step⟩ => by
    intro D hD
    refine ⟨fun i m H => ∃ W2 S2 us acc, W1.Le W2 ∧ In K ⟨W2.I, W2.ad, (D, .lst us) :: W1.fr⟩ S2 H ∧ VRs K W2.I W2.ad us acc ∧ Iv i S2 acc ∧ i ≤ its.length ∧ m = its.length - i, ⟨its.length - 0, W1, S1, [], [], .refl _, I1.push hD, .nil, h0, Nat.zero_le _, rfl⟩, ?_⟩
    rintro i m H2 ⟨W2, S2, us, acc, l2, I2, ra, iv, hle, rfl⟩
    obtain ⟨hC, h⟩ := step i S2 acc iv
    have lo : W1.Lo ⟨W2.I, W2.ad, (D, .lst us) :: W1.fr⟩ := ⟨l2.ex, l2.ad⟩
    rcases h with ⟨rfl, h⟩ | ⟨it, e, h⟩
    · refine .inl ⟨y.stop _ S2 H2 lo I2 hC, c W2 S2 D us acc H2 (l1.trans l2) ?_ ra h⟩
      rw [l2.fr]
      exact I2
    · have hlt := (List.getElem?_eq_some_iff.mp e).1
      refine .inr ⟨y.go _ S2 H2 i lo I2 hC hlt, fun H => ∃ W3 S3 us3 acc3, W1.Le W3 ∧ In K ⟨W3.I, W3.ad, (D, .lst us3) :: W1.fr⟩ S3 H ∧ VRs K W3.I W3.ad us3 acc3 ∧ Iv (i + 1) S3 acc3, fun H3 ⟨W3, S3, us3, acc3, l3, I3, r3, iv3⟩ => ⟨its.length - (i + 1), by omega, W3, S3, us3, acc3, l3, I3, r3, iv3, hlt, rfl⟩, fun x H3 hy => ?_⟩
      obtain ⟨I3, r3⟩ := y.yld _ S2 H2 i it x H3 lo I2 hC e hy
      have E3 : ER K ⟨W2.I, W2.ad, (D, .lst us) :: W1.fr⟩ (wipe σ vs) (hides ρ vs) := (E.wipe vs).up (W' := ⟨W2.I, W2.ad, (D, .lst us) :: W1.fr⟩) ⟨l1.ex.trans l2.ex, fun k a e => l2.ad k a (l1.ad k a e)⟩
      refine hg.run I3 E3 r3 h fun W4 S4 σ4 ρ4 H4 l4 I4 E4 fx k4 => ⟨?_, ht.run I4 E4 k4 fun W5 S5 b H5 l5 I5 k5 => ?_⟩
      · have := fx vs hw
        rw [this]
        have idem : ∀ (zs vs : List Nat), (∀ i ∈ zs, i ∈ vs) → wipe (wipe σ vs) zs = wipe σ vs := by
          intro zs vs hz
          induction zs with
          | nil => rfl
          | cons z zs ih =>
            show (wipe (wipe σ vs) zs).set z none = wipe σ vs
            rw [ih fun i hi => hz i (List.mem_cons_of_mem _ hi)]
            have hm := hz z List.mem_cons_self
            clear ih hz
            have none_at : ∀ {vs : List Nat}, z ∈ vs → (wipe σ vs).set z none = wipe σ vs := by
              intro vs
              induction vs with
              | nil => intro h; cases h
              | cons v vs ih =>
                intro h
                unfold wipe
                by_cases hv : z = v
                · subst hv; rw [List.set_set]
                · rcases List.mem_cons.mp h with rfl | h
                  · exact absurd rfl hv
                  · rw [List.set_comm _ _ (fun e => hv e.symm), ih h]
            exact none_at hm
        exact idem vs vs fun _ h => h
      · have l45 := l4.trans l5
        cases b with
        | false =>
          rw [if_neg Bool.false_ne_true]
          have k5 : Iv (i + 1) S5 acc := k5.f rfl
          obtain ⟨I5x, ad5, fr5⟩ := W5
          have hf : fr5 = (D, .lst us) :: W1.fr := l45.fr
          subst hf
          exact ⟨⟨I5x, ad5, W1.fr⟩, S5, us, acc, ⟨⟨l2.ex.trans l45.ex, fun k a e => l45.ad k a (l2.ad k a e)⟩, rfl⟩, I5, ra.up (W := ⟨W2.I, W2.ad, []⟩) (W' := ⟨I5x, ad5, []⟩) ⟨l45.ex, l45.ad⟩, k5⟩
        | true =>
          rw [if_pos rfl]
          refine he.run I5 (E4.up l5.toLo) (k5.t rfl) fun W6 S6 z pz H6 l6 I6 r6 ⟨hz, k6⟩ => ?_
          have l46 := l45.trans l6
          obtain ⟨I6x, ad6, fr6⟩ := W6
          have hf : fr6 = (D, .lst us) :: W1.fr := l46.fr
          subst hf
          obtain ⟨hD6, up⟩ := I6.pop
          have ra6 : VRs K I6x ad6 us acc := ra.up (W := ⟨W2.I, W2.ad, []⟩) (W' := ⟨I6x, ad6, []⟩) ⟨l46.ex, l46.ad⟩
          exact ⟨us, hD6, by rw [ra.length]; exact hz, ⟨I6x, ad6, W1.fr⟩, S6, us ++ [z], acc ++ [pz], ⟨⟨l2.ex.trans l46.ex, fun k a e => l46.ad k a (l2.ad k a e)⟩, rfl⟩, up _, ra6.append (.cons r6 .nil), k6⟩
theorem se_lc {wi : TI} {fi : ATI} {g : TG} {fg : AG} {ws vs : List Nat} (hi : SI K wi fi) (hg : SG K g fg ws) (hw : ∀ i ∈ ws, i ∈ vs) (ht : STs K tt ft) (he : SE K te fe) : SE K (tLc wi g tt te vs) (aLc fi fg ft fe vs) := ⟨fun {W S σ ρ H Q P} I E h c =>
  lc_core hi hg hw ht he I E h fun W' S' p us acc H' l I' r k => by
    obtain ⟨I2, l2, r2⟩ := I'.fin r
    exact c _ _ _ _ _ ⟨⟨l.ex.trans l2.ex, fun k a e => l2.ad k a (l.ad k a e)⟩, l.fr⟩ I2 r2 k⟩
def cSp (K : PySem.W.Frag) (g : AL) : Sp := fun vs H Q _ => ∃ W S ps P, In K W S H ∧ VRs K W.I W.ad vs ps ∧ g ps S P ∧ CE K W P Q
theorem se_call {g : AL} (ha : SA K ta fa) : SE K (tCall (cSp K g) [] E0 ta) (aCB g fa) := ⟨fun {W S σ ρ H Q P} I E h c =>
  ha.run I E h fun W1 S1 xs ps H1 l1 I1 r1 h1 => ⟨W1, S1, ps, P, I1, by rw [List.append_nil]; exact r1, h1, c.up l1⟩⟩
@[reducible] def startA : List Str → List PV → AEnv
  | [], _ => []
  | _ :: N, v :: vs => some v :: startA N vs
  | _ :: N, [] => none :: startA N []
theorem ER.start : ∀ {N : List Str} {us : List V} {ps : List PV}, VRs K W.I W.ad us ps → us.length ≤ N.length → ER K W (L2.start N us) (startA N ps)
  | [], us, ps, r, h => by
    cases r with
    | nil => exact .nil
    | cons _ _ => exact absurd h (by simp)
  | x :: N, us, ps, r, h => by
    cases r with
    | nil =>
      have e : L2.start (x :: N) [] = none :: L2.start N [] := by unfold L2.start; simp [List.replicate_succ]
      rw [e]
      exact .any (ER.start (us := []) (ps := []) .nil (Nat.zero_le _))
    | cons r rs =>
      rename_i v p vs qs
      have e : L2.start (x :: N) (v :: vs) = some v :: L2.start N vs := by unfold L2.start; simp
      rw [e]
      exact .cons r (ER.start rs (by simpa using h))
theorem okA {P : Program} {w : World} {mg : Str → Option Value} {base : Heap} {x qual : Str} {st : Stmt} {f : Addr} {fd : FuncData} {N ps : List Str} {k : Nat} {asp : AL} {t : TS} {fs : ATS} (F : Fun K x qual st f fd) (Sc : FnScope N ps (defScope st))
    (hp : ∀ (cdv : Value) (A : Around) (outer : List Env) (s : Shared) (H : Hp) (E : XK), (A.deeper (envOfC qual (defScope st) s.heap.objs.size f cdv)).guards = some [] → Room k (A.deeper (envOfC qual (defScope st) s.heap.objs.size f cdv)) → PSs (cxOf CX0 P w K mg base N qual (defScope st) f cdv A outer s H E).nox (defBody st) t)
    (hs : SS K t fs) (hN : ps.length ≤ N.length) (hlen : ∀ vs S R, asp vs S R → vs.length = ps.length) (h : ∀ vs S R, asp vs S R → fs { nx := fun _ S => R .non S, rt := R } (startA N vs) S) : FnG P w K mg base CX0 (k + 1) f fd ps (cSp K asp) := by
  refine okG F Sc (fun vs H Q E h => ?_) (fun cdv A outer s H vs Q E hgd hr h2 => ⟨t, hp cdv A outer s H E hgd hr, ?_⟩)
  · obtain ⟨W, S, qs, R, _, r, h3, _⟩ := h
    rw [r.length]
    exact hlen _ _ _ h3
  · obtain ⟨W, S, qs, R, I, r, h3, c⟩ := h2
    exact hs.run I (ER.start r (by rw [r.length, hlen _ _ _ h3]; exact hN)) (h _ _ _ h3) ⟨fun W' S' σ ρ H' l I' _ k => c _ _ _ _ _ l I' .non k, c, fun _ _ _ _ _ _ _ _ k => k.elim, fun _ _ _ _ _ _ _ _ k => k.elim⟩
end
def pickL {α : Type} (sel : List Nat) (vs : List α) : List α := sel.filterMap fun i => vs[i]?
theorem VRs.pick {K : PySem.W.Frag} {I : Hp} {ad : List Addr} {vs : List V} {ps : List PV} (h : VRs K I ad vs ps) : ∀ sel : List Nat, VRs K I ad (pickL sel vs) (pickL sel ps)
  | [] => .nil
  | i :: sel => by
    have ih := VRs.pick h sel
    unfold pickL at ih ⊢
    rw [List.filterMap_cons, List.filterMap_cons]
    cases e : vs[i]? with
    | none =>
      have e2 : ps[i]? = none := by
        rw [List.getElem?_eq_none_iff] at e ⊢
        rw [← h.length]; exact e
      rw [e2]
      exact ih
    | some v =>
      obtain ⟨p, hp, r⟩ := h.getV e
      rw [hp]
      exact .cons r ih
theorem vals_pick {vs : List V} {us : List Value} (h : Vals vs us) : ∀ sel : List Nat, Vals (pickL sel vs) (pickL sel us)
  | [] => .nil
  | i :: sel => by
    have ih := vals_pick h sel
    have hl : vs.length = us.length := h.length
    unfold pickL at ih ⊢
    rw [List.filterMap_cons, List.filterMap_cons]
    cases e : vs[i]? with
    | none =>
      have e2 : us[i]? = none := by
        rw [List.getElem?_eq_none_iff] at e ⊢
        rw [← hl]; exact e
      rw [e2]
      exact ih
    | some v =>
      obtain ⟨u, hu, r⟩ := h.get e
      rw [hu]
      exact .cons r ih
theorem law_start {K : PySem.W.Frag} {H : Hp} {a : Addr} {ns : List Int} {g : AL} {E : XK} (hS : SqL K H a (ns.map V.int)) (h : g [.scr ns] [] fun p _ => p = .bl true) : cSp K g [.ref a] H (fun v _ => v = .bl true) E :=
  ⟨⟨H, [], []⟩, [], [.scr ns], _, ⟨⟨[], ⟨Ex.refl H, fun p hp => absurd hp List.not_mem_nil, List.Pairwise.nil⟩, rfl, rfl, fun k o a e => by cases e⟩, fun p hp => absurd hp List.not_mem_nil⟩, .cons (.scr hS) .nil, h, fun W' S v p H' _ _ r e => by subst e; cases r; rfl⟩
def pk {K : PySem.W.Frag} {t : TS} {f : ATS} (h : SS K t f) : {tf : TS × ATS // SS K tf.1 tf.2} := ⟨(t, f), h⟩
section
variable {A B : Prop} {p : Prop} [Decidable p] {c : Bool}
theorem r_br (h1 : p → A) (h2 : ¬ p → B) : br (decide p) A B := ⟨fun e => h1 (of_decide_eq_true e), fun e => h2 (of_decide_eq_false e)⟩
theorem r_brT (h : A) : br true A B := ⟨fun _ => h, fun e => nomatch e⟩
theorem r_brF (h : B) : br false A B := ⟨(fun e => nomatch e), fun _ => h⟩
theorem r_brN (h : br c B A) : br (!c) A B := by cases c with
  | true => exact r_brF (h.t rfl)
  | false => exact r_brT (h.f rfl)
theorem r_by (hp : p) (h : A) : br (decide p) A B := by rw [decide_eq_true hp]; exact r_brT h
theorem r_bn (hp : ¬ p) (h : B) : br (decide p) A B := by rw [decide_eq_false hp]; exact r_brF h
theorem r_bb (h1 : c = true → A) (h2 : c = false → B) : br c A B := ⟨h1, h2⟩
theorem r_onL {o : Option (List PV)} {xs : List PV} {P : List PV → Prop} (e : o = some xs) (h : P xs) : onL o P := ⟨xs, e, h⟩
theorem r_onO {α : Type} {o : Option α} {x : α} {P : α → Prop} (e : o = some x) (h : P x) : onO o P := ⟨x, e, h⟩
variable {C : Sto → Prop} {its : List AItem} {g : AG} {b : ATS} {D : AEnds} {ρ : AEnv} {S : Sto}
theorem loop_inv (Iv : Nat → AEnv → Sto → Prop) (h0 : Iv 0 ρ S) (hC : ∀ i ρ S, Iv i ρ S → C S) (hs : ∀ i it ρ S, its[i]? = some it → Iv i ρ S → g it ρ S fun ρ1 S1 => b { nx := Iv (i + 1), ct := Iv (i + 1), bk := D.nx, rt := D.rt } ρ1 S1)
    (hd : ∀ ρ S, Iv its.length ρ S → D.nx ρ S) : aLoop C its g b D ρ S := by
  refine ⟨fun i ρ S => i ≤ its.length ∧ Iv i ρ S, ⟨Nat.zero_le _, h0⟩, fun i ρ S ⟨hi, iv⟩ => ⟨hC i ρ S iv, ?_⟩⟩
  by_cases h : i = its.length
  · subst h
    exact .inl ⟨rfl, hd ρ S iv⟩
  · have hlt : i < its.length := by omega
    have e : its[i]? = some its[i] := List.getElem?_eq_getElem hlt
    have e2 : (fun ρ S => i + 1 ≤ its.length ∧ Iv (i + 1) ρ S) = Iv (i + 1) := by
      funext ρ S
      exact propext ⟨fun z => z.2, fun z => ⟨hlt, z⟩⟩
    refine .inr ⟨_, e, ?_⟩
    show g its[i] ρ S fun ρ1 S1 => b { nx := fun ρ S => i + 1 ≤ its.length ∧ Iv (i + 1) ρ S, ct := fun ρ S => i + 1 ≤ its.length ∧ Iv (i + 1) ρ S, bk := D.nx, rt := D.rt } ρ1 S1
    rw [e2]
    exact hs i _ ρ S e iv
theorem loop_one {xs : List PV} (Iv : Nat → AEnv → Sto → Prop) (h0 : Iv 0 ρ S) (hs : ∀ i x ρ S, xs[i]? = some x → Iv i ρ S → g (.one x) ρ S fun ρ1 S1 => b { nx := Iv (i + 1), ct := Iv (i + 1), bk := D.nx, rt := D.rt } ρ1 S1)
    (hd : ∀ ρ S, Iv xs.length ρ S → D.nx ρ S) : aLoop cT (xs.map .one) g b D ρ S :=
  loop_inv Iv h0 (fun _ _ _ _ => trivial) (fun i it ρ S e iv => by
    obtain ⟨x, hx, rfl⟩ := one_get e
    exact hs i x ρ S hx iv) fun ρ S iv => hd ρ S (by rw [List.length_map] at iv; exact iv)
theorem loop_rng {lo : Int} {n : Nat} (Iv : Nat → AEnv → Sto → Prop) (h0 : Iv 0 ρ S) (hs : ∀ i ρ S, i < n → Iv i ρ S → g (.one (.int (lo + (i : Nat)))) ρ S fun ρ1 S1 => b { nx := Iv (i + 1), ct := Iv (i + 1), bk := D.nx, rt := D.rt } ρ1 S1)
    (hd : ∀ ρ S, Iv n ρ S → D.nx ρ S) : aLoop cT (rngI lo n) g b D ρ S :=
  loop_inv Iv h0 (fun _ _ _ _ => trivial) (fun i it ρ S e iv => by
    obtain ⟨hi, rfl⟩ := rngI_get e
    exact hs i ρ S hi iv) fun ρ S iv => hd ρ S (by rw [rngI_len] at iv; exact iv)
theorem loop_rng0 {n : Nat} (Iv : Nat → AEnv → Sto → Prop) (h0 : Iv 0 ρ S) (hs : ∀ i ρ S, i < n → Iv i ρ S → g (.one (.int (i : Nat))) ρ S fun ρ1 S1 => b { nx := Iv (i + 1), ct := Iv (i + 1), bk := D.nx, rt := D.rt } ρ1 S1)
    (hd : ∀ ρ S, Iv n ρ S → D.nx ρ S) : aLoop cT (rngI 0 n) g b D ρ S := loop_rng Iv h0 (fun i ρ S hi iv => by rw [Int.zero_add]; exact hs i ρ S hi iv) hd
variable {at' : ATT} {ae : ATE} {R : List PV → Sto → Prop}
theorem comp_inv (Iv : Nat → Sto → List PV → Prop) (h0 : Iv 0 S []) (hC : ∀ i S acc, Iv i S acc → C S) (hs : ∀ i it S acc, its[i]? = some it → Iv i S acc → g it ρ S fun ρ2 S2 => at' ρ2 S2 fun b S3 => br b (ae ρ2 S3 fun y S4 => acc.length < sizeLine ∧ Iv (i + 1) S4 (acc ++ [y])) (Iv (i + 1) S3 acc))
    (hd : ∀ S acc, Iv its.length S acc → R acc S) : aComp C its g at' ae ρ S R := by
  refine ⟨fun i S acc => i ≤ its.length ∧ Iv i S acc, ⟨Nat.zero_le _, h0⟩, fun i S acc ⟨hi, iv⟩ => ⟨hC i S acc iv, ?_⟩⟩
  by_cases h : i = its.length
  · subst h
    exact .inl ⟨rfl, hd S acc iv⟩
  · have hlt : i < its.length := by omega
    have e : its[i]? = some its[i] := List.getElem?_eq_getElem hlt
    have e2 : (fun S acc => i + 1 ≤ its.length ∧ Iv (i + 1) S acc) = Iv (i + 1) := by
      funext ρ S
      exact propext ⟨fun z => z.2, fun z => ⟨hlt, z⟩⟩
    refine .inr ⟨_, e, ?_⟩
    show g its[i] ρ S fun ρ2 S2 => at' ρ2 S2 fun b S3 => br b (ae ρ2 S3 fun y S4 => acc.length < sizeLine ∧ (fun S acc => i + 1 ≤ its.length ∧ Iv (i + 1) S acc) S4 (acc ++ [y])) ((fun S acc => i + 1 ≤ its.length ∧ Iv (i + 1) S acc) S3 acc)
    rw [e2]
    exact hs i _ S acc e iv
theorem comp_rng {lo : Int} {n : Nat} (Iv : Nat → Sto → List PV → Prop) (h0 : Iv 0 S []) (hs : ∀ i S acc, i < n → Iv i S acc → g (.one (.int (lo + (i : Nat)))) ρ S fun ρ2 S2 => at' ρ2 S2 fun b S3 => br b (ae ρ2 S3 fun y S4 => acc.length < sizeLine ∧ Iv (i + 1) S4 (acc ++ [y])) (Iv (i + 1) S3 acc))
    (hd : ∀ S acc, Iv n S acc → R acc S) : aComp cT (rngI lo n) g at' ae ρ S R :=
  comp_inv Iv h0 (fun _ _ _ _ => trivial) (fun i it S acc e iv => by
    obtain ⟨hi, rfl⟩ := rngI_get e
    exact hs i S acc hi iv) fun S acc iv => hd S acc (by rw [rngI_len] at iv; exact iv)
theorem comp_rng0 {n : Nat} (Iv : Nat → Sto → List PV → Prop) (h0 : Iv 0 S []) (hs : ∀ i S acc, i < n → Iv i S acc → g (.one (.int (i : Nat))) ρ S fun ρ2 S2 => at' ρ2 S2 fun b S3 => br b (ae ρ2 S3 fun y S4 => acc.length < sizeLine ∧ Iv (i + 1) S4 (acc ++ [y])) (Iv (i + 1) S3 acc))
    (hd : ∀ S acc, Iv n S acc → R acc S) : aComp cT (rngI 0 n) g at' ae ρ S R := comp_rng Iv h0 (fun i S acc hi iv => by rw [Int.zero_add]; exact hs i S acc hi iv) hd
end
end L5

namespace L5
open PySem PySem.Spec PyProof.Rows L2 L3
mutual
inductive Rsv (S : Sto) : PV → PV → Prop where
  | refl (x : PV) : Rsv S x x
  | own {k : Nat} {xs ys : List PV} : sget S k = some xs → Rsvs S xs ys → Rsv S (.own k) (.lst ys)
  | tup {xs ys : List PV} : Rsvs S xs ys → Rsv S (.tup xs) (.tup ys)
  | lst {xs ys : List PV} : Rsvs S xs ys → Rsv S (.lst xs) (.lst ys)
inductive Rsvs (S : Sto) : List PV → List PV → Prop where
  | refl (xs : List PV) : Rsvs S xs xs
  | cons {x y : PV} {xs ys : List PV} : Rsv S x y → Rsvs S xs ys → Rsvs S (x :: xs) (y :: ys)
end
section
variable {K : PySem.W.Frag} {W : Wd} {S : Sto} {H : Hp}
mutual
theorem Rsv.dp (I : In K W S H) : ∀ {v : V} {x y : PV}, VR K W.I W.ad v x → Rsv S x y → nown y = true → Dp K H v (dat y)
  | _, _, _, r, .refl _, e => Dp.up I.exH (r.dp e)
  | _, _, _, r, .own h hs, e => by
    obtain ⟨a, us, h1, h2, h3⟩ := r.lv I (xs := _) h
    subst h1
    rw [nown] at e
    rw [dat]
    exact .lst h2 (Rsvs.dp I h3 hs e)
  | _, _, _, r, .tup hs, e => by
    obtain ⟨a, us, h1, h2, h3⟩ := r.tupS I
    subst h1
    rw [nown] at e
    rw [dat]
    exact .tup h2 (Rsvs.dp I h3 hs e)
  | _, _, _, r, .lst hs, e => by
    obtain ⟨a, us, h1, h2, h3⟩ := r.lv I rfl
    subst h1
    rw [nown] at e
    rw [dat]
    exact .lst h2 (Rsvs.dp I h3 hs e)
theorem Rsvs.dp (I : In K W S H) : ∀ {vs : List V} {xs ys : List PV}, VRs K W.I W.ad vs xs → Rsvs S xs ys → nowns ys = true → DpAll K H vs (dats ys)
  | _, _, _, r, .refl _, e => DpAll.up I.exH (r.dp e)
  | _, _, _, .cons r rs, .cons h hs, e => by
    rw [nowns, Bool.and_eq_true] at e
    exact .cons (Rsv.dp I r h e.1) (Rsvs.dp I rs hs e.2)
end
def rsvTo (x : PV) (S : Sto) (P : PV → Prop) : Prop := ∃ y, Rsv S x y ∧ rpOk y ∧ P y
theorem r_rsv {x : PV} {P : PV → Prop} (h : rpOk x) (k : P x) : rsvTo x S P := ⟨x, .refl x, h, k⟩
end
structure Lay (k : Nat) (p : PV) : Prop where
  own : nown p = true
  lay : (dat p).canLay0 = true
  dep : (dat p).depth ≤ k
theorem Lay.ok {k : Nat} {p : PV} (h : Lay k p) (hk : k ≤ 64) : eqOk p := ⟨h.own, by
  unfold SeqAt.shaped
  rw [h.lay, decide_eq_true (Nat.le_trans h.dep hk)]
  rfl⟩
theorem Lay.int {k : Nat} {i : Int} : Lay k (.int i) := ⟨rfl, by simp only [dat, PyData.canLay0], by simp only [dat, PyData.depth]; omega⟩
theorem Lay.non {k : Nat} : Lay k .non := ⟨rfl, by simp only [dat, PyData.canLay0], by simp only [dat, PyData.depth]; omega⟩
theorem Lay.bl {k : Nat} {b : Bool} : Lay k (.bl b) := ⟨rfl, by simp only [dat, PyData.canLay0], by simp only [dat, PyData.depth]; omega⟩
theorem Lay.all {k : Nat} : ∀ {xs : List PV}, (∀ x ∈ xs, Lay k x) → nowns xs = true ∧ PyData.canLayAll0 (dats xs) = true ∧ PyData.depthAll (dats xs) ≤ k
  | [], _ => ⟨rfl, by simp only [dats, PyData.canLayAll0], by simp only [dats, PyData.depthAll]; omega⟩
  | x :: xs, h => by
    obtain ⟨h1, h2, h3⟩ := Lay.all (xs := xs) fun y hy => h y (List.mem_cons_of_mem _ hy)
    have hx := h x List.mem_cons_self
    refine ⟨by rw [nowns, hx.own, h1]; rfl, by simp only [dats, PyData.canLayAll0, hx.lay, h2, Bool.and_self], ?_⟩
    have := hx.dep
    simp only [dats, PyData.depthAll]
    omega
theorem Lay.tup {k : Nat} {xs : List PV} (h : ∀ x ∈ xs, Lay k x) : Lay (k + 1) (.tup xs) := by
  obtain ⟨h1, h2, h3⟩ := Lay.all h
  exact ⟨by rw [nown, h1], by simp only [dat, PyData.canLay0, h2], by simp only [dat, PyData.depth]; omega⟩
theorem Lay.lst {k : Nat} {xs : List PV} (h : ∀ x ∈ xs, Lay k x) : Lay (k + 1) (.lst xs) := by
  obtain ⟨h1, h2, h3⟩ := Lay.all h
  exact ⟨by rw [nown, h1], by simp only [dat, PyData.canLay0, h2], by simp only [dat, PyData.depth]; omega⟩
theorem Lay.ints {k : Nat} {ns : List Int} : ∀ x ∈ ns.map PV.int, Lay k x := fun x hx => by
  obtain ⟨n, _, rfl⟩ := List.mem_map.mp hx
  exact .int
abbrev iL (ns : List Int) : List PV := ns.map PV.int
theorem sget_new (S : Sto) (xs : List PV) : sget (S ++ [.lst xs]) S.length = some xs := by
  induction S with
  | nil => rfl
  | cons o S ih => exact ih
structure Dk where
  cells : List Int
  m : Int
  k : Int
def Dk.Ok (n : Int) (D : Dk) : Prop := 0 ≤ D.m ∧ D.m < 4294967296 ∧ 0 ≤ D.k ∧ D.k ≤ n ∧ D.cells.length ≤ 64
theorem Dk.Ok.up {n n' : Int} {D : Dk} (h : D.Ok n) (l : n ≤ n') : D.Ok n' := by unfold Dk.Ok at h ⊢; omega
theorem last_of {α : Type} : ∀ {l : List α}, l ≠ [] → ∃ (init : List α) (z : α), l = init ++ [z]
  | [], h => absurd rfl h
  | [z], _ => ⟨[], z, rfl⟩
  | x :: y :: l, _ => by
    obtain ⟨init, z, e⟩ := last_of (l := y :: l) (by simp)
    exact ⟨x :: init, z, by rw [e]; rfl⟩
theorem cut_iL (ns : List Int) (lo hi : Option Int) : ∃ ms : List Int, cutP (iL ns) lo hi = iL ms ∧ ms.length ≤ ns.length := by
  refine ⟨(ns.drop (HT.sIx (iL ns).length 0 lo)).take (HT.sIx (iL ns).length (iL ns).length hi - HT.sIx (iL ns).length 0 lo), ?_, ?_⟩
  · unfold cutP iL
    rw [List.map_take, List.map_drop]
  · rw [List.length_take, List.length_drop]
    omega
structure Rp (k z : Nat) (p : PV) : Prop where
  own : nown p = true
  gd : good k (dat p)
  nz : nz (dat p) ≤ z
theorem Rp.ok {k z : Nat} {p : PV} (h : Rp k z p) (hk : k ≤ 60) (hz : z ≤ 16000000) : rpOk p := ⟨⟨h.own, k, hk, h.gd⟩, Nat.le_trans h.nz hz⟩
theorem Rp.up {k z z' : Nat} {p : PV} (h : Rp k z p) (hz : z ≤ z') : Rp k z' p := ⟨h.own, h.gd, Nat.le_trans h.nz hz⟩
theorem Rp.int {k z : Nat} {i : Int} (h1 : -1000000000000000000000000 < i) (h2 : i < 1000000000000000000000000) (hz : 1921 ≤ z) : Rp k z (.int i) := ⟨rfl, good_int h1 h2, hz⟩
theorem Rp.non {k z : Nat} (hz : 4 ≤ z) : Rp k z .non := ⟨rfl, by cases k <;> trivial, hz⟩
theorem Rp.all {k z : Nat} : ∀ {xs : List PV}, (∀ x ∈ xs, Rp k z x) → nowns xs = true ∧ (∀ x ∈ dats xs, good k x) ∧ nzAll (dats xs) ≤ xs.length * (z + 2)
  | [], _ => ⟨rfl, (fun x h => by cases h), Nat.zero_le _⟩
  | x :: xs, h => by
    obtain ⟨h1, h2, h3⟩ := Rp.all (xs := xs) fun y hy => h y (List.mem_cons_of_mem _ hy)
    have hx := h x List.mem_cons_self
    refine ⟨by rw [nowns, hx.own, h1]; rfl, fun y hy => ?_, ?_⟩
    · rw [dats] at hy
      rcases List.mem_cons.mp hy with rfl | hy
      · exact hx.gd
      · exact h2 y hy
    · have e : (x :: xs).length * (z + 2) = xs.length * (z + 2) + (z + 2) := by rw [List.length_cons, Nat.succ_mul]
      have := hx.nz
      rw [dats, nzAll]
      omega
theorem Rp.tup {k z n : Nat} {xs : List PV} (h : ∀ x ∈ xs, Rp k z x) (hn : xs.length ≤ n) : Rp (k + 1) (3 + n * (z + 2)) (.tup xs) := by
  obtain ⟨h1, h2, h3⟩ := Rp.all h
  refine ⟨by rw [nown, h1], h2, ?_⟩
  have := Nat.mul_le_mul_right (z + 2) hn
  rw [dat, L3.nz]
  omega
theorem Rp.lst {k z n : Nat} {xs : List PV} (h : ∀ x ∈ xs, Rp k z x) (hn : xs.length ≤ n) : Rp (k + 1) (3 + n * (z + 2)) (.lst xs) := by
  obtain ⟨h1, h2, h3⟩ := Rp.all h
  refine ⟨by rw [nown, h1], h2, ?_⟩
  have := Nat.mul_le_mul_right (z + 2) hn
  rw [dat, L3.nz]
  omega
theorem Rp.nil {k z : Nat} : ∀ x ∈ ([] : List PV), Rp k z x := fun x h => by cases h
theorem Rp.cons {k z : Nat} {p : PV} {xs : List PV} (h : Rp k z p) (hs : ∀ x ∈ xs, Rp k z x) : ∀ x ∈ p :: xs, Rp k z x := fun x hx => by
  rcases List.mem_cons.mp hx with rfl | hx
  · exact h
  · exact hs x hx
end L5

namespace L5
open PySem PySem.Spec PyProof.Rows L2 L3
@[reducible] def stF : List PV → Nat → PV → Option (List PV)
  | [], 0, p => some [p]
  | [], _ + 1, _ => none
  | _ :: r, 0, p => some (p :: r)
  | x :: r, n + 1, p => match stF r n p with
    | some l => some (x :: l)
    | none => none
section
variable {K : PySem.W.Frag} {W W' : Wd} {S : Sto} {H : Hp} {P : AV} {Q : VK} {I : Hp} {ad : List Addr}
@[reducible] def insOf (p : PV) (S : Sto) : Option (Addr × List Str × List PV) := match p with
  | .ins C N xs => some (C, N, xs)
  | .own k => sgetI S k
  | _ => none
def onIns (p : PV) (S : Sto) (P : Addr → List Str → List PV → Prop) : Prop := ∃ C N xs, insOf p S = some (C, N, xs) ∧ P C N xs
variable {ta te : TE} {fa fe : ATE} {t tk : TA} {f fk : ATA}
def onStF (x : PV) (S : Sto) (g : Str) (i : Nat) (y : PV) (P : Nat → Addr → List Str → List PV → Prop) : Prop := ∃ k C N xs ys, x = .own k ∧ sgetI S k = some (C, N, xs) ∧ N[i]? = some g ∧ stF xs i y = some ys ∧ P k C N ys
theorem r_stF {x : PV} {S : Sto} {g : Str} {i k : Nat} {y : PV} {C : Addr} {N : List Str} {xs ys : List PV} {P : Nat → Addr → List Str → List PV → Prop} (e : x = .own k) (h1 : sgetI S k = some (C, N, xs)) (h2 : N[i]? = some g) (h3 : stF xs i y = some ys) (h : P k C N ys) : onStF x S g i y P := ⟨k, C, N, xs, ys, e, h1, h2, h3, h⟩
def onCa (ca : Addr → AL → Prop) (C : Addr) (P : AL → Prop) : Prop := ∃ g, ca C g ∧ P g
theorem r_ca {ca : Addr → AL → Prop} {C : Addr} {P : AL → Prop} {g : AL} (e : ca C g) (h : P g) : onCa ca C P := ⟨g, e, h⟩
theorem r_ins {p : PV} {S : Sto} {P : Addr → List Str → List PV → Prop} {C : Addr} {N : List Str} {xs : List PV} (e : insOf p S = some (C, N, xs)) (h : P C N xs) : onIns p S P := ⟨C, N, xs, e, h⟩
theorem In.keep1 (I : In K W S H) {p : Addr} {o : HO} (hp : H p = none) : In K ⟨upd W.I p o, W.ad, W.fr⟩ S (upd H p o) ∧ W.Le ⟨upd W.I p o, W.ad, W.fr⟩ := by
  obtain ⟨ps, O, gr⟩ := I.view
  exact gr _ _ (Ex.new (O.none hp)) (O.keep hp)
inductive Ty where
  | non | bl | int | str | tup | lst | dct
@[reducible] def aoTy (o : AO) : Option Ty := match o with
  | .lst _ => some .lst
  | .dct _ _ => some .dct
  | .dcT _ _ => none
  | .ins _ _ _ => none
  | .tab _ _ _ => none
@[reducible] def sTy : Sto → Nat → Option Ty
  | [], _ => none
  | o :: _, 0 => aoTy o
  | _ :: r, n + 1 => sTy r n
@[reducible] def tyOf (p : PV) (S : Sto) : Option Ty := match p with
  | .non => some .non
  | .bl _ => some .bl
  | .int _ => some .int
  | .str _ => some .str
  | .tup _ => some .tup
  | .kt _ => some .tup
  | .lst _ => some .lst
  | .scr _ => some .lst
  | .dct _ _ => some .dct
  | .own k => sTy S k
  | _ => none
end
end L5

namespace K01
open PySem PySem.Spec PyProof.Rows L2 L3 L5
def asp_law : AL := fun vs S P => ∃ (ns : List Int), vs = [.scr ns] ∧ S = [] ∧ ns.length ≤ 63 ∧ ∀ S', P (.bl true) S'
set_option maxHeartbeats 8000000 in
structure AllMk : Prop where
  h : ∀ {l : PySem.W.OpenLaw} {w : World} {K : PySem.W.Frag} {h : Heap} {mg : Str → Option Value} {fa f__law_source f__law_draw f__law_pick f__law_thing f__law_raise_plain f__law_raise f__law_raise_named f__law_marks f__law_wire_fields f__law_unknown_fields f__law_caught f__law_expected f_law c_Finished c_Impossible c_InvalidChange c_InvalidCommand c_InvalidLink c_InvalidTable c_InvalidText c_NameTaken c_NotItsTurn c_PurseExceeded c_TooAlike c_TooManyRounds c_Unknown c_UnknownName c_UnknownStation c_UnknownTalk c_WireError f_InvalidChange___init__ f_NameTaken___init__ f_NotItsTurn___init__ f_PurseExceeded___init__ f_TooAlike___init__ f_TooManyRounds___init__ f_UnknownName___init__ f_UnknownStation___init__ f_UnknownTalk___init__ : Addr} (X : K.In h) (G : h.Ns mainGlobals mg) (hfa : mg "law" = some (.ref fa))
    {od_0 an_0 : Option Addr} {sl_0 : Array (Option Value)} {oc_0 kV_0 dc_0 pm_0 cd_0 ct_0 : Value} {od_1 an_1 : Option Addr} {sl_1 : Array (Option Value)} {oc_1 kV_1 dc_1 pm_1 cd_1 ct_1 : Value} {od_2 an_2 : Option Addr} {sl_2 : Array (Option Value)} {oc_2 kV_2 dc_2 pm_2 cd_2 ct_2 : Value} {od_3 an_3 : Option Addr} {sl_3 : Array (Option Value)} {oc_3 kV_3 dc_3 pm_3 cd_3 ct_3 : Value} {od_4 an_4 : Option Addr} {sl_4 : Array (Option Value)} {oc_4 kV_4 dc_4 pm_4 cd_4 ct_4 : Value} {od_5 an_5 : Option Addr} {sl_5 : Array (Option Value)} {oc_5 kV_5 dc_5 pm_5 cd_5 ct_5 : Value} {od_6 an_6 : Option Addr} {sl_6 : Array (Option Value)} {oc_6 kV_6 dc_6 pm_6 cd_6 ct_6 : Value} {od_7 an_7 : Option Addr} {sl_7 : Array (Option Value)} {oc_7 kV_7 dc_7 pm_7 cd_7 ct_7 : Value} {od_8 an_8 : Option Addr} {sl_8 : Array (Option Value)} {oc_8 kV_8 dc_8 pm_8 cd_8 ct_8 : Value} {od_9 an_9 : Option Addr} {sl_9 : Array (Option Value)} {oc_9 kV_9 dc_9 pm_9 cd_9 ct_9 : Value} {od_10 an_10 : Option Addr} {sl_10 : Array (Option Value)} {oc_10 kV_10 dc_10 pm_10 cd_10 ct_10 : Value} {od_11 an_11 : Option Addr} {sl_11 : Array (Option Value)} {oc_11 kV_11 dc_11 pm_11 cd_11 ct_11 : Value} {od_12 an_12 : Option Addr} {sl_12 : Array (Option Value)} {oc_12 kV_12 dc_12 pm_12 cd_12 ct_12 : Value} {od_13 an_13 : Option Addr} {sl_13 : Array (Option Value)} {oc_13 kV_13 dc_13 pm_13 cd_13 ct_13 : Value}  {od_14 an_14 : Option Addr} {sl_14 : Array (Option Value)} {oc_14 kV_14 dc_14 pm_14 cd_14 ct_14 : Value}  {od_15 an_15 : Option Addr} {sl_15 : Array (Option Value)} {oc_15 kV_15 dc_15 pm_15 cd_15 ct_15 : Value}  {od_16 an_16 : Option Addr} {sl_16 : Array (Option Value)} {oc_16 kV_16 dc_16 pm_16 cd_16 ct_16 : Value}  {od_17 an_17 : Option Addr} {sl_17 : Array (Option Value)} {oc_17 kV_17 dc_17 pm_17 cd_17 ct_17 : Value}  {od_18 an_18 : Option Addr} {sl_18 : Array (Option Value)} {oc_18 kV_18 dc_18 pm_18 cd_18 ct_18 : Value}  {od_19 an_19 : Option Addr} {sl_19 : Array (Option Value)} {oc_19 kV_19 dc_19 pm_19 cd_19 ct_19 : Value}  {od_20 an_20 : Option Addr} {sl_20 : Array (Option Value)} {oc_20 kV_20 dc_20 pm_20 cd_20 ct_20 : Value}  {od_21 an_21 : Option Addr} {sl_21 : Array (Option Value)} {oc_21 kV_21 dc_21 pm_21 cd_21 ct_21 : Value} 
    (a__law_source : PySem.W.nsIn K mainGlobals "_law_source" = some (some (.ref f__law_source)))
    (l__law_source : K.lookup f__law_source = some ⟨oc_0, od_0, .func (PySem.W.fnOf "_law_source" "_law_source" (defArgs st__law_source) (defBody st__law_source) (defScope st__law_source) .none kV_0 dc_0 pm_0 an_0 cd_0 ct_0), sl_0⟩)
    (c__law_source : PySem.W.codeIn K cd_0 "_law_source" = true)
    (k__law_source : PySem.W.keepIn K (.ref f__law_source) = true)
    (a__law_draw : PySem.W.nsIn K mainGlobals "_law_draw" = some (some (.ref f__law_draw)))
    (l__law_draw : K.lookup f__law_draw = some ⟨oc_1, od_1, .func (PySem.W.fnOf "_law_draw" "_law_draw" (defArgs st__law_draw) (defBody st__law_draw) (defScope st__law_draw) .none kV_1 dc_1 pm_1 an_1 cd_1 ct_1), sl_1⟩)
    (c__law_draw : PySem.W.codeIn K cd_1 "_law_draw" = true)
    (k__law_draw : PySem.W.keepIn K (.ref f__law_draw) = true)
    (a__law_pick : PySem.W.nsIn K mainGlobals "_law_pick" = some (some (.ref f__law_pick)))
    (l__law_pick : K.lookup f__law_pick = some ⟨oc_2, od_2, .func (PySem.W.fnOf "_law_pick" "_law_pick" (defArgs st__law_pick) (defBody st__law_pick) (defScope st__law_pick) .none kV_2 dc_2 pm_2 an_2 cd_2 ct_2), sl_2⟩)
    (c__law_pick : PySem.W.codeIn K cd_2 "_law_pick" = true)
    (k__law_pick : PySem.W.keepIn K (.ref f__law_pick) = true)
    (a__law_thing : PySem.W.nsIn K mainGlobals "_law_thing" = some (some (.ref f__law_thing)))
    (l__law_thing : K.lookup f__law_thing = some ⟨oc_3, od_3, .func (PySem.W.fnOf "_law_thing" "_law_thing" (defArgs st__law_thing) (defBody st__law_thing) (defScope st__law_thing) .none kV_3 dc_3 pm_3 an_3 cd_3 ct_3), sl_3⟩)
    (c__law_thing : PySem.W.codeIn K cd_3 "_law_thing" = true)
    (k__law_thing : PySem.W.keepIn K (.ref f__law_thing) = true)
    (a__law_raise_plain : PySem.W.nsIn K mainGlobals "_law_raise_plain" = some (some (.ref f__law_raise_plain)))
    (l__law_raise_plain : K.lookup f__law_raise_plain = some ⟨oc_4, od_4, .func (PySem.W.fnOf "_law_raise_plain" "_law_raise_plain" (defArgs st__law_raise_plain) (defBody st__law_raise_plain) (defScope st__law_raise_plain) .none kV_4 dc_4 pm_4 an_4 cd_4 ct_4), sl_4⟩)
    (c__law_raise_plain : PySem.W.codeIn K cd_4 "_law_raise_plain" = true)
    (k__law_raise_plain : PySem.W.keepIn K (.ref f__law_raise_plain) = true)
    (a__law_raise : PySem.W.nsIn K mainGlobals "_law_raise" = some (some (.ref f__law_raise)))
    (l__law_raise : K.lookup f__law_raise = some ⟨oc_5, od_5, .func (PySem.W.fnOf "_law_raise" "_law_raise" (defArgs st__law_raise) (defBody st__law_raise) (defScope st__law_raise) .none kV_5 dc_5 pm_5 an_5 cd_5 ct_5), sl_5⟩)
    (c__law_raise : PySem.W.codeIn K cd_5 "_law_raise" = true)
    (k__law_raise : PySem.W.keepIn K (.ref f__law_raise) = true)
    (a__law_raise_named : PySem.W.nsIn K mainGlobals "_law_raise_named" = some (some (.ref f__law_raise_named)))
    (l__law_raise_named : K.lookup f__law_raise_named = some ⟨oc_6, od_6, .func (PySem.W.fnOf "_law_raise_named" "_law_raise_named" (defArgs st__law_raise_named) (defBody st__law_raise_named) (defScope st__law_raise_named) .none kV_6 dc_6 pm_6 an_6 cd_6 ct_6), sl_6⟩)
    (c__law_raise_named : PySem.W.codeIn K cd_6 "_law_raise_named" = true)
    (k__law_raise_named : PySem.W.keepIn K (.ref f__law_raise_named) = true)
    (a__law_marks : PySem.W.nsIn K mainGlobals "_law_marks" = some (some (.ref f__law_marks)))
    (l__law_marks : K.lookup f__law_marks = some ⟨oc_7, od_7, .func (PySem.W.fnOf "_law_marks" "_law_marks" (defArgs st__law_marks) (defBody st__law_marks) (defScope st__law_marks) .none kV_7 dc_7 pm_7 an_7 cd_7 ct_7), sl_7⟩)
    (c__law_marks : PySem.W.codeIn K cd_7 "_law_marks" = true)
    (k__law_marks : PySem.W.keepIn K (.ref f__law_marks) = true)
    (a__law_wire_fields : PySem.W.nsIn K mainGlobals "_law_wire_fields" = some (some (.ref f__law_wire_fields)))
    (l__law_wire_fields : K.lookup f__law_wire_fields = some ⟨oc_8, od_8, .func (PySem.W.fnOf "_law_wire_fields" "_law_wire_fields" (defArgs st__law_wire_fields) (defBody st__law_wire_fields) (defScope st__law_wire_fields) .none kV_8 dc_8 pm_8 an_8 cd_8 ct_8), sl_8⟩)
    (c__law_wire_fields : PySem.W.codeIn K cd_8 "_law_wire_fields" = true)
    (k__law_wire_fields : PySem.W.keepIn K (.ref f__law_wire_fields) = true)
    (a__law_unknown_fields : PySem.W.nsIn K mainGlobals "_law_unknown_fields" = some (some (.ref f__law_unknown_fields)))
    (l__law_unknown_fields : K.lookup f__law_unknown_fields = some ⟨oc_9, od_9, .func (PySem.W.fnOf "_law_unknown_fields" "_law_unknown_fields" (defArgs st__law_unknown_fields) (defBody st__law_unknown_fields) (defScope st__law_unknown_fields) .none kV_9 dc_9 pm_9 an_9 cd_9 ct_9), sl_9⟩)
    (c__law_unknown_fields : PySem.W.codeIn K cd_9 "_law_unknown_fields" = true)
    (k__law_unknown_fields : PySem.W.keepIn K (.ref f__law_unknown_fields) = true)
    (a__law_caught : PySem.W.nsIn K mainGlobals "_law_caught" = some (some (.ref f__law_caught)))
    (l__law_caught : K.lookup f__law_caught = some ⟨oc_10, od_10, .func (PySem.W.fnOf "_law_caught" "_law_caught" (defArgs st__law_caught) (defBody st__law_caught) (defScope st__law_caught) .none kV_10 dc_10 pm_10 an_10 cd_10 ct_10), sl_10⟩)
    (c__law_caught : PySem.W.codeIn K cd_10 "_law_caught" = true)
    (k__law_caught : PySem.W.keepIn K (.ref f__law_caught) = true)
    (a__law_expected : PySem.W.nsIn K mainGlobals "_law_expected" = some (some (.ref f__law_expected)))
    (l__law_expected : K.lookup f__law_expected = some ⟨oc_11, od_11, .func (PySem.W.fnOf "_law_expected" "_law_expected" (defArgs st__law_expected) (defBody st__law_expected) (defScope st__law_expected) .none kV_11 dc_11 pm_11 an_11 cd_11 ct_11), sl_11⟩)
    (c__law_expected : PySem.W.codeIn K cd_11 "_law_expected" = true)
    (k__law_expected : PySem.W.keepIn K (.ref f__law_expected) = true)
    (a_law : PySem.W.nsIn K mainGlobals "law" = some (some (.ref f_law)))
    (l_law : K.lookup f_law = some ⟨oc_12, od_12, .func (PySem.W.fnOf "law" "law" (defArgs st_law) (defBody st_law) (defScope st_law) .none kV_12 dc_12 pm_12 an_12 cd_12 ct_12), sl_12⟩)
    (c_law : PySem.W.codeIn K cd_12 "law" = true)
    (k_law : PySem.W.keepIn K (.ref f_law) = true)
    (aC_Finished : PySem.W.nsIn K mainGlobals "Finished" = some (some (.ref c_Finished)))
    (aC_Impossible : PySem.W.nsIn K mainGlobals "Impossible" = some (some (.ref c_Impossible)))
    (aC_InvalidChange : PySem.W.nsIn K mainGlobals "InvalidChange" = some (some (.ref c_InvalidChange)))
    (aC_InvalidCommand : PySem.W.nsIn K mainGlobals "InvalidCommand" = some (some (.ref c_InvalidCommand)))
    (aC_InvalidLink : PySem.W.nsIn K mainGlobals "InvalidLink" = some (some (.ref c_InvalidLink)))
    (aC_InvalidTable : PySem.W.nsIn K mainGlobals "InvalidTable" = some (some (.ref c_InvalidTable)))
    (aC_InvalidText : PySem.W.nsIn K mainGlobals "InvalidText" = some (some (.ref c_InvalidText)))
    (aC_NameTaken : PySem.W.nsIn K mainGlobals "NameTaken" = some (some (.ref c_NameTaken)))
    (aC_NotItsTurn : PySem.W.nsIn K mainGlobals "NotItsTurn" = some (some (.ref c_NotItsTurn)))
    (aC_PurseExceeded : PySem.W.nsIn K mainGlobals "PurseExceeded" = some (some (.ref c_PurseExceeded)))
    (aC_TooAlike : PySem.W.nsIn K mainGlobals "TooAlike" = some (some (.ref c_TooAlike)))
    (aC_TooManyRounds : PySem.W.nsIn K mainGlobals "TooManyRounds" = some (some (.ref c_TooManyRounds)))
    (aC_Unknown : PySem.W.nsIn K mainGlobals "Unknown" = some (some (.ref c_Unknown)))
    (aC_UnknownName : PySem.W.nsIn K mainGlobals "UnknownName" = some (some (.ref c_UnknownName)))
    (aC_UnknownStation : PySem.W.nsIn K mainGlobals "UnknownStation" = some (some (.ref c_UnknownStation)))
    (aC_UnknownTalk : PySem.W.nsIn K mainGlobals "UnknownTalk" = some (some (.ref c_UnknownTalk)))
    (aC_WireError : PySem.W.nsIn K mainGlobals "WireError" = some (some (.ref c_WireError)))
    (z_IndexError : PySem.W.nsIn K mainGlobals "IndexError" = some none)
    (z_KeyError : PySem.W.nsIn K mainGlobals "KeyError" = some none)
    (z_ValueError : PySem.W.nsIn K mainGlobals "ValueError" = some none)
    (z_dict : PySem.W.nsIn K mainGlobals "dict" = some none)
    (z_enumerate : PySem.W.nsIn K mainGlobals "enumerate" = some none)
    (z_int : PySem.W.nsIn K mainGlobals "int" = some none)
    (z_isinstance : PySem.W.nsIn K mainGlobals "isinstance" = some none)
    (z_len : PySem.W.nsIn K mainGlobals "len" = some none)
    (z_list : PySem.W.nsIn K mainGlobals "list" = some none)
    (z_range : PySem.W.nsIn K mainGlobals "range" = some none)
    (z_repr : PySem.W.nsIn K mainGlobals "repr" = some none)
    (z_tuple : PySem.W.nsIn K mainGlobals "tuple" = some none)
    (eX_Finished : PySem.W.excIn K c_Finished [.type "ValueError", .type "Exception", .type "BaseException", .type "object"] "ValueError.__new__" = true)
    (kX_Finished : PySem.W.keepIn K (.ref c_Finished) = true)
    (bX_Finished : PySem.W.subIn K (.ref c_Finished) (.type "BaseException") = some true)
    (tX_Finished : PySem.W.typeIn K (.ref c_Finished) = some (.type "type"))
    (eX_Impossible : PySem.W.excIn K c_Impossible [.type "ValueError", .type "Exception", .type "BaseException", .type "object"] "ValueError.__new__" = true)
    (kX_Impossible : PySem.W.keepIn K (.ref c_Impossible) = true)
    (bX_Impossible : PySem.W.subIn K (.ref c_Impossible) (.type "BaseException") = some true)
    (tX_Impossible : PySem.W.typeIn K (.ref c_Impossible) = some (.type "type"))
    (eX_InvalidCommand : PySem.W.excIn K c_InvalidCommand [.type "ValueError", .type "Exception", .type "BaseException", .type "object"] "ValueError.__new__" = true)
    (kX_InvalidCommand : PySem.W.keepIn K (.ref c_InvalidCommand) = true)
    (bX_InvalidCommand : PySem.W.subIn K (.ref c_InvalidCommand) (.type "BaseException") = some true)
    (tX_InvalidCommand : PySem.W.typeIn K (.ref c_InvalidCommand) = some (.type "type"))
    (eX_InvalidLink : PySem.W.excIn K c_InvalidLink [.type "ValueError", .type "Exception", .type "BaseException", .type "object"] "ValueError.__new__" = true)
    (kX_InvalidLink : PySem.W.keepIn K (.ref c_InvalidLink) = true)
    (bX_InvalidLink : PySem.W.subIn K (.ref c_InvalidLink) (.type "BaseException") = some true)
    (tX_InvalidLink : PySem.W.typeIn K (.ref c_InvalidLink) = some (.type "type"))
    (eX_InvalidTable : PySem.W.excIn K c_InvalidTable [.type "ValueError", .type "Exception", .type "BaseException", .type "object"] "ValueError.__new__" = true)
    (kX_InvalidTable : PySem.W.keepIn K (.ref c_InvalidTable) = true)
    (bX_InvalidTable : PySem.W.subIn K (.ref c_InvalidTable) (.type "BaseException") = some true)
    (tX_InvalidTable : PySem.W.typeIn K (.ref c_InvalidTable) = some (.type "type"))
    (eX_InvalidText : PySem.W.excIn K c_InvalidText [.type "ValueError", .type "Exception", .type "BaseException", .type "object"] "ValueError.__new__" = true)
    (kX_InvalidText : PySem.W.keepIn K (.ref c_InvalidText) = true)
    (bX_InvalidText : PySem.W.subIn K (.ref c_InvalidText) (.type "BaseException") = some true)
    (tX_InvalidText : PySem.W.typeIn K (.ref c_InvalidText) = some (.type "type"))
    (hnO : PySem.W.specialIn K (.builtin "object.__class__") "__get__" = some (some (.builtin "getset_descriptor.__get__")))
    (htO : PySem.W.takesIn K (.builtin "object.__class__") = some true)
    (cX_Finished : PySem.W.findIn K (.ref c_Finished) "__class__" = some (some (.builtin "object.__class__")))
    (mX_Finished : PySem.W.mroIn K c_Finished (.type "object") = some true)
    (gX_Finished : PySem.W.findIn K (.ref c_Finished) "__getattribute__" = some (some (.builtin "BaseException.__getattribute__")))
    (aX_Finished : PySem.W.findIn K (.ref c_Finished) "__getattr__" = some none)
    (dX_Finished : PySem.W.hasDictIn K c_Finished = true)
    (cX_Impossible : PySem.W.findIn K (.ref c_Impossible) "__class__" = some (some (.builtin "object.__class__")))
    (mX_Impossible : PySem.W.mroIn K c_Impossible (.type "object") = some true)
    (gX_Impossible : PySem.W.findIn K (.ref c_Impossible) "__getattribute__" = some (some (.builtin "BaseException.__getattribute__")))
    (aX_Impossible : PySem.W.findIn K (.ref c_Impossible) "__getattr__" = some none)
    (dX_Impossible : PySem.W.hasDictIn K c_Impossible = true)
    (cX_InvalidChange : PySem.W.findIn K (.ref c_InvalidChange) "__class__" = some (some (.builtin "object.__class__")))
    (mX_InvalidChange : PySem.W.mroIn K c_InvalidChange (.type "object") = some true)
    (gX_InvalidChange : PySem.W.findIn K (.ref c_InvalidChange) "__getattribute__" = some (some (.builtin "BaseException.__getattribute__")))
    (aX_InvalidChange : PySem.W.findIn K (.ref c_InvalidChange) "__getattr__" = some none)
    (bX_InvalidChange : PySem.W.subIn K (.ref c_InvalidChange) (.type "BaseException") = some true)
    (dX_InvalidChange : PySem.W.hasDictIn K c_InvalidChange = true)
    (cX_InvalidCommand : PySem.W.findIn K (.ref c_InvalidCommand) "__class__" = some (some (.builtin "object.__class__")))
    (mX_InvalidCommand : PySem.W.mroIn K c_InvalidCommand (.type "object") = some true)
    (gX_InvalidCommand : PySem.W.findIn K (.ref c_InvalidCommand) "__getattribute__" = some (some (.builtin "BaseException.__getattribute__")))
    (aX_InvalidCommand : PySem.W.findIn K (.ref c_InvalidCommand) "__getattr__" = some none)
    (dX_InvalidCommand : PySem.W.hasDictIn K c_InvalidCommand = true)
    (cX_InvalidLink : PySem.W.findIn K (.ref c_InvalidLink) "__class__" = some (some (.builtin "object.__class__")))
    (mX_InvalidLink : PySem.W.mroIn K c_InvalidLink (.type "object") = some true)
    (gX_InvalidLink : PySem.W.findIn K (.ref c_InvalidLink) "__getattribute__" = some (some (.builtin "BaseException.__getattribute__")))
    (aX_InvalidLink : PySem.W.findIn K (.ref c_InvalidLink) "__getattr__" = some none)
    (dX_InvalidLink : PySem.W.hasDictIn K c_InvalidLink = true)
    (cX_InvalidTable : PySem.W.findIn K (.ref c_InvalidTable) "__class__" = some (some (.builtin "object.__class__")))
    (mX_InvalidTable : PySem.W.mroIn K c_InvalidTable (.type "object") = some true)
    (gX_InvalidTable : PySem.W.findIn K (.ref c_InvalidTable) "__getattribute__" = some (some (.builtin "BaseException.__getattribute__")))
    (aX_InvalidTable : PySem.W.findIn K (.ref c_InvalidTable) "__getattr__" = some none)
    (dX_InvalidTable : PySem.W.hasDictIn K c_InvalidTable = true)
    (cX_InvalidText : PySem.W.findIn K (.ref c_InvalidText) "__class__" = some (some (.builtin "object.__class__")))
    (mX_InvalidText : PySem.W.mroIn K c_InvalidText (.type "object") = some true)
    (gX_InvalidText : PySem.W.findIn K (.ref c_InvalidText) "__getattribute__" = some (some (.builtin "BaseException.__getattribute__")))
    (aX_InvalidText : PySem.W.findIn K (.ref c_InvalidText) "__getattr__" = some none)
    (dX_InvalidText : PySem.W.hasDictIn K c_InvalidText = true)
    (cX_NameTaken : PySem.W.findIn K (.ref c_NameTaken) "__class__" = some (some (.builtin "object.__class__")))
    (mX_NameTaken : PySem.W.mroIn K c_NameTaken (.type "object") = some true)
    (gX_NameTaken : PySem.W.findIn K (.ref c_NameTaken) "__getattribute__" = some (some (.builtin "BaseException.__getattribute__")))
    (aX_NameTaken : PySem.W.findIn K (.ref c_NameTaken) "__getattr__" = some none)
    (bX_NameTaken : PySem.W.subIn K (.ref c_NameTaken) (.type "BaseException") = some true)
    (dX_NameTaken : PySem.W.hasDictIn K c_NameTaken = true)
    (cX_NotItsTurn : PySem.W.findIn K (.ref c_NotItsTurn) "__class__" = some (some (.builtin "object.__class__")))
    (mX_NotItsTurn : PySem.W.mroIn K c_NotItsTurn (.type "object") = some true)
    (gX_NotItsTurn : PySem.W.findIn K (.ref c_NotItsTurn) "__getattribute__" = some (some (.builtin "BaseException.__getattribute__")))
    (aX_NotItsTurn : PySem.W.findIn K (.ref c_NotItsTurn) "__getattr__" = some none)
    (bX_NotItsTurn : PySem.W.subIn K (.ref c_NotItsTurn) (.type "BaseException") = some true)
    (dX_NotItsTurn : PySem.W.hasDictIn K c_NotItsTurn = true)
    (cX_PurseExceeded : PySem.W.findIn K (.ref c_PurseExceeded) "__class__" = some (some (.builtin "object.__class__")))
    (mX_PurseExceeded : PySem.W.mroIn K c_PurseExceeded (.type "object") = some true)
    (gX_PurseExceeded : PySem.W.findIn K (.ref c_PurseExceeded) "__getattribute__" = some (some (.builtin "BaseException.__getattribute__")))
    (aX_PurseExceeded : PySem.W.findIn K (.ref c_PurseExceeded) "__getattr__" = some none)
    (bX_PurseExceeded : PySem.W.subIn K (.ref c_PurseExceeded) (.type "BaseException") = some true)
    (dX_PurseExceeded : PySem.W.hasDictIn K c_PurseExceeded = true)
    (cX_TooAlike : PySem.W.findIn K (.ref c_TooAlike) "__class__" = some (some (.builtin "object.__class__")))
    (mX_TooAlike : PySem.W.mroIn K c_TooAlike (.type "object") = some true)
    (gX_TooAlike : PySem.W.findIn K (.ref c_TooAlike) "__getattribute__" = some (some (.builtin "BaseException.__getattribute__")))
    (aX_TooAlike : PySem.W.findIn K (.ref c_TooAlike) "__getattr__" = some none)
    (bX_TooAlike : PySem.W.subIn K (.ref c_TooAlike) (.type "BaseException") = some true)
    (dX_TooAlike : PySem.W.hasDictIn K c_TooAlike = true)
    (cX_TooManyRounds : PySem.W.findIn K (.ref c_TooManyRounds) "__class__" = some (some (.builtin "object.__class__")))
    (mX_TooManyRounds : PySem.W.mroIn K c_TooManyRounds (.type "object") = some true)
    (gX_TooManyRounds : PySem.W.findIn K (.ref c_TooManyRounds) "__getattribute__" = some (some (.builtin "BaseException.__getattribute__")))
    (aX_TooManyRounds : PySem.W.findIn K (.ref c_TooManyRounds) "__getattr__" = some none)
    (bX_TooManyRounds : PySem.W.subIn K (.ref c_TooManyRounds) (.type "BaseException") = some true)
    (dX_TooManyRounds : PySem.W.hasDictIn K c_TooManyRounds = true)
    (cX_UnknownName : PySem.W.findIn K (.ref c_UnknownName) "__class__" = some (some (.builtin "object.__class__")))
    (mX_UnknownName : PySem.W.mroIn K c_UnknownName (.type "object") = some true)
    (gX_UnknownName : PySem.W.findIn K (.ref c_UnknownName) "__getattribute__" = some (some (.builtin "BaseException.__getattribute__")))
    (aX_UnknownName : PySem.W.findIn K (.ref c_UnknownName) "__getattr__" = some none)
    (bX_UnknownName : PySem.W.subIn K (.ref c_UnknownName) (.type "BaseException") = some true)
    (dX_UnknownName : PySem.W.hasDictIn K c_UnknownName = true)
    (cX_UnknownStation : PySem.W.findIn K (.ref c_UnknownStation) "__class__" = some (some (.builtin "object.__class__")))
    (mX_UnknownStation : PySem.W.mroIn K c_UnknownStation (.type "object") = some true)
    (gX_UnknownStation : PySem.W.findIn K (.ref c_UnknownStation) "__getattribute__" = some (some (.builtin "BaseException.__getattribute__")))
    (aX_UnknownStation : PySem.W.findIn K (.ref c_UnknownStation) "__getattr__" = some none)
    (bX_UnknownStation : PySem.W.subIn K (.ref c_UnknownStation) (.type "BaseException") = some true)
    (dX_UnknownStation : PySem.W.hasDictIn K c_UnknownStation = true)
    (cX_UnknownTalk : PySem.W.findIn K (.ref c_UnknownTalk) "__class__" = some (some (.builtin "object.__class__")))
    (mX_UnknownTalk : PySem.W.mroIn K c_UnknownTalk (.type "object") = some true)
    (gX_UnknownTalk : PySem.W.findIn K (.ref c_UnknownTalk) "__getattribute__" = some (some (.builtin "BaseException.__getattribute__")))
    (aX_UnknownTalk : PySem.W.findIn K (.ref c_UnknownTalk) "__getattr__" = some none)
    (bX_UnknownTalk : PySem.W.subIn K (.ref c_UnknownTalk) (.type "BaseException") = some true)
    (dX_UnknownTalk : PySem.W.hasDictIn K c_UnknownTalk = true)
    (icX_Finished : PySem.W.isClsIn K c_Finished = true)
    (icX_Impossible : PySem.W.isClsIn K c_Impossible = true)
    (icX_InvalidChange : PySem.W.isClsIn K c_InvalidChange = true)
    (tX_InvalidChange : PySem.W.typeIn K (.ref c_InvalidChange) = some (.type "type"))
    (icX_InvalidCommand : PySem.W.isClsIn K c_InvalidCommand = true)
    (icX_InvalidLink : PySem.W.isClsIn K c_InvalidLink = true)
    (icX_InvalidTable : PySem.W.isClsIn K c_InvalidTable = true)
    (icX_InvalidText : PySem.W.isClsIn K c_InvalidText = true)
    (icX_NameTaken : PySem.W.isClsIn K c_NameTaken = true)
    (tX_NameTaken : PySem.W.typeIn K (.ref c_NameTaken) = some (.type "type"))
    (icX_NotItsTurn : PySem.W.isClsIn K c_NotItsTurn = true)
    (tX_NotItsTurn : PySem.W.typeIn K (.ref c_NotItsTurn) = some (.type "type"))
    (icX_PurseExceeded : PySem.W.isClsIn K c_PurseExceeded = true)
    (tX_PurseExceeded : PySem.W.typeIn K (.ref c_PurseExceeded) = some (.type "type"))
    (icX_TooAlike : PySem.W.isClsIn K c_TooAlike = true)
    (tX_TooAlike : PySem.W.typeIn K (.ref c_TooAlike) = some (.type "type"))
    (icX_TooManyRounds : PySem.W.isClsIn K c_TooManyRounds = true)
    (tX_TooManyRounds : PySem.W.typeIn K (.ref c_TooManyRounds) = some (.type "type"))
    (bX_Unknown : PySem.W.subIn K (.ref c_Unknown) (.type "BaseException") = some true)
    (dX_Unknown : PySem.W.hasDictIn K c_Unknown = true)
    (tX_Unknown : PySem.W.typeIn K (.ref c_Unknown) = some (.type "type"))
    (icX_Unknown : PySem.W.isClsIn K c_Unknown = true)
    (icX_UnknownName : PySem.W.isClsIn K c_UnknownName = true)
    (tX_UnknownName : PySem.W.typeIn K (.ref c_UnknownName) = some (.type "type"))
    (icX_UnknownStation : PySem.W.isClsIn K c_UnknownStation = true)
    (tX_UnknownStation : PySem.W.typeIn K (.ref c_UnknownStation) = some (.type "type"))
    (icX_UnknownTalk : PySem.W.isClsIn K c_UnknownTalk = true)
    (tX_UnknownTalk : PySem.W.typeIn K (.ref c_UnknownTalk) = some (.type "type"))
    (bX_WireError : PySem.W.subIn K (.ref c_WireError) (.type "BaseException") = some true)
    (dX_WireError : PySem.W.hasDictIn K c_WireError = true)
    (tX_WireError : PySem.W.typeIn K (.ref c_WireError) = some (.type "type"))
    (icX_WireError : PySem.W.isClsIn K c_WireError = true)
    (xn_InvalidChange_change : PySem.W.findIn K (.ref c_InvalidChange) "change" = some none)
    (xn_NameTaken_name : PySem.W.findIn K (.ref c_NameTaken) "name" = some none)
    (xn_NotItsTurn_station : PySem.W.findIn K (.ref c_NotItsTurn) "station" = some none)
    (xn_PurseExceeded_count : PySem.W.findIn K (.ref c_PurseExceeded) "count" = some none)
    (xn_TooAlike_first : PySem.W.findIn K (.ref c_TooAlike) "first" = some none)
    (xn_TooAlike_second : PySem.W.findIn K (.ref c_TooAlike) "second" = some none)
    (xn_TooManyRounds_rounds : PySem.W.findIn K (.ref c_TooManyRounds) "rounds" = some none)
    (xn_UnknownName_name : PySem.W.findIn K (.ref c_UnknownName) "name" = some none)
    (xn_UnknownStation_station : PySem.W.findIn K (.ref c_UnknownStation) "station" = some none)
    (xn_UnknownTalk_talk : PySem.W.findIn K (.ref c_UnknownTalk) "talk" = some none)
    (iX_InvalidChange : PySem.W.findIn K (.ref c_InvalidChange) "__init__" = some (some (.ref f_InvalidChange___init__)))
    (l_InvalidChange___init__ : K.lookup f_InvalidChange___init__ = some ⟨oc_13, od_13, .func (PySem.W.fnOf "__init__" "InvalidChange.__init__" (defArgs st_InvalidChange___init__) (defBody st_InvalidChange___init__) (defScope st_InvalidChange___init__) .none kV_13 dc_13 pm_13 an_13 cd_13 ct_13), sl_13⟩)
    (c_InvalidChange___init__ : PySem.W.codeIn K cd_13 "InvalidChange.__init__" = true)
    (k_InvalidChange___init__ : PySem.W.keepIn K (.ref f_InvalidChange___init__) = true)
    (lX_InvalidChange : ∃ nm q N bs bm sn sub ab col dd k0 k1 k2 k3 k5, K.lookup c_InvalidChange = some (excClassObj nm q c_InvalidChange N bs bm true sn sub ab col dd k0 k1 k2 k3 k5 "ValueError.__new__") ∧ ∃ rs : List Addr, @Eq (List Value) bm (List.append (List.map Value.ref rs) [Value.type "ValueError", Value.type "Exception", Value.type "BaseException", Value.type "object"]))
    (pX_InvalidChange : PySem.W.findIn K (.ref c_InvalidChange) "__setattr__" = some (some (.builtin "object.__setattr__")))
    (jX_InvalidChange : PySem.W.typeIn K (.ref f_InvalidChange___init__) = some (.type "function"))
    (rd_WireError : PySem.W.readsIn K c_WireError (.type "type") = true)
    (gc_WireError : PySem.W.specialIn K (.ref c_WireError) "__getattribute__" = some (some (.builtin "type.__getattribute__")))
    (wX_WireError : PySem.W.findCls K (.ref c_WireError) (.type "type") "__init__" = some (.val (.builtin "ValueError.__init__")))
    (kX_InvalidChange : PySem.W.keepIn K (.ref c_InvalidChange) = true)
    (iX_NameTaken : PySem.W.findIn K (.ref c_NameTaken) "__init__" = some (some (.ref f_NameTaken___init__)))
    (l_NameTaken___init__ : K.lookup f_NameTaken___init__ = some ⟨oc_14, od_14, .func (PySem.W.fnOf "__init__" "NameTaken.__init__" (defArgs st_NameTaken___init__) (defBody st_NameTaken___init__) (defScope st_NameTaken___init__) .none kV_14 dc_14 pm_14 an_14 cd_14 ct_14), sl_14⟩)
    (c_NameTaken___init__ : PySem.W.codeIn K cd_14 "NameTaken.__init__" = true)
    (k_NameTaken___init__ : PySem.W.keepIn K (.ref f_NameTaken___init__) = true)
    (lX_NameTaken : ∃ nm q N bs bm sn sub ab col dd k0 k1 k2 k3 k5, K.lookup c_NameTaken = some (excClassObj nm q c_NameTaken N bs bm true sn sub ab col dd k0 k1 k2 k3 k5 "ValueError.__new__") ∧ ∃ rs : List Addr, @Eq (List Value) bm (List.append (List.map Value.ref rs) [Value.type "ValueError", Value.type "Exception", Value.type "BaseException", Value.type "object"]))
    (pX_NameTaken : PySem.W.findIn K (.ref c_NameTaken) "__setattr__" = some (some (.builtin "object.__setattr__")))
    (jX_NameTaken : PySem.W.typeIn K (.ref f_NameTaken___init__) = some (.type "function"))
    (kX_NameTaken : PySem.W.keepIn K (.ref c_NameTaken) = true)
    (iX_NotItsTurn : PySem.W.findIn K (.ref c_NotItsTurn) "__init__" = some (some (.ref f_NotItsTurn___init__)))
    (l_NotItsTurn___init__ : K.lookup f_NotItsTurn___init__ = some ⟨oc_15, od_15, .func (PySem.W.fnOf "__init__" "NotItsTurn.__init__" (defArgs st_NotItsTurn___init__) (defBody st_NotItsTurn___init__) (defScope st_NotItsTurn___init__) .none kV_15 dc_15 pm_15 an_15 cd_15 ct_15), sl_15⟩)
    (c_NotItsTurn___init__ : PySem.W.codeIn K cd_15 "NotItsTurn.__init__" = true)
    (k_NotItsTurn___init__ : PySem.W.keepIn K (.ref f_NotItsTurn___init__) = true)
    (lX_NotItsTurn : ∃ nm q N bs bm sn sub ab col dd k0 k1 k2 k3 k5, K.lookup c_NotItsTurn = some (excClassObj nm q c_NotItsTurn N bs bm true sn sub ab col dd k0 k1 k2 k3 k5 "ValueError.__new__") ∧ ∃ rs : List Addr, @Eq (List Value) bm (List.append (List.map Value.ref rs) [Value.type "ValueError", Value.type "Exception", Value.type "BaseException", Value.type "object"]))
    (pX_NotItsTurn : PySem.W.findIn K (.ref c_NotItsTurn) "__setattr__" = some (some (.builtin "object.__setattr__")))
    (jX_NotItsTurn : PySem.W.typeIn K (.ref f_NotItsTurn___init__) = some (.type "function"))
    (kX_NotItsTurn : PySem.W.keepIn K (.ref c_NotItsTurn) = true)
    (iX_PurseExceeded : PySem.W.findIn K (.ref c_PurseExceeded) "__init__" = some (some (.ref f_PurseExceeded___init__)))
    (l_PurseExceeded___init__ : K.lookup f_PurseExceeded___init__ = some ⟨oc_16, od_16, .func (PySem.W.fnOf "__init__" "PurseExceeded.__init__" (defArgs st_PurseExceeded___init__) (defBody st_PurseExceeded___init__) (defScope st_PurseExceeded___init__) .none kV_16 dc_16 pm_16 an_16 cd_16 ct_16), sl_16⟩)
    (c_PurseExceeded___init__ : PySem.W.codeIn K cd_16 "PurseExceeded.__init__" = true)
    (k_PurseExceeded___init__ : PySem.W.keepIn K (.ref f_PurseExceeded___init__) = true)
    (lX_PurseExceeded : ∃ nm q N bs bm sn sub ab col dd k0 k1 k2 k3 k5, K.lookup c_PurseExceeded = some (excClassObj nm q c_PurseExceeded N bs bm true sn sub ab col dd k0 k1 k2 k3 k5 "ValueError.__new__") ∧ ∃ rs : List Addr, @Eq (List Value) bm (List.append (List.map Value.ref rs) [Value.type "ValueError", Value.type "Exception", Value.type "BaseException", Value.type "object"]))
    (pX_PurseExceeded : PySem.W.findIn K (.ref c_PurseExceeded) "__setattr__" = some (some (.builtin "object.__setattr__")))
    (jX_PurseExceeded : PySem.W.typeIn K (.ref f_PurseExceeded___init__) = some (.type "function"))
    (kX_PurseExceeded : PySem.W.keepIn K (.ref c_PurseExceeded) = true)
    (iX_TooAlike : PySem.W.findIn K (.ref c_TooAlike) "__init__" = some (some (.ref f_TooAlike___init__)))
    (l_TooAlike___init__ : K.lookup f_TooAlike___init__ = some ⟨oc_17, od_17, .func (PySem.W.fnOf "__init__" "TooAlike.__init__" (defArgs st_TooAlike___init__) (defBody st_TooAlike___init__) (defScope st_TooAlike___init__) .none kV_17 dc_17 pm_17 an_17 cd_17 ct_17), sl_17⟩)
    (c_TooAlike___init__ : PySem.W.codeIn K cd_17 "TooAlike.__init__" = true)
    (k_TooAlike___init__ : PySem.W.keepIn K (.ref f_TooAlike___init__) = true)
    (lX_TooAlike : ∃ nm q N bs bm sn sub ab col dd k0 k1 k2 k3 k5, K.lookup c_TooAlike = some (excClassObj nm q c_TooAlike N bs bm true sn sub ab col dd k0 k1 k2 k3 k5 "ValueError.__new__") ∧ ∃ rs : List Addr, @Eq (List Value) bm (List.append (List.map Value.ref rs) [Value.type "ValueError", Value.type "Exception", Value.type "BaseException", Value.type "object"]))
    (pX_TooAlike : PySem.W.findIn K (.ref c_TooAlike) "__setattr__" = some (some (.builtin "object.__setattr__")))
    (jX_TooAlike : PySem.W.typeIn K (.ref f_TooAlike___init__) = some (.type "function"))
    (kX_TooAlike : PySem.W.keepIn K (.ref c_TooAlike) = true)
    (iX_TooManyRounds : PySem.W.findIn K (.ref c_TooManyRounds) "__init__" = some (some (.ref f_TooManyRounds___init__)))
    (l_TooManyRounds___init__ : K.lookup f_TooManyRounds___init__ = some ⟨oc_18, od_18, .func (PySem.W.fnOf "__init__" "TooManyRounds.__init__" (defArgs st_TooManyRounds___init__) (defBody st_TooManyRounds___init__) (defScope st_TooManyRounds___init__) .none kV_18 dc_18 pm_18 an_18 cd_18 ct_18), sl_18⟩)
    (c_TooManyRounds___init__ : PySem.W.codeIn K cd_18 "TooManyRounds.__init__" = true)
    (k_TooManyRounds___init__ : PySem.W.keepIn K (.ref f_TooManyRounds___init__) = true)
    (lX_TooManyRounds : ∃ nm q N bs bm sn sub ab col dd k0 k1 k2 k3 k5, K.lookup c_TooManyRounds = some (excClassObj nm q c_TooManyRounds N bs bm true sn sub ab col dd k0 k1 k2 k3 k5 "ValueError.__new__") ∧ ∃ rs : List Addr, @Eq (List Value) bm (List.append (List.map Value.ref rs) [Value.type "ValueError", Value.type "Exception", Value.type "BaseException", Value.type "object"]))
    (pX_TooManyRounds : PySem.W.findIn K (.ref c_TooManyRounds) "__setattr__" = some (some (.builtin "object.__setattr__")))
    (jX_TooManyRounds : PySem.W.typeIn K (.ref f_TooManyRounds___init__) = some (.type "function"))
    (kX_TooManyRounds : PySem.W.keepIn K (.ref c_TooManyRounds) = true)
    (iX_UnknownName : PySem.W.findIn K (.ref c_UnknownName) "__init__" = some (some (.ref f_UnknownName___init__)))
    (l_UnknownName___init__ : K.lookup f_UnknownName___init__ = some ⟨oc_19, od_19, .func (PySem.W.fnOf "__init__" "UnknownName.__init__" (defArgs st_UnknownName___init__) (defBody st_UnknownName___init__) (defScope st_UnknownName___init__) .none kV_19 dc_19 pm_19 an_19 cd_19 ct_19), sl_19⟩)
    (c_UnknownName___init__ : PySem.W.codeIn K cd_19 "UnknownName.__init__" = true)
    (k_UnknownName___init__ : PySem.W.keepIn K (.ref f_UnknownName___init__) = true)
    (lX_UnknownName : ∃ nm q N bs bm sn sub ab col dd k0 k1 k2 k3 k5, K.lookup c_UnknownName = some (excClassObj nm q c_UnknownName N bs bm true sn sub ab col dd k0 k1 k2 k3 k5 "LookupError.__new__") ∧ ∃ rs : List Addr, @Eq (List Value) bm (List.append (List.map Value.ref rs) [Value.type "KeyError", Value.type "LookupError", Value.type "Exception", Value.type "BaseException", Value.type "object"]))
    (pX_UnknownName : PySem.W.findIn K (.ref c_UnknownName) "__setattr__" = some (some (.builtin "object.__setattr__")))
    (jX_UnknownName : PySem.W.typeIn K (.ref f_UnknownName___init__) = some (.type "function"))
    (rd_Unknown : PySem.W.readsIn K c_Unknown (.type "type") = true)
    (gc_Unknown : PySem.W.specialIn K (.ref c_Unknown) "__getattribute__" = some (some (.builtin "type.__getattribute__")))
    (wX_Unknown : PySem.W.findCls K (.ref c_Unknown) (.type "type") "__init__" = some (.val (.builtin "KeyError.__init__")))
    (kX_UnknownName : PySem.W.keepIn K (.ref c_UnknownName) = true)
    (iX_UnknownStation : PySem.W.findIn K (.ref c_UnknownStation) "__init__" = some (some (.ref f_UnknownStation___init__)))
    (l_UnknownStation___init__ : K.lookup f_UnknownStation___init__ = some ⟨oc_20, od_20, .func (PySem.W.fnOf "__init__" "UnknownStation.__init__" (defArgs st_UnknownStation___init__) (defBody st_UnknownStation___init__) (defScope st_UnknownStation___init__) .none kV_20 dc_20 pm_20 an_20 cd_20 ct_20), sl_20⟩)
    (c_UnknownStation___init__ : PySem.W.codeIn K cd_20 "UnknownStation.__init__" = true)
    (k_UnknownStation___init__ : PySem.W.keepIn K (.ref f_UnknownStation___init__) = true)
    (lX_UnknownStation : ∃ nm q N bs bm sn sub ab col dd k0 k1 k2 k3 k5, K.lookup c_UnknownStation = some (excClassObj nm q c_UnknownStation N bs bm true sn sub ab col dd k0 k1 k2 k3 k5 "LookupError.__new__") ∧ ∃ rs : List Addr, @Eq (List Value) bm (List.append (List.map Value.ref rs) [Value.type "KeyError", Value.type "LookupError", Value.type "Exception", Value.type "BaseException", Value.type "object"]))
    (pX_UnknownStation : PySem.W.findIn K (.ref c_UnknownStation) "__setattr__" = some (some (.builtin "object.__setattr__")))
    (jX_UnknownStation : PySem.W.typeIn K (.ref f_UnknownStation___init__) = some (.type "function"))
    (kX_UnknownStation : PySem.W.keepIn K (.ref c_UnknownStation) = true)
    (iX_UnknownTalk : PySem.W.findIn K (.ref c_UnknownTalk) "__init__" = some (some (.ref f_UnknownTalk___init__)))
    (l_UnknownTalk___init__ : K.lookup f_UnknownTalk___init__ = some ⟨oc_21, od_21, .func (PySem.W.fnOf "__init__" "UnknownTalk.__init__" (defArgs st_UnknownTalk___init__) (defBody st_UnknownTalk___init__) (defScope st_UnknownTalk___init__) .none kV_21 dc_21 pm_21 an_21 cd_21 ct_21), sl_21⟩)
    (c_UnknownTalk___init__ : PySem.W.codeIn K cd_21 "UnknownTalk.__init__" = true)
    (k_UnknownTalk___init__ : PySem.W.keepIn K (.ref f_UnknownTalk___init__) = true)
    (lX_UnknownTalk : ∃ nm q N bs bm sn sub ab col dd k0 k1 k2 k3 k5, K.lookup c_UnknownTalk = some (excClassObj nm q c_UnknownTalk N bs bm true sn sub ab col dd k0 k1 k2 k3 k5 "LookupError.__new__") ∧ ∃ rs : List Addr, @Eq (List Value) bm (List.append (List.map Value.ref rs) [Value.type "KeyError", Value.type "LookupError", Value.type "Exception", Value.type "BaseException", Value.type "object"]))
    (pX_UnknownTalk : PySem.W.findIn K (.ref c_UnknownTalk) "__setattr__" = some (some (.builtin "object.__setattr__")))
    (jX_UnknownTalk : PySem.W.typeIn K (.ref f_UnknownTalk___init__) = some (.type "function"))
    (kX_UnknownTalk : PySem.W.keepIn K (.ref c_UnknownTalk) = true)
    (sXs_Finished : (PySem.W.subIn K (.ref c_Finished) (.ref c_Finished) = some true) ∧ (PySem.W.subIn K (.ref c_Impossible) (.ref c_Finished) = some false) ∧ (PySem.W.subIn K (.ref c_InvalidChange) (.ref c_Finished) = some false) ∧ (PySem.W.subIn K (.ref c_InvalidCommand) (.ref c_Finished) = some false) ∧ (PySem.W.subIn K (.ref c_InvalidLink) (.ref c_Finished) = some false) ∧ (PySem.W.subIn K (.ref c_InvalidTable) (.ref c_Finished) = some false) ∧ (PySem.W.subIn K (.ref c_InvalidText) (.ref c_Finished) = some false) ∧ (PySem.W.subIn K (.ref c_NameTaken) (.ref c_Finished) = some false) ∧ (PySem.W.subIn K (.ref c_NotItsTurn) (.ref c_Finished) = some false) ∧ (PySem.W.subIn K (.ref c_PurseExceeded) (.ref c_Finished) = some false) ∧ (PySem.W.subIn K (.ref c_TooAlike) (.ref c_Finished) = some false) ∧ (PySem.W.subIn K (.ref c_TooManyRounds) (.ref c_Finished) = some false) ∧ (PySem.W.subIn K (.ref c_UnknownName) (.ref c_Finished) = some false) ∧ (PySem.W.subIn K (.ref c_UnknownStation) (.ref c_Finished) = some false) ∧ (PySem.W.subIn K (.ref c_UnknownTalk) (.ref c_Finished) = some false))
    (nXs_Finished : ((c_Impossible == c_Finished) = false) ∧ ((c_InvalidChange == c_Finished) = false) ∧ ((c_InvalidCommand == c_Finished) = false) ∧ ((c_InvalidLink == c_Finished) = false) ∧ ((c_InvalidTable == c_Finished) = false) ∧ ((c_InvalidText == c_Finished) = false) ∧ ((c_NameTaken == c_Finished) = false) ∧ ((c_NotItsTurn == c_Finished) = false) ∧ ((c_PurseExceeded == c_Finished) = false) ∧ ((c_TooAlike == c_Finished) = false) ∧ ((c_TooManyRounds == c_Finished) = false) ∧ ((c_UnknownName == c_Finished) = false) ∧ ((c_UnknownStation == c_Finished) = false) ∧ ((c_UnknownTalk == c_Finished) = false))
    (nXs_Impossible : ((c_Finished == c_Impossible) = false) ∧ ((c_InvalidChange == c_Impossible) = false) ∧ ((c_InvalidCommand == c_Impossible) = false) ∧ ((c_InvalidLink == c_Impossible) = false) ∧ ((c_InvalidTable == c_Impossible) = false) ∧ ((c_InvalidText == c_Impossible) = false) ∧ ((c_NameTaken == c_Impossible) = false) ∧ ((c_NotItsTurn == c_Impossible) = false) ∧ ((c_PurseExceeded == c_Impossible) = false) ∧ ((c_TooAlike == c_Impossible) = false) ∧ ((c_TooManyRounds == c_Impossible) = false) ∧ ((c_UnknownName == c_Impossible) = false) ∧ ((c_UnknownStation == c_Impossible) = false) ∧ ((c_UnknownTalk == c_Impossible) = false))
    (sXs_Impossible : (PySem.W.subIn K (.ref c_Finished) (.ref c_Impossible) = some false) ∧ (PySem.W.subIn K (.ref c_Impossible) (.ref c_Impossible) = some true) ∧ (PySem.W.subIn K (.ref c_InvalidChange) (.ref c_Impossible) = some false) ∧ (PySem.W.subIn K (.ref c_InvalidCommand) (.ref c_Impossible) = some false) ∧ (PySem.W.subIn K (.ref c_InvalidLink) (.ref c_Impossible) = some false) ∧ (PySem.W.subIn K (.ref c_InvalidTable) (.ref c_Impossible) = some false) ∧ (PySem.W.subIn K (.ref c_InvalidText) (.ref c_Impossible) = some false) ∧ (PySem.W.subIn K (.ref c_NameTaken) (.ref c_Impossible) = some false) ∧ (PySem.W.subIn K (.ref c_NotItsTurn) (.ref c_Impossible) = some false) ∧ (PySem.W.subIn K (.ref c_PurseExceeded) (.ref c_Impossible) = some false) ∧ (PySem.W.subIn K (.ref c_TooAlike) (.ref c_Impossible) = some false) ∧ (PySem.W.subIn K (.ref c_TooManyRounds) (.ref c_Impossible) = some false) ∧ (PySem.W.subIn K (.ref c_UnknownName) (.ref c_Impossible) = some false) ∧ (PySem.W.subIn K (.ref c_UnknownStation) (.ref c_Impossible) = some false) ∧ (PySem.W.subIn K (.ref c_UnknownTalk) (.ref c_Impossible) = some false))
    (sBs_IndexError : (PySem.W.subIn K (.ref c_Finished) (.type "IndexError") = some false) ∧ (PySem.W.subIn K (.ref c_Impossible) (.type "IndexError") = some false) ∧ (PySem.W.subIn K (.ref c_InvalidChange) (.type "IndexError") = some false) ∧ (PySem.W.subIn K (.ref c_InvalidCommand) (.type "IndexError") = some false) ∧ (PySem.W.subIn K (.ref c_InvalidLink) (.type "IndexError") = some false) ∧ (PySem.W.subIn K (.ref c_InvalidTable) (.type "IndexError") = some false) ∧ (PySem.W.subIn K (.ref c_InvalidText) (.type "IndexError") = some false) ∧ (PySem.W.subIn K (.ref c_NameTaken) (.type "IndexError") = some false) ∧ (PySem.W.subIn K (.ref c_NotItsTurn) (.type "IndexError") = some false) ∧ (PySem.W.subIn K (.ref c_PurseExceeded) (.type "IndexError") = some false) ∧ (PySem.W.subIn K (.ref c_TooAlike) (.type "IndexError") = some false) ∧ (PySem.W.subIn K (.ref c_TooManyRounds) (.type "IndexError") = some false) ∧ (PySem.W.subIn K (.ref c_UnknownName) (.type "IndexError") = some false) ∧ (PySem.W.subIn K (.ref c_UnknownStation) (.type "IndexError") = some false) ∧ (PySem.W.subIn K (.ref c_UnknownTalk) (.type "IndexError") = some false))
    (nXs_InvalidChange : ((c_Finished == c_InvalidChange) = false) ∧ ((c_Impossible == c_InvalidChange) = false) ∧ ((c_InvalidCommand == c_InvalidChange) = false) ∧ ((c_InvalidLink == c_InvalidChange) = false) ∧ ((c_InvalidTable == c_InvalidChange) = false) ∧ ((c_InvalidText == c_InvalidChange) = false) ∧ ((c_NameTaken == c_InvalidChange) = false) ∧ ((c_NotItsTurn == c_InvalidChange) = false) ∧ ((c_PurseExceeded == c_InvalidChange) = false) ∧ ((c_TooAlike == c_InvalidChange) = false) ∧ ((c_TooManyRounds == c_InvalidChange) = false) ∧ ((c_UnknownName == c_InvalidChange) = false) ∧ ((c_UnknownStation == c_InvalidChange) = false) ∧ ((c_UnknownTalk == c_InvalidChange) = false))
    (sXs_InvalidChange : (PySem.W.subIn K (.ref c_Finished) (.ref c_InvalidChange) = some false) ∧ (PySem.W.subIn K (.ref c_Impossible) (.ref c_InvalidChange) = some false) ∧ (PySem.W.subIn K (.ref c_InvalidChange) (.ref c_InvalidChange) = some true) ∧ (PySem.W.subIn K (.ref c_InvalidCommand) (.ref c_InvalidChange) = some false) ∧ (PySem.W.subIn K (.ref c_InvalidLink) (.ref c_InvalidChange) = some false) ∧ (PySem.W.subIn K (.ref c_InvalidTable) (.ref c_InvalidChange) = some false) ∧ (PySem.W.subIn K (.ref c_InvalidText) (.ref c_InvalidChange) = some false) ∧ (PySem.W.subIn K (.ref c_NameTaken) (.ref c_InvalidChange) = some false) ∧ (PySem.W.subIn K (.ref c_NotItsTurn) (.ref c_InvalidChange) = some false) ∧ (PySem.W.subIn K (.ref c_PurseExceeded) (.ref c_InvalidChange) = some false) ∧ (PySem.W.subIn K (.ref c_TooAlike) (.ref c_InvalidChange) = some false) ∧ (PySem.W.subIn K (.ref c_TooManyRounds) (.ref c_InvalidChange) = some false) ∧ (PySem.W.subIn K (.ref c_UnknownName) (.ref c_InvalidChange) = some false) ∧ (PySem.W.subIn K (.ref c_UnknownStation) (.ref c_InvalidChange) = some false) ∧ (PySem.W.subIn K (.ref c_UnknownTalk) (.ref c_InvalidChange) = some false))
    (nXs_InvalidCommand : ((c_Finished == c_InvalidCommand) = false) ∧ ((c_Impossible == c_InvalidCommand) = false) ∧ ((c_InvalidChange == c_InvalidCommand) = false) ∧ ((c_InvalidLink == c_InvalidCommand) = false) ∧ ((c_InvalidTable == c_InvalidCommand) = false) ∧ ((c_InvalidText == c_InvalidCommand) = false) ∧ ((c_NameTaken == c_InvalidCommand) = false) ∧ ((c_NotItsTurn == c_InvalidCommand) = false) ∧ ((c_PurseExceeded == c_InvalidCommand) = false) ∧ ((c_TooAlike == c_InvalidCommand) = false) ∧ ((c_TooManyRounds == c_InvalidCommand) = false) ∧ ((c_UnknownName == c_InvalidCommand) = false) ∧ ((c_UnknownStation == c_InvalidCommand) = false) ∧ ((c_UnknownTalk == c_InvalidCommand) = false))
    (sXs_InvalidCommand : (PySem.W.subIn K (.ref c_Finished) (.ref c_InvalidCommand) = some false) ∧ (PySem.W.subIn K (.ref c_Impossible) (.ref c_InvalidCommand) = some false) ∧ (PySem.W.subIn K (.ref c_InvalidChange) (.ref c_InvalidCommand) = some false) ∧ (PySem.W.subIn K (.ref c_InvalidCommand) (.ref c_InvalidCommand) = some true) ∧ (PySem.W.subIn K (.ref c_InvalidLink) (.ref c_InvalidCommand) = some false) ∧ (PySem.W.subIn K (.ref c_InvalidTable) (.ref c_InvalidCommand) = some false) ∧ (PySem.W.subIn K (.ref c_InvalidText) (.ref c_InvalidCommand) = some false) ∧ (PySem.W.subIn K (.ref c_NameTaken) (.ref c_InvalidCommand) = some false) ∧ (PySem.W.subIn K (.ref c_NotItsTurn) (.ref c_InvalidCommand) = some false) ∧ (PySem.W.subIn K (.ref c_PurseExceeded) (.ref c_InvalidCommand) = some false) ∧ (PySem.W.subIn K (.ref c_TooAlike) (.ref c_InvalidCommand) = some false) ∧ (PySem.W.subIn K (.ref c_TooManyRounds) (.ref c_InvalidCommand) = some false) ∧ (PySem.W.subIn K (.ref c_UnknownName) (.ref c_InvalidCommand) = some false) ∧ (PySem.W.subIn K (.ref c_UnknownStation) (.ref c_InvalidCommand) = some false) ∧ (PySem.W.subIn K (.ref c_UnknownTalk) (.ref c_InvalidCommand) = some false))
    (nXs_InvalidLink : ((c_Finished == c_InvalidLink) = false) ∧ ((c_Impossible == c_InvalidLink) = false) ∧ ((c_InvalidChange == c_InvalidLink) = false) ∧ ((c_InvalidCommand == c_InvalidLink) = false) ∧ ((c_InvalidTable == c_InvalidLink) = false) ∧ ((c_InvalidText == c_InvalidLink) = false) ∧ ((c_NameTaken == c_InvalidLink) = false) ∧ ((c_NotItsTurn == c_InvalidLink) = false) ∧ ((c_PurseExceeded == c_InvalidLink) = false) ∧ ((c_TooAlike == c_InvalidLink) = false) ∧ ((c_TooManyRounds == c_InvalidLink) = false) ∧ ((c_UnknownName == c_InvalidLink) = false) ∧ ((c_UnknownStation == c_InvalidLink) = false) ∧ ((c_UnknownTalk == c_InvalidLink) = false))
    (sXs_InvalidLink : (PySem.W.subIn K (.ref c_Finished) (.ref c_InvalidLink) = some false) ∧ (PySem.W.subIn K (.ref c_Impossible) (.ref c_InvalidLink) = some false) ∧ (PySem.W.subIn K (.ref c_InvalidChange) (.ref c_InvalidLink) = some false) ∧ (PySem.W.subIn K (.ref c_InvalidCommand) (.ref c_InvalidLink) = some false) ∧ (PySem.W.subIn K (.ref c_InvalidLink) (.ref c_InvalidLink) = some true) ∧ (PySem.W.subIn K (.ref c_InvalidTable) (.ref c_InvalidLink) = some false) ∧ (PySem.W.subIn K (.ref c_InvalidText) (.ref c_InvalidLink) = some false) ∧ (PySem.W.subIn K (.ref c_NameTaken) (.ref c_InvalidLink) = some false) ∧ (PySem.W.subIn K (.ref c_NotItsTurn) (.ref c_InvalidLink) = some false) ∧ (PySem.W.subIn K (.ref c_PurseExceeded) (.ref c_InvalidLink) = some false) ∧ (PySem.W.subIn K (.ref c_TooAlike) (.ref c_InvalidLink) = some false) ∧ (PySem.W.subIn K (.ref c_TooManyRounds) (.ref c_InvalidLink) = some false) ∧ (PySem.W.subIn K (.ref c_UnknownName) (.ref c_InvalidLink) = some false) ∧ (PySem.W.subIn K (.ref c_UnknownStation) (.ref c_InvalidLink) = some false) ∧ (PySem.W.subIn K (.ref c_UnknownTalk) (.ref c_InvalidLink) = some false))
    (nXs_InvalidTable : ((c_Finished == c_InvalidTable) = false) ∧ ((c_Impossible == c_InvalidTable) = false) ∧ ((c_InvalidChange == c_InvalidTable) = false) ∧ ((c_InvalidCommand == c_InvalidTable) = false) ∧ ((c_InvalidLink == c_InvalidTable) = false) ∧ ((c_InvalidText == c_InvalidTable) = false) ∧ ((c_NameTaken == c_InvalidTable) = false) ∧ ((c_NotItsTurn == c_InvalidTable) = false) ∧ ((c_PurseExceeded == c_InvalidTable) = false) ∧ ((c_TooAlike == c_InvalidTable) = false) ∧ ((c_TooManyRounds == c_InvalidTable) = false) ∧ ((c_UnknownName == c_InvalidTable) = false) ∧ ((c_UnknownStation == c_InvalidTable) = false) ∧ ((c_UnknownTalk == c_InvalidTable) = false))
    (sXs_InvalidTable : (PySem.W.subIn K (.ref c_Finished) (.ref c_InvalidTable) = some false) ∧ (PySem.W.subIn K (.ref c_Impossible) (.ref c_InvalidTable) = some false) ∧ (PySem.W.subIn K (.ref c_InvalidChange) (.ref c_InvalidTable) = some false) ∧ (PySem.W.subIn K (.ref c_InvalidCommand) (.ref c_InvalidTable) = some false) ∧ (PySem.W.subIn K (.ref c_InvalidLink) (.ref c_InvalidTable) = some false) ∧ (PySem.W.subIn K (.ref c_InvalidTable) (.ref c_InvalidTable) = some true) ∧ (PySem.W.subIn K (.ref c_InvalidText) (.ref c_InvalidTable) = some false) ∧ (PySem.W.subIn K (.ref c_NameTaken) (.ref c_InvalidTable) = some false) ∧ (PySem.W.subIn K (.ref c_NotItsTurn) (.ref c_InvalidTable) = some false) ∧ (PySem.W.subIn K (.ref c_PurseExceeded) (.ref c_InvalidTable) = some false) ∧ (PySem.W.subIn K (.ref c_TooAlike) (.ref c_InvalidTable) = some false) ∧ (PySem.W.subIn K (.ref c_TooManyRounds) (.ref c_InvalidTable) = some false) ∧ (PySem.W.subIn K (.ref c_UnknownName) (.ref c_InvalidTable) = some false) ∧ (PySem.W.subIn K (.ref c_UnknownStation) (.ref c_InvalidTable) = some false) ∧ (PySem.W.subIn K (.ref c_UnknownTalk) (.ref c_InvalidTable) = some false))
    (nXs_InvalidText : ((c_Finished == c_InvalidText) = false) ∧ ((c_Impossible == c_InvalidText) = false) ∧ ((c_InvalidChange == c_InvalidText) = false) ∧ ((c_InvalidCommand == c_InvalidText) = false) ∧ ((c_InvalidLink == c_InvalidText) = false) ∧ ((c_InvalidTable == c_InvalidText) = false) ∧ ((c_NameTaken == c_InvalidText) = false) ∧ ((c_NotItsTurn == c_InvalidText) = false) ∧ ((c_PurseExceeded == c_InvalidText) = false) ∧ ((c_TooAlike == c_InvalidText) = false) ∧ ((c_TooManyRounds == c_InvalidText) = false) ∧ ((c_UnknownName == c_InvalidText) = false) ∧ ((c_UnknownStation == c_InvalidText) = false) ∧ ((c_UnknownTalk == c_InvalidText) = false))
    (sXs_InvalidText : (PySem.W.subIn K (.ref c_Finished) (.ref c_InvalidText) = some false) ∧ (PySem.W.subIn K (.ref c_Impossible) (.ref c_InvalidText) = some false) ∧ (PySem.W.subIn K (.ref c_InvalidChange) (.ref c_InvalidText) = some false) ∧ (PySem.W.subIn K (.ref c_InvalidCommand) (.ref c_InvalidText) = some false) ∧ (PySem.W.subIn K (.ref c_InvalidLink) (.ref c_InvalidText) = some false) ∧ (PySem.W.subIn K (.ref c_InvalidTable) (.ref c_InvalidText) = some false) ∧ (PySem.W.subIn K (.ref c_InvalidText) (.ref c_InvalidText) = some true) ∧ (PySem.W.subIn K (.ref c_NameTaken) (.ref c_InvalidText) = some false) ∧ (PySem.W.subIn K (.ref c_NotItsTurn) (.ref c_InvalidText) = some false) ∧ (PySem.W.subIn K (.ref c_PurseExceeded) (.ref c_InvalidText) = some false) ∧ (PySem.W.subIn K (.ref c_TooAlike) (.ref c_InvalidText) = some false) ∧ (PySem.W.subIn K (.ref c_TooManyRounds) (.ref c_InvalidText) = some false) ∧ (PySem.W.subIn K (.ref c_UnknownName) (.ref c_InvalidText) = some false) ∧ (PySem.W.subIn K (.ref c_UnknownStation) (.ref c_InvalidText) = some false) ∧ (PySem.W.subIn K (.ref c_UnknownTalk) (.ref c_InvalidText) = some false))
    (sBs_KeyError : (PySem.W.subIn K (.ref c_Finished) (.type "KeyError") = some false) ∧ (PySem.W.subIn K (.ref c_Impossible) (.type "KeyError") = some false) ∧ (PySem.W.subIn K (.ref c_InvalidChange) (.type "KeyError") = some false) ∧ (PySem.W.subIn K (.ref c_InvalidCommand) (.type "KeyError") = some false) ∧ (PySem.W.subIn K (.ref c_InvalidLink) (.type "KeyError") = some false) ∧ (PySem.W.subIn K (.ref c_InvalidTable) (.type "KeyError") = some false) ∧ (PySem.W.subIn K (.ref c_InvalidText) (.type "KeyError") = some false) ∧ (PySem.W.subIn K (.ref c_NameTaken) (.type "KeyError") = some false) ∧ (PySem.W.subIn K (.ref c_NotItsTurn) (.type "KeyError") = some false) ∧ (PySem.W.subIn K (.ref c_PurseExceeded) (.type "KeyError") = some false) ∧ (PySem.W.subIn K (.ref c_TooAlike) (.type "KeyError") = some false) ∧ (PySem.W.subIn K (.ref c_TooManyRounds) (.type "KeyError") = some false) ∧ (PySem.W.subIn K (.ref c_UnknownName) (.type "KeyError") = some true) ∧ (PySem.W.subIn K (.ref c_UnknownStation) (.type "KeyError") = some true) ∧ (PySem.W.subIn K (.ref c_UnknownTalk) (.type "KeyError") = some true))
    (nXs_NameTaken : ((c_Finished == c_NameTaken) = false) ∧ ((c_Impossible == c_NameTaken) = false) ∧ ((c_InvalidChange == c_NameTaken) = false) ∧ ((c_InvalidCommand == c_NameTaken) = false) ∧ ((c_InvalidLink == c_NameTaken) = false) ∧ ((c_InvalidTable == c_NameTaken) = false) ∧ ((c_InvalidText == c_NameTaken) = false) ∧ ((c_NotItsTurn == c_NameTaken) = false) ∧ ((c_PurseExceeded == c_NameTaken) = false) ∧ ((c_TooAlike == c_NameTaken) = false) ∧ ((c_TooManyRounds == c_NameTaken) = false) ∧ ((c_UnknownName == c_NameTaken) = false) ∧ ((c_UnknownStation == c_NameTaken) = false) ∧ ((c_UnknownTalk == c_NameTaken) = false))
    (sXs_NameTaken : (PySem.W.subIn K (.ref c_Finished) (.ref c_NameTaken) = some false) ∧ (PySem.W.subIn K (.ref c_Impossible) (.ref c_NameTaken) = some false) ∧ (PySem.W.subIn K (.ref c_InvalidChange) (.ref c_NameTaken) = some false) ∧ (PySem.W.subIn K (.ref c_InvalidCommand) (.ref c_NameTaken) = some false) ∧ (PySem.W.subIn K (.ref c_InvalidLink) (.ref c_NameTaken) = some false) ∧ (PySem.W.subIn K (.ref c_InvalidTable) (.ref c_NameTaken) = some false) ∧ (PySem.W.subIn K (.ref c_InvalidText) (.ref c_NameTaken) = some false) ∧ (PySem.W.subIn K (.ref c_NameTaken) (.ref c_NameTaken) = some true) ∧ (PySem.W.subIn K (.ref c_NotItsTurn) (.ref c_NameTaken) = some false) ∧ (PySem.W.subIn K (.ref c_PurseExceeded) (.ref c_NameTaken) = some false) ∧ (PySem.W.subIn K (.ref c_TooAlike) (.ref c_NameTaken) = some false) ∧ (PySem.W.subIn K (.ref c_TooManyRounds) (.ref c_NameTaken) = some false) ∧ (PySem.W.subIn K (.ref c_UnknownName) (.ref c_NameTaken) = some false) ∧ (PySem.W.subIn K (.ref c_UnknownStation) (.ref c_NameTaken) = some false) ∧ (PySem.W.subIn K (.ref c_UnknownTalk) (.ref c_NameTaken) = some false))
    (nXs_NotItsTurn : ((c_Finished == c_NotItsTurn) = false) ∧ ((c_Impossible == c_NotItsTurn) = false) ∧ ((c_InvalidChange == c_NotItsTurn) = false) ∧ ((c_InvalidCommand == c_NotItsTurn) = false) ∧ ((c_InvalidLink == c_NotItsTurn) = false) ∧ ((c_InvalidTable == c_NotItsTurn) = false) ∧ ((c_InvalidText == c_NotItsTurn) = false) ∧ ((c_NameTaken == c_NotItsTurn) = false) ∧ ((c_PurseExceeded == c_NotItsTurn) = false) ∧ ((c_TooAlike == c_NotItsTurn) = false) ∧ ((c_TooManyRounds == c_NotItsTurn) = false) ∧ ((c_UnknownName == c_NotItsTurn) = false) ∧ ((c_UnknownStation == c_NotItsTurn) = false) ∧ ((c_UnknownTalk == c_NotItsTurn) = false))
    (sXs_NotItsTurn : (PySem.W.subIn K (.ref c_Finished) (.ref c_NotItsTurn) = some false) ∧ (PySem.W.subIn K (.ref c_Impossible) (.ref c_NotItsTurn) = some false) ∧ (PySem.W.subIn K (.ref c_InvalidChange) (.ref c_NotItsTurn) = some false) ∧ (PySem.W.subIn K (.ref c_InvalidCommand) (.ref c_NotItsTurn) = some false) ∧ (PySem.W.subIn K (.ref c_InvalidLink) (.ref c_NotItsTurn) = some false) ∧ (PySem.W.subIn K (.ref c_InvalidTable) (.ref c_NotItsTurn) = some false) ∧ (PySem.W.subIn K (.ref c_InvalidText) (.ref c_NotItsTurn) = some false) ∧ (PySem.W.subIn K (.ref c_NameTaken) (.ref c_NotItsTurn) = some false) ∧ (PySem.W.subIn K (.ref c_NotItsTurn) (.ref c_NotItsTurn) = some true) ∧ (PySem.W.subIn K (.ref c_PurseExceeded) (.ref c_NotItsTurn) = some false) ∧ (PySem.W.subIn K (.ref c_TooAlike) (.ref c_NotItsTurn) = some false) ∧ (PySem.W.subIn K (.ref c_TooManyRounds) (.ref c_NotItsTurn) = some false) ∧ (PySem.W.subIn K (.ref c_UnknownName) (.ref c_NotItsTurn) = some false) ∧ (PySem.W.subIn K (.ref c_UnknownStation) (.ref c_NotItsTurn) = some false) ∧ (PySem.W.subIn K (.ref c_UnknownTalk) (.ref c_NotItsTurn) = some false))
    (nXs_PurseExceeded : ((c_Finished == c_PurseExceeded) = false) ∧ ((c_Impossible == c_PurseExceeded) = false) ∧ ((c_InvalidChange == c_PurseExceeded) = false) ∧ ((c_InvalidCommand == c_PurseExceeded) = false) ∧ ((c_InvalidLink == c_PurseExceeded) = false) ∧ ((c_InvalidTable == c_PurseExceeded) = false) ∧ ((c_InvalidText == c_PurseExceeded) = false) ∧ ((c_NameTaken == c_PurseExceeded) = false) ∧ ((c_NotItsTurn == c_PurseExceeded) = false) ∧ ((c_TooAlike == c_PurseExceeded) = false) ∧ ((c_TooManyRounds == c_PurseExceeded) = false) ∧ ((c_UnknownName == c_PurseExceeded) = false) ∧ ((c_UnknownStation == c_PurseExceeded) = false) ∧ ((c_UnknownTalk == c_PurseExceeded) = false))
    (sXs_PurseExceeded : (PySem.W.subIn K (.ref c_Finished) (.ref c_PurseExceeded) = some false) ∧ (PySem.W.subIn K (.ref c_Impossible) (.ref c_PurseExceeded) = some false) ∧ (PySem.W.subIn K (.ref c_InvalidChange) (.ref c_PurseExceeded) = some false) ∧ (PySem.W.subIn K (.ref c_InvalidCommand) (.ref c_PurseExceeded) = some false) ∧ (PySem.W.subIn K (.ref c_InvalidLink) (.ref c_PurseExceeded) = some false) ∧ (PySem.W.subIn K (.ref c_InvalidTable) (.ref c_PurseExceeded) = some false) ∧ (PySem.W.subIn K (.ref c_InvalidText) (.ref c_PurseExceeded) = some false) ∧ (PySem.W.subIn K (.ref c_NameTaken) (.ref c_PurseExceeded) = some false) ∧ (PySem.W.subIn K (.ref c_NotItsTurn) (.ref c_PurseExceeded) = some false) ∧ (PySem.W.subIn K (.ref c_PurseExceeded) (.ref c_PurseExceeded) = some true) ∧ (PySem.W.subIn K (.ref c_TooAlike) (.ref c_PurseExceeded) = some false) ∧ (PySem.W.subIn K (.ref c_TooManyRounds) (.ref c_PurseExceeded) = some false) ∧ (PySem.W.subIn K (.ref c_UnknownName) (.ref c_PurseExceeded) = some false) ∧ (PySem.W.subIn K (.ref c_UnknownStation) (.ref c_PurseExceeded) = some false) ∧ (PySem.W.subIn K (.ref c_UnknownTalk) (.ref c_PurseExceeded) = some false))
    (nXs_TooAlike : ((c_Finished == c_TooAlike) = false) ∧ ((c_Impossible == c_TooAlike) = false) ∧ ((c_InvalidChange == c_TooAlike) = false) ∧ ((c_InvalidCommand == c_TooAlike) = false) ∧ ((c_InvalidLink == c_TooAlike) = false) ∧ ((c_InvalidTable == c_TooAlike) = false) ∧ ((c_InvalidText == c_TooAlike) = false) ∧ ((c_NameTaken == c_TooAlike) = false) ∧ ((c_NotItsTurn == c_TooAlike) = false) ∧ ((c_PurseExceeded == c_TooAlike) = false) ∧ ((c_TooManyRounds == c_TooAlike) = false) ∧ ((c_UnknownName == c_TooAlike) = false) ∧ ((c_UnknownStation == c_TooAlike) = false) ∧ ((c_UnknownTalk == c_TooAlike) = false))
    (sXs_TooAlike : (PySem.W.subIn K (.ref c_Finished) (.ref c_TooAlike) = some false) ∧ (PySem.W.subIn K (.ref c_Impossible) (.ref c_TooAlike) = some false) ∧ (PySem.W.subIn K (.ref c_InvalidChange) (.ref c_TooAlike) = some false) ∧ (PySem.W.subIn K (.ref c_InvalidCommand) (.ref c_TooAlike) = some false) ∧ (PySem.W.subIn K (.ref c_InvalidLink) (.ref c_TooAlike) = some false) ∧ (PySem.W.subIn K (.ref c_InvalidTable) (.ref c_TooAlike) = some false) ∧ (PySem.W.subIn K (.ref c_InvalidText) (.ref c_TooAlike) = some false) ∧ (PySem.W.subIn K (.ref c_NameTaken) (.ref c_TooAlike) = some false) ∧ (PySem.W.subIn K (.ref c_NotItsTurn) (.ref c_TooAlike) = some false) ∧ (PySem.W.subIn K (.ref c_PurseExceeded) (.ref c_TooAlike) = some false) ∧ (PySem.W.subIn K (.ref c_TooAlike) (.ref c_TooAlike) = some true) ∧ (PySem.W.subIn K (.ref c_TooManyRounds) (.ref c_TooAlike) = some false) ∧ (PySem.W.subIn K (.ref c_UnknownName) (.ref c_TooAlike) = some false) ∧ (PySem.W.subIn K (.ref c_UnknownStation) (.ref c_TooAlike) = some false) ∧ (PySem.W.subIn K (.ref c_UnknownTalk) (.ref c_TooAlike) = some false))
    (nXs_TooManyRounds : ((c_Finished == c_TooManyRounds) = false) ∧ ((c_Impossible == c_TooManyRounds) = false) ∧ ((c_InvalidChange == c_TooManyRounds) = false) ∧ ((c_InvalidCommand == c_TooManyRounds) = false) ∧ ((c_InvalidLink == c_TooManyRounds) = false) ∧ ((c_InvalidTable == c_TooManyRounds) = false) ∧ ((c_InvalidText == c_TooManyRounds) = false) ∧ ((c_NameTaken == c_TooManyRounds) = false) ∧ ((c_NotItsTurn == c_TooManyRounds) = false) ∧ ((c_PurseExceeded == c_TooManyRounds) = false) ∧ ((c_TooAlike == c_TooManyRounds) = false) ∧ ((c_UnknownName == c_TooManyRounds) = false) ∧ ((c_UnknownStation == c_TooManyRounds) = false) ∧ ((c_UnknownTalk == c_TooManyRounds) = false))
    (sXs_TooManyRounds : (PySem.W.subIn K (.ref c_Finished) (.ref c_TooManyRounds) = some false) ∧ (PySem.W.subIn K (.ref c_Impossible) (.ref c_TooManyRounds) = some false) ∧ (PySem.W.subIn K (.ref c_InvalidChange) (.ref c_TooManyRounds) = some false) ∧ (PySem.W.subIn K (.ref c_InvalidCommand) (.ref c_TooManyRounds) = some false) ∧ (PySem.W.subIn K (.ref c_InvalidLink) (.ref c_TooManyRounds) = some false) ∧ (PySem.W.subIn K (.ref c_InvalidTable) (.ref c_TooManyRounds) = some false) ∧ (PySem.W.subIn K (.ref c_InvalidText) (.ref c_TooManyRounds) = some false) ∧ (PySem.W.subIn K (.ref c_NameTaken) (.ref c_TooManyRounds) = some false) ∧ (PySem.W.subIn K (.ref c_NotItsTurn) (.ref c_TooManyRounds) = some false) ∧ (PySem.W.subIn K (.ref c_PurseExceeded) (.ref c_TooManyRounds) = some false) ∧ (PySem.W.subIn K (.ref c_TooAlike) (.ref c_TooManyRounds) = some false) ∧ (PySem.W.subIn K (.ref c_TooManyRounds) (.ref c_TooManyRounds) = some true) ∧ (PySem.W.subIn K (.ref c_UnknownName) (.ref c_TooManyRounds) = some false) ∧ (PySem.W.subIn K (.ref c_UnknownStation) (.ref c_TooManyRounds) = some false) ∧ (PySem.W.subIn K (.ref c_UnknownTalk) (.ref c_TooManyRounds) = some false))
    (sXs_Unknown : (PySem.W.subIn K (.ref c_Finished) (.ref c_Unknown) = some false) ∧ (PySem.W.subIn K (.ref c_Impossible) (.ref c_Unknown) = some false) ∧ (PySem.W.subIn K (.ref c_InvalidChange) (.ref c_Unknown) = some false) ∧ (PySem.W.subIn K (.ref c_InvalidCommand) (.ref c_Unknown) = some false) ∧ (PySem.W.subIn K (.ref c_InvalidLink) (.ref c_Unknown) = some false) ∧ (PySem.W.subIn K (.ref c_InvalidTable) (.ref c_Unknown) = some false) ∧ (PySem.W.subIn K (.ref c_InvalidText) (.ref c_Unknown) = some false) ∧ (PySem.W.subIn K (.ref c_NameTaken) (.ref c_Unknown) = some false) ∧ (PySem.W.subIn K (.ref c_NotItsTurn) (.ref c_Unknown) = some false) ∧ (PySem.W.subIn K (.ref c_PurseExceeded) (.ref c_Unknown) = some false) ∧ (PySem.W.subIn K (.ref c_TooAlike) (.ref c_Unknown) = some false) ∧ (PySem.W.subIn K (.ref c_TooManyRounds) (.ref c_Unknown) = some false) ∧ (PySem.W.subIn K (.ref c_UnknownName) (.ref c_Unknown) = some true) ∧ (PySem.W.subIn K (.ref c_UnknownStation) (.ref c_Unknown) = some true) ∧ (PySem.W.subIn K (.ref c_UnknownTalk) (.ref c_Unknown) = some true))
    (nXs_Unknown : ((c_Finished == c_Unknown) = false) ∧ ((c_Impossible == c_Unknown) = false) ∧ ((c_InvalidChange == c_Unknown) = false) ∧ ((c_InvalidCommand == c_Unknown) = false) ∧ ((c_InvalidLink == c_Unknown) = false) ∧ ((c_InvalidTable == c_Unknown) = false) ∧ ((c_InvalidText == c_Unknown) = false) ∧ ((c_NameTaken == c_Unknown) = false) ∧ ((c_NotItsTurn == c_Unknown) = false) ∧ ((c_PurseExceeded == c_Unknown) = false) ∧ ((c_TooAlike == c_Unknown) = false) ∧ ((c_TooManyRounds == c_Unknown) = false))
    (nXs_UnknownName : ((c_Finished == c_UnknownName) = false) ∧ ((c_Impossible == c_UnknownName) = false) ∧ ((c_InvalidChange == c_UnknownName) = false) ∧ ((c_InvalidCommand == c_UnknownName) = false) ∧ ((c_InvalidLink == c_UnknownName) = false) ∧ ((c_InvalidTable == c_UnknownName) = false) ∧ ((c_InvalidText == c_UnknownName) = false) ∧ ((c_NameTaken == c_UnknownName) = false) ∧ ((c_NotItsTurn == c_UnknownName) = false) ∧ ((c_PurseExceeded == c_UnknownName) = false) ∧ ((c_TooAlike == c_UnknownName) = false) ∧ ((c_TooManyRounds == c_UnknownName) = false) ∧ ((c_UnknownStation == c_UnknownName) = false) ∧ ((c_UnknownTalk == c_UnknownName) = false))
    (sXs_UnknownName : (PySem.W.subIn K (.ref c_Finished) (.ref c_UnknownName) = some false) ∧ (PySem.W.subIn K (.ref c_Impossible) (.ref c_UnknownName) = some false) ∧ (PySem.W.subIn K (.ref c_InvalidChange) (.ref c_UnknownName) = some false) ∧ (PySem.W.subIn K (.ref c_InvalidCommand) (.ref c_UnknownName) = some false) ∧ (PySem.W.subIn K (.ref c_InvalidLink) (.ref c_UnknownName) = some false) ∧ (PySem.W.subIn K (.ref c_InvalidTable) (.ref c_UnknownName) = some false) ∧ (PySem.W.subIn K (.ref c_InvalidText) (.ref c_UnknownName) = some false) ∧ (PySem.W.subIn K (.ref c_NameTaken) (.ref c_UnknownName) = some false) ∧ (PySem.W.subIn K (.ref c_NotItsTurn) (.ref c_UnknownName) = some false) ∧ (PySem.W.subIn K (.ref c_PurseExceeded) (.ref c_UnknownName) = some false) ∧ (PySem.W.subIn K (.ref c_TooAlike) (.ref c_UnknownName) = some false) ∧ (PySem.W.subIn K (.ref c_TooManyRounds) (.ref c_UnknownName) = some false) ∧ (PySem.W.subIn K (.ref c_UnknownName) (.ref c_UnknownName) = some true) ∧ (PySem.W.subIn K (.ref c_UnknownStation) (.ref c_UnknownName) = some false) ∧ (PySem.W.subIn K (.ref c_UnknownTalk) (.ref c_UnknownName) = some false))
    (nXs_UnknownStation : ((c_Finished == c_UnknownStation) = false) ∧ ((c_Impossible == c_UnknownStation) = false) ∧ ((c_InvalidChange == c_UnknownStation) = false) ∧ ((c_InvalidCommand == c_UnknownStation) = false) ∧ ((c_InvalidLink == c_UnknownStation) = false) ∧ ((c_InvalidTable == c_UnknownStation) = false) ∧ ((c_InvalidText == c_UnknownStation) = false) ∧ ((c_NameTaken == c_UnknownStation) = false) ∧ ((c_NotItsTurn == c_UnknownStation) = false) ∧ ((c_PurseExceeded == c_UnknownStation) = false) ∧ ((c_TooAlike == c_UnknownStation) = false) ∧ ((c_TooManyRounds == c_UnknownStation) = false) ∧ ((c_UnknownName == c_UnknownStation) = false) ∧ ((c_UnknownTalk == c_UnknownStation) = false))
    (sXs_UnknownStation : (PySem.W.subIn K (.ref c_Finished) (.ref c_UnknownStation) = some false) ∧ (PySem.W.subIn K (.ref c_Impossible) (.ref c_UnknownStation) = some false) ∧ (PySem.W.subIn K (.ref c_InvalidChange) (.ref c_UnknownStation) = some false) ∧ (PySem.W.subIn K (.ref c_InvalidCommand) (.ref c_UnknownStation) = some false) ∧ (PySem.W.subIn K (.ref c_InvalidLink) (.ref c_UnknownStation) = some false) ∧ (PySem.W.subIn K (.ref c_InvalidTable) (.ref c_UnknownStation) = some false) ∧ (PySem.W.subIn K (.ref c_InvalidText) (.ref c_UnknownStation) = some false) ∧ (PySem.W.subIn K (.ref c_NameTaken) (.ref c_UnknownStation) = some false) ∧ (PySem.W.subIn K (.ref c_NotItsTurn) (.ref c_UnknownStation) = some false) ∧ (PySem.W.subIn K (.ref c_PurseExceeded) (.ref c_UnknownStation) = some false) ∧ (PySem.W.subIn K (.ref c_TooAlike) (.ref c_UnknownStation) = some false) ∧ (PySem.W.subIn K (.ref c_TooManyRounds) (.ref c_UnknownStation) = some false) ∧ (PySem.W.subIn K (.ref c_UnknownName) (.ref c_UnknownStation) = some false) ∧ (PySem.W.subIn K (.ref c_UnknownStation) (.ref c_UnknownStation) = some true) ∧ (PySem.W.subIn K (.ref c_UnknownTalk) (.ref c_UnknownStation) = some false))
    (nXs_UnknownTalk : ((c_Finished == c_UnknownTalk) = false) ∧ ((c_Impossible == c_UnknownTalk) = false) ∧ ((c_InvalidChange == c_UnknownTalk) = false) ∧ ((c_InvalidCommand == c_UnknownTalk) = false) ∧ ((c_InvalidLink == c_UnknownTalk) = false) ∧ ((c_InvalidTable == c_UnknownTalk) = false) ∧ ((c_InvalidText == c_UnknownTalk) = false) ∧ ((c_NameTaken == c_UnknownTalk) = false) ∧ ((c_NotItsTurn == c_UnknownTalk) = false) ∧ ((c_PurseExceeded == c_UnknownTalk) = false) ∧ ((c_TooAlike == c_UnknownTalk) = false) ∧ ((c_TooManyRounds == c_UnknownTalk) = false) ∧ ((c_UnknownName == c_UnknownTalk) = false) ∧ ((c_UnknownStation == c_UnknownTalk) = false))
    (sXs_UnknownTalk : (PySem.W.subIn K (.ref c_Finished) (.ref c_UnknownTalk) = some false) ∧ (PySem.W.subIn K (.ref c_Impossible) (.ref c_UnknownTalk) = some false) ∧ (PySem.W.subIn K (.ref c_InvalidChange) (.ref c_UnknownTalk) = some false) ∧ (PySem.W.subIn K (.ref c_InvalidCommand) (.ref c_UnknownTalk) = some false) ∧ (PySem.W.subIn K (.ref c_InvalidLink) (.ref c_UnknownTalk) = some false) ∧ (PySem.W.subIn K (.ref c_InvalidTable) (.ref c_UnknownTalk) = some false) ∧ (PySem.W.subIn K (.ref c_InvalidText) (.ref c_UnknownTalk) = some false) ∧ (PySem.W.subIn K (.ref c_NameTaken) (.ref c_UnknownTalk) = some false) ∧ (PySem.W.subIn K (.ref c_NotItsTurn) (.ref c_UnknownTalk) = some false) ∧ (PySem.W.subIn K (.ref c_PurseExceeded) (.ref c_UnknownTalk) = some false) ∧ (PySem.W.subIn K (.ref c_TooAlike) (.ref c_UnknownTalk) = some false) ∧ (PySem.W.subIn K (.ref c_TooManyRounds) (.ref c_UnknownTalk) = some false) ∧ (PySem.W.subIn K (.ref c_UnknownName) (.ref c_UnknownTalk) = some false) ∧ (PySem.W.subIn K (.ref c_UnknownStation) (.ref c_UnknownTalk) = some false) ∧ (PySem.W.subIn K (.ref c_UnknownTalk) (.ref c_UnknownTalk) = some true))
    (sBs_ValueError : (PySem.W.subIn K (.ref c_Finished) (.type "ValueError") = some true) ∧ (PySem.W.subIn K (.ref c_Impossible) (.type "ValueError") = some true) ∧ (PySem.W.subIn K (.ref c_InvalidChange) (.type "ValueError") = some true) ∧ (PySem.W.subIn K (.ref c_InvalidCommand) (.type "ValueError") = some true) ∧ (PySem.W.subIn K (.ref c_InvalidLink) (.type "ValueError") = some true) ∧ (PySem.W.subIn K (.ref c_InvalidTable) (.type "ValueError") = some true) ∧ (PySem.W.subIn K (.ref c_InvalidText) (.type "ValueError") = some true) ∧ (PySem.W.subIn K (.ref c_NameTaken) (.type "ValueError") = some true) ∧ (PySem.W.subIn K (.ref c_NotItsTurn) (.type "ValueError") = some true) ∧ (PySem.W.subIn K (.ref c_PurseExceeded) (.type "ValueError") = some true) ∧ (PySem.W.subIn K (.ref c_TooAlike) (.type "ValueError") = some true) ∧ (PySem.W.subIn K (.ref c_TooManyRounds) (.type "ValueError") = some true) ∧ (PySem.W.subIn K (.ref c_UnknownName) (.type "ValueError") = some false) ∧ (PySem.W.subIn K (.ref c_UnknownStation) (.type "ValueError") = some false) ∧ (PySem.W.subIn K (.ref c_UnknownTalk) (.type "ValueError") = some false))
    (sXs_WireError : (PySem.W.subIn K (.ref c_Finished) (.ref c_WireError) = some true) ∧ (PySem.W.subIn K (.ref c_Impossible) (.ref c_WireError) = some true) ∧ (PySem.W.subIn K (.ref c_InvalidChange) (.ref c_WireError) = some true) ∧ (PySem.W.subIn K (.ref c_InvalidCommand) (.ref c_WireError) = some true) ∧ (PySem.W.subIn K (.ref c_InvalidLink) (.ref c_WireError) = some true) ∧ (PySem.W.subIn K (.ref c_InvalidTable) (.ref c_WireError) = some true) ∧ (PySem.W.subIn K (.ref c_InvalidText) (.ref c_WireError) = some true) ∧ (PySem.W.subIn K (.ref c_NameTaken) (.ref c_WireError) = some true) ∧ (PySem.W.subIn K (.ref c_NotItsTurn) (.ref c_WireError) = some true) ∧ (PySem.W.subIn K (.ref c_PurseExceeded) (.ref c_WireError) = some true) ∧ (PySem.W.subIn K (.ref c_TooAlike) (.ref c_WireError) = some true) ∧ (PySem.W.subIn K (.ref c_TooManyRounds) (.ref c_WireError) = some true) ∧ (PySem.W.subIn K (.ref c_UnknownName) (.ref c_WireError) = some false) ∧ (PySem.W.subIn K (.ref c_UnknownStation) (.ref c_WireError) = some false) ∧ (PySem.W.subIn K (.ref c_UnknownTalk) (.ref c_WireError) = some false))
    (nXs_WireError : ((c_UnknownName == c_WireError) = false) ∧ ((c_UnknownStation == c_WireError) = false) ∧ ((c_UnknownTalk == c_WireError) = false)),
    ∃ fd : FuncData, (∀ (s : Shared) (v : Value), BindsTo s fd ⟨[v], []⟩ [("_law_script", v)]) ∧ ∀ base : Heap, K.In base → base.Ns mainGlobals mg → FnG l.prog w K mg base CX0 40 fa fd ["_law_script"] (cSp K asp_law)
end K01
open PySem PySem.W PyProof.Rows L2 HeadRun in
set_option maxRecDepth 100000 in
set_option maxHeartbeats 0 in
theorem K01.early (hAll : K01.AllMk) : PySem.Challenge.rw_lyingwire_k01_errors.Holds := by
  w_on; o_law
  refine holds_open (q := K01.H.q) (loose := K01.H.l) (Xt := K01.H.X) (XP := XL K01.H.q []) (Yf := Hook.obs (kHook K01.H.K K01.H.a K01.H.ek)) (Ya := Hook.val (kHook K01.H.K K01.H.a K01.H.ek)) (YP := Hook.says (kHook K01.H.K K01.H.a K01.H.ek)) (N := 8790) K01.H.run (Hook.of (kHook K01.H.K K01.H.a K01.H.ek)) (Hook.keeps (kHook K01.H.K K01.H.a K01.H.ek)) (fun s e => xl_of s (Bool.and_eq_true_iff.mp e).1) XL.keeps (by rfl) (by rfl) (by rfl) (fun s e => recFacts_of (Bool.and_eq_true_iff.mp e).2) (by rfl) (by first | assumption | decide +kernel) (by decide +kernel) ⟨rfl, rfl, rfl, rfl, rfl, by decide +kernel⟩ ?hw ?hc
  case hw => clear hAll; w_witness2
  k_fill
  refine L3.walk_ofG (l := PySem.Challenge.rw_lyingwire_k01_errors) (n := 63) (k := 40) (x := "_law_script") (sp := fun K => L5.cSp K K01.asp_law) rfl (by decide) rfl ⟨rfl, by decide, by decide⟩ (fun w h Y => PySem.W.kIn_of Y) ?F (fun _ H a ns hl hS _ => L5.law_start hS ⟨ns, rfl, rfl, hl, fun _ => rfl⟩)
  intro w mg fa h KX G hmg
  refine' hAll.h KX G hmg ?a__law_source ?l__law_source ?c__law_source ?k__law_source ?a__law_draw ?l__law_draw ?c__law_draw ?k__law_draw ?a__law_pick ?l__law_pick ?c__law_pick ?k__law_pick ?a__law_thing ?l__law_thing ?c__law_thing ?k__law_thing ?a__law_raise_plain ?l__law_raise_plain ?c__law_raise_plain ?k__law_raise_plain ?a__law_raise ?l__law_raise ?c__law_raise ?k__law_raise ?a__law_raise_named ?l__law_raise_named ?c__law_raise_named ?k__law_raise_named ?a__law_marks ?l__law_marks ?c__law_marks ?k__law_marks ?a__law_wire_fields ?l__law_wire_fields ?c__law_wire_fields ?k__law_wire_fields ?a__law_unknown_fields ?l__law_unknown_fields ?c__law_unknown_fields ?k__law_unknown_fields ?a__law_caught ?l__law_caught ?c__law_caught ?k__law_caught ?a__law_expected ?l__law_expected ?c__law_expected ?k__law_expected ?a_law ?l_law ?c_law ?k_law ?aC_Finished ?aC_Impossible ?aC_InvalidChange ?aC_InvalidCommand ?aC_InvalidLink ?aC_InvalidTable ?aC_InvalidText ?aC_NameTaken ?aC_NotItsTurn ?aC_PurseExceeded ?aC_TooAlike ?aC_TooManyRounds ?aC_Unknown ?aC_UnknownName ?aC_UnknownStation ?aC_UnknownTalk ?aC_WireError ?z_IndexError ?z_KeyError ?z_ValueError ?z_dict ?z_enumerate ?z_int ?z_isinstance ?z_len ?z_list ?z_range ?z_repr ?z_tuple ?eX_Finished ?kX_Finished ?bX_Finished ?tX_Finished ?eX_Impossible ?kX_Impossible ?bX_Impossible ?tX_Impossible ?eX_InvalidCommand ?kX_InvalidCommand ?bX_InvalidCommand ?tX_InvalidCommand ?eX_InvalidLink ?kX_InvalidLink ?bX_InvalidLink ?tX_InvalidLink ?eX_InvalidTable ?kX_InvalidTable ?bX_InvalidTable ?tX_InvalidTable ?eX_InvalidText ?kX_InvalidText ?bX_InvalidText ?tX_InvalidText ?hnO ?htO ?cX_Finished ?mX_Finished ?gX_Finished ?aX_Finished ?dX_Finished ?cX_Impossible ?mX_Impossible ?gX_Impossible ?aX_Impossible ?dX_Impossible ?cX_InvalidChange ?mX_InvalidChange ?gX_InvalidChange ?aX_InvalidChange ?bX_InvalidChange ?dX_InvalidChange ?cX_InvalidCommand ?mX_InvalidCommand ?gX_InvalidCommand ?aX_InvalidCommand ?dX_InvalidCommand ?cX_InvalidLink ?mX_InvalidLink ?gX_InvalidLink ?aX_InvalidLink ?dX_InvalidLink ?cX_InvalidTable ?mX_InvalidTable ?gX_InvalidTable ?aX_InvalidTable ?dX_InvalidTable ?cX_InvalidText ?mX_InvalidText ?gX_InvalidText ?aX_InvalidText ?dX_InvalidText ?cX_NameTaken ?mX_NameTaken ?gX_NameTaken ?aX_NameTaken ?bX_NameTaken ?dX_NameTaken ?cX_NotItsTurn ?mX_NotItsTurn ?gX_NotItsTurn ?aX_NotItsTurn ?bX_NotItsTurn ?dX_NotItsTurn ?cX_PurseExceeded ?mX_PurseExceeded ?gX_PurseExceeded ?aX_PurseExceeded ?bX_PurseExceeded ?dX_PurseExceeded ?cX_TooAlike ?mX_TooAlike ?gX_TooAlike ?aX_TooAlike ?bX_TooAlike ?dX_TooAlike ?cX_TooManyRounds ?mX_TooManyRounds ?gX_TooManyRounds ?aX_TooManyRounds ?bX_TooManyRounds ?dX_TooManyRounds ?cX_UnknownName ?mX_UnknownName ?gX_UnknownName ?aX_UnknownName ?bX_UnknownName ?dX_UnknownName ?cX_UnknownStation ?mX_UnknownStation ?gX_UnknownStation ?aX_UnknownStation ?bX_UnknownStation ?dX_UnknownStation ?cX_UnknownTalk ?mX_UnknownTalk ?gX_UnknownTalk ?aX_UnknownTalk ?bX_UnknownTalk ?dX_UnknownTalk ?icX_Finished ?icX_Impossible ?icX_InvalidChange ?tX_InvalidChange ?icX_InvalidCommand ?icX_InvalidLink ?icX_InvalidTable ?icX_InvalidText ?icX_NameTaken ?tX_NameTaken ?icX_NotItsTurn ?tX_NotItsTurn ?icX_PurseExceeded ?tX_PurseExceeded ?icX_TooAlike ?tX_TooAlike ?icX_TooManyRounds ?tX_TooManyRounds ?bX_Unknown ?dX_Unknown ?tX_Unknown ?icX_Unknown ?icX_UnknownName ?tX_UnknownName ?icX_UnknownStation ?tX_UnknownStation ?icX_UnknownTalk ?tX_UnknownTalk ?bX_WireError ?dX_WireError ?tX_WireError ?icX_WireError ?xn_InvalidChange_change ?xn_NameTaken_name ?xn_NotItsTurn_station ?xn_PurseExceeded_count ?xn_TooAlike_first ?xn_TooAlike_second ?xn_TooManyRounds_rounds ?xn_UnknownName_name ?xn_UnknownStation_station ?xn_UnknownTalk_talk ?iX_InvalidChange ?l_InvalidChange___init__ ?c_InvalidChange___init__ ?k_InvalidChange___init__ ?lX_InvalidChange ?pX_InvalidChange ?jX_InvalidChange ?rd_WireError ?gc_WireError ?wX_WireError ?kX_InvalidChange ?iX_NameTaken ?l_NameTaken___init__ ?c_NameTaken___init__ ?k_NameTaken___init__ ?lX_NameTaken ?pX_NameTaken ?jX_NameTaken ?kX_NameTaken ?iX_NotItsTurn ?l_NotItsTurn___init__ ?c_NotItsTurn___init__ ?k_NotItsTurn___init__ ?lX_NotItsTurn ?pX_NotItsTurn ?jX_NotItsTurn ?kX_NotItsTurn ?iX_PurseExceeded ?l_PurseExceeded___init__ ?c_PurseExceeded___init__ ?k_PurseExceeded___init__ ?lX_PurseExceeded ?pX_PurseExceeded ?jX_PurseExceeded ?kX_PurseExceeded ?iX_TooAlike ?l_TooAlike___init__ ?c_TooAlike___init__ ?k_TooAlike___init__ ?lX_TooAlike ?pX_TooAlike ?jX_TooAlike ?kX_TooAlike ?iX_TooManyRounds ?l_TooManyRounds___init__ ?c_TooManyRounds___init__ ?k_TooManyRounds___init__ ?lX_TooManyRounds ?pX_TooManyRounds ?jX_TooManyRounds ?kX_TooManyRounds ?iX_UnknownName ?l_UnknownName___init__ ?c_UnknownName___init__ ?k_UnknownName___init__ ?lX_UnknownName ?pX_UnknownName ?jX_UnknownName ?rd_Unknown ?gc_Unknown ?wX_Unknown ?kX_UnknownName ?iX_UnknownStation ?l_UnknownStation___init__ ?c_UnknownStation___init__ ?k_UnknownStation___init__ ?lX_UnknownStation ?pX_UnknownStation ?jX_UnknownStation ?kX_UnknownStation ?iX_UnknownTalk ?l_UnknownTalk___init__ ?c_UnknownTalk___init__ ?k_UnknownTalk___init__ ?lX_UnknownTalk ?pX_UnknownTalk ?jX_UnknownTalk ?kX_UnknownTalk ?sXs_Finished ?nXs_Finished ?nXs_Impossible ?sXs_Impossible ?sBs_IndexError ?nXs_InvalidChange ?sXs_InvalidChange ?nXs_InvalidCommand ?sXs_InvalidCommand ?nXs_InvalidLink ?sXs_InvalidLink ?nXs_InvalidTable ?sXs_InvalidTable ?nXs_InvalidText ?sXs_InvalidText ?sBs_KeyError ?nXs_NameTaken ?sXs_NameTaken ?nXs_NotItsTurn ?sXs_NotItsTurn ?nXs_PurseExceeded ?sXs_PurseExceeded ?nXs_TooAlike ?sXs_TooAlike ?nXs_TooManyRounds ?sXs_TooManyRounds ?sXs_Unknown ?nXs_Unknown ?nXs_UnknownName ?sXs_UnknownName ?nXs_UnknownStation ?sXs_UnknownStation ?nXs_UnknownTalk ?sXs_UnknownTalk ?sBs_ValueError ?sXs_WireError ?nXs_WireError
  (case a__law_source => k_is)
  (case l__law_source => k_is)
  (case c__law_source => k_is)
  (case k__law_source => k_is)
  (case a__law_draw => k_is)
  (case l__law_draw => k_is)
  (case c__law_draw => k_is)
  (case k__law_draw => k_is)
  (case a__law_pick => k_is)
  (case l__law_pick => k_is)
  (case c__law_pick => k_is)
  (case k__law_pick => k_is)
  (case a__law_thing => k_is)
  (case l__law_thing => k_is)
  (case c__law_thing => k_is)
  (case k__law_thing => k_is)
  (case a__law_raise_plain => k_is)
  (case l__law_raise_plain => k_is)
  (case c__law_raise_plain => k_is)
  (case k__law_raise_plain => k_is)
  (case a__law_raise => k_is)
  (case l__law_raise => k_is)
  (case c__law_raise => k_is)
  (case k__law_raise => k_is)
  (case a__law_raise_named => k_is)
  (case l__law_raise_named => k_is)
  (case c__law_raise_named => k_is)
  (case k__law_raise_named => k_is)
  (case a__law_marks => k_is)
  (case l__law_marks => k_is)
  (case c__law_marks => k_is)
  (case k__law_marks => k_is)
  (case a__law_wire_fields => k_is)
  (case l__law_wire_fields => k_is)
  (case c__law_wire_fields => k_is)
  (case k__law_wire_fields => k_is)
  (case a__law_unknown_fields => k_is)
  (case l__law_unknown_fields => k_is)
  (case c__law_unknown_fields => k_is)
  (case k__law_unknown_fields => k_is)
  (case a__law_caught => k_is)
  (case l__law_caught => k_is)
  (case c__law_caught => k_is)
  (case k__law_caught => k_is)
  (case a__law_expected => k_is)
  (case l__law_expected => k_is)
  (case c__law_expected => k_is)
  (case k__law_expected => k_is)
  (case a_law => k_is)
  (case l_law => k_is)
  (case c_law => k_is)
  (case k_law => k_is)
  (case aC_Finished => k_is)
  (case aC_Impossible => k_is)
  (case aC_InvalidChange => k_is)
  (case aC_InvalidCommand => k_is)
  (case aC_InvalidLink => k_is)
  (case aC_InvalidTable => k_is)
  (case aC_InvalidText => k_is)
  (case aC_NameTaken => k_is)
  (case aC_NotItsTurn => k_is)
  (case aC_PurseExceeded => k_is)
  (case aC_TooAlike => k_is)
  (case aC_TooManyRounds => k_is)
  (case aC_Unknown => k_is)
  (case aC_UnknownName => k_is)
  (case aC_UnknownStation => k_is)
  (case aC_UnknownTalk => k_is)
  (case aC_WireError => k_is)
  (case z_IndexError => k_is)
  (case z_KeyError => k_is)
  (case z_ValueError => k_is)
  (case z_dict => k_is)
  (case z_enumerate => k_is)
  (case z_int => k_is)
  (case z_isinstance => k_is)
  (case z_len => k_is)
  (case z_list => k_is)
  (case z_range => k_is)
  (case z_repr => k_is)
  (case z_tuple => k_is)
  (case eX_Finished => first | kernel_rfl | rfl | (revert w; decide +kernel))
  (case kX_Finished => k_is)
  (case bX_Finished => k_is)
  (case tX_Finished => k_is)
  (case eX_Impossible => first | kernel_rfl | rfl | (revert w; decide +kernel))
  (case kX_Impossible => k_is)
  (case bX_Impossible => k_is)
  (case tX_Impossible => k_is)
  (case eX_InvalidCommand => first | kernel_rfl | rfl | (revert w; decide +kernel))
  (case kX_InvalidCommand => k_is)
  (case bX_InvalidCommand => k_is)
  (case tX_InvalidCommand => k_is)
  (case eX_InvalidLink => first | kernel_rfl | rfl | (revert w; decide +kernel))
  (case kX_InvalidLink => k_is)
  (case bX_InvalidLink => k_is)
  (case tX_InvalidLink => k_is)
  (case eX_InvalidTable => first | kernel_rfl | rfl | (revert w; decide +kernel))
  (case kX_InvalidTable => k_is)
  (case bX_InvalidTable => k_is)
  (case tX_InvalidTable => k_is)
  (case eX_InvalidText => first | kernel_rfl | rfl | (revert w; decide +kernel))
  (case kX_InvalidText => k_is)
  (case bX_InvalidText => k_is)
  (case tX_InvalidText => k_is)
  (case hnO => k_is)
  (case htO => k_is)
  (case cX_Finished => k_is)
  (case mX_Finished => k_is)
  (case gX_Finished => k_is)
  (case aX_Finished => k_is)
  (case dX_Finished => k_is)
  (case cX_Impossible => k_is)
  (case mX_Impossible => k_is)
  (case gX_Impossible => k_is)
  (case aX_Impossible => k_is)
  (case dX_Impossible => k_is)
  (case cX_InvalidChange => k_is)
  (case mX_InvalidChange => k_is)
  (case gX_InvalidChange => k_is)
  (case aX_InvalidChange => k_is)
  (case bX_InvalidChange => k_is)
  (case dX_InvalidChange => k_is)
  (case cX_InvalidCommand => k_is)
  (case mX_InvalidCommand => k_is)
  (case gX_InvalidCommand => k_is)
  (case aX_InvalidCommand => k_is)
  (case dX_InvalidCommand => k_is)
  (case cX_InvalidLink => k_is)
  (case mX_InvalidLink => k_is)
  (case gX_InvalidLink => k_is)
  (case aX_InvalidLink => k_is)
  (case dX_InvalidLink => k_is)
  (case cX_InvalidTable => k_is)
  (case mX_InvalidTable => k_is)
  (case gX_InvalidTable => k_is)
  (case aX_InvalidTable => k_is)
  (case dX_InvalidTable => k_is)
  (case cX_InvalidText => k_is)
  (case mX_InvalidText => k_is)
  (case gX_InvalidText => k_is)
  (case aX_InvalidText => k_is)
  (case dX_InvalidText => k_is)
  (case cX_NameTaken => k_is)
  (case mX_NameTaken => k_is)
  (case gX_NameTaken => k_is)
  (case aX_NameTaken => k_is)
  (case bX_NameTaken => k_is)
  (case dX_NameTaken => k_is)
  (case cX_NotItsTurn => k_is)
  (case mX_NotItsTurn => k_is)
  (case gX_NotItsTurn => k_is)
  (case aX_NotItsTurn => k_is)
  (case bX_NotItsTurn => k_is)
  (case dX_NotItsTurn => k_is)
  (case cX_PurseExceeded => k_is)
  (case mX_PurseExceeded => k_is)
  (case gX_PurseExceeded => k_is)
  (case aX_PurseExceeded => k_is)
  (case bX_PurseExceeded => k_is)
  (case dX_PurseExceeded => k_is)
  (case cX_TooAlike => k_is)
  (case mX_TooAlike => k_is)
  (case gX_TooAlike => k_is)
  (case aX_TooAlike => k_is)
  (case bX_TooAlike => k_is)
  (case dX_TooAlike => k_is)
  (case cX_TooManyRounds => k_is)
  (case mX_TooManyRounds => k_is)
  (case gX_TooManyRounds => k_is)
  (case aX_TooManyRounds => k_is)
  (case bX_TooManyRounds => k_is)
  (case dX_TooManyRounds => k_is)
  (case cX_UnknownName => k_is)
  (case mX_UnknownName => k_is)
  (case gX_UnknownName => k_is)
  (case aX_UnknownName => k_is)
  (case bX_UnknownName => k_is)
  (case dX_UnknownName => k_is)
  (case cX_UnknownStation => k_is)
  (case mX_UnknownStation => k_is)
  (case gX_UnknownStation => k_is)
  (case aX_UnknownStation => k_is)
  (case bX_UnknownStation => k_is)
  (case dX_UnknownStation => k_is)
  (case cX_UnknownTalk => k_is)
  (case mX_UnknownTalk => k_is)
  (case gX_UnknownTalk => k_is)
  (case aX_UnknownTalk => k_is)
  (case bX_UnknownTalk => k_is)
  (case dX_UnknownTalk => k_is)
  (case icX_Finished => k_is)
  (case icX_Impossible => k_is)
  (case icX_InvalidChange => k_is)
  (case tX_InvalidChange => k_is)
  (case icX_InvalidCommand => k_is)
  (case icX_InvalidLink => k_is)
  (case icX_InvalidTable => k_is)
  (case icX_InvalidText => k_is)
  (case icX_NameTaken => k_is)
  (case tX_NameTaken => k_is)
  (case icX_NotItsTurn => k_is)
  (case tX_NotItsTurn => k_is)
  (case icX_PurseExceeded => k_is)
  (case tX_PurseExceeded => k_is)
  (case icX_TooAlike => k_is)
  (case tX_TooAlike => k_is)
  (case icX_TooManyRounds => k_is)
  (case tX_TooManyRounds => k_is)
  (case bX_Unknown => k_is)
  (case dX_Unknown => k_is)
  (case tX_Unknown => k_is)
  (case icX_Unknown => k_is)
  (case icX_UnknownName => k_is)
  (case tX_UnknownName => k_is)
  (case icX_UnknownStation => k_is)
  (case tX_UnknownStation => k_is)
  (case icX_UnknownTalk => k_is)
  (case tX_UnknownTalk => k_is)
  (case bX_WireError => k_is)
  (case dX_WireError => k_is)
  (case tX_WireError => k_is)
  (case icX_WireError => k_is)
  (case xn_InvalidChange_change => k_is)
  (case xn_NameTaken_name => k_is)
  (case xn_NotItsTurn_station => k_is)
  (case xn_PurseExceeded_count => k_is)
  (case xn_TooAlike_first => k_is)
  (case xn_TooAlike_second => k_is)
  (case xn_TooManyRounds_rounds => k_is)
  (case xn_UnknownName_name => k_is)
  (case xn_UnknownStation_station => k_is)
  (case xn_UnknownTalk_talk => k_is)
  (case iX_InvalidChange => k_is)
  (case l_InvalidChange___init__ => k_is)
  (case c_InvalidChange___init__ => k_is)
  (case k_InvalidChange___init__ => k_is)
  (case lX_InvalidChange => exact ⟨_, _, _, _, _, _, _, _, _, _, _, _, _, _, _, by k_is, [_], by rfl⟩)
  (case pX_InvalidChange => k_is)
  (case jX_InvalidChange => k_is)
  (case rd_WireError => k_is)
  (case gc_WireError => k_is)
  (case wX_WireError => k_is)
  (case kX_InvalidChange => k_is)
  (case iX_NameTaken => k_is)
  (case l_NameTaken___init__ => k_is)
  (case c_NameTaken___init__ => k_is)
  (case k_NameTaken___init__ => k_is)
  (case lX_NameTaken => exact ⟨_, _, _, _, _, _, _, _, _, _, _, _, _, _, _, by k_is, [_], by rfl⟩)
  (case pX_NameTaken => k_is)
  (case jX_NameTaken => k_is)
  (case kX_NameTaken => k_is)
  (case iX_NotItsTurn => k_is)
  (case l_NotItsTurn___init__ => k_is)
  (case c_NotItsTurn___init__ => k_is)
  (case k_NotItsTurn___init__ => k_is)
  (case lX_NotItsTurn => exact ⟨_, _, _, _, _, _, _, _, _, _, _, _, _, _, _, by k_is, [_], by rfl⟩)
  (case pX_NotItsTurn => k_is)
  (case jX_NotItsTurn => k_is)
  (case kX_NotItsTurn => k_is)
  (case iX_PurseExceeded => k_is)
  (case l_PurseExceeded___init__ => k_is)
  (case c_PurseExceeded___init__ => k_is)
  (case k_PurseExceeded___init__ => k_is)
  (case lX_PurseExceeded => exact ⟨_, _, _, _, _, _, _, _, _, _, _, _, _, _, _, by k_is, [_], by rfl⟩)
  (case pX_PurseExceeded => k_is)
  (case jX_PurseExceeded => k_is)
  (case kX_PurseExceeded => k_is)
  (case iX_TooAlike => k_is)
  (case l_TooAlike___init__ => k_is)
  (case c_TooAlike___init__ => k_is)
  (case k_TooAlike___init__ => k_is)
  (case lX_TooAlike => exact ⟨_, _, _, _, _, _, _, _, _, _, _, _, _, _, _, by k_is, [_], by rfl⟩)
  (case pX_TooAlike => k_is)
  (case jX_TooAlike => k_is)
  (case kX_TooAlike => k_is)
  (case iX_TooManyRounds => k_is)
  (case l_TooManyRounds___init__ => k_is)
  (case c_TooManyRounds___init__ => k_is)
  (case k_TooManyRounds___init__ => k_is)
  (case lX_TooManyRounds => exact ⟨_, _, _, _, _, _, _, _, _, _, _, _, _, _, _, by k_is, [_], by rfl⟩)
  (case pX_TooManyRounds => k_is)
  (case jX_TooManyRounds => k_is)
  (case kX_TooManyRounds => k_is)
  (case iX_UnknownName => k_is)
  (case l_UnknownName___init__ => k_is)
  (case c_UnknownName___init__ => k_is)
  (case k_UnknownName___init__ => k_is)
  (case lX_UnknownName => exact ⟨_, _, _, _, _, _, _, _, _, _, _, _, _, _, _, by k_is, [_], by rfl⟩)
  (case pX_UnknownName => k_is)
  (case jX_UnknownName => k_is)
  (case rd_Unknown => k_is)
  (case gc_Unknown => k_is)
  (case wX_Unknown => k_is)
  (case kX_UnknownName => k_is)
  (case iX_UnknownStation => k_is)
  (case l_UnknownStation___init__ => k_is)
  (case c_UnknownStation___init__ => k_is)
  (case k_UnknownStation___init__ => k_is)
  (case lX_UnknownStation => exact ⟨_, _, _, _, _, _, _, _, _, _, _, _, _, _, _, by k_is, [_], by rfl⟩)
  (case pX_UnknownStation => k_is)
  (case jX_UnknownStation => k_is)
  (case kX_UnknownStation => k_is)
  (case iX_UnknownTalk => k_is)
  (case l_UnknownTalk___init__ => k_is)
  (case c_UnknownTalk___init__ => k_is)
  (case k_UnknownTalk___init__ => k_is)
  (case lX_UnknownTalk => exact ⟨_, _, _, _, _, _, _, _, _, _, _, _, _, _, _, by k_is, [_], by rfl⟩)
  (case pX_UnknownTalk => k_is)
  (case jX_UnknownTalk => k_is)
  (case kX_UnknownTalk => k_is)
  (case sXs_Finished => exact ⟨by k_is, by k_is, by k_is, by k_is, by k_is, by k_is, by k_is, by k_is, by k_is, by k_is, by k_is, by k_is, by k_is, by k_is, by k_is⟩)
  (case nXs_Finished => decide +kernel)
  (case nXs_Impossible => decide +kernel)
  (case sXs_Impossible => exact ⟨by k_is, by k_is, by k_is, by k_is, by k_is, by k_is, by k_is, by k_is, by k_is, by k_is, by k_is, by k_is, by k_is, by k_is, by k_is⟩)
  (case sBs_IndexError => exact ⟨by k_is, by k_is, by k_is, by k_is, by k_is, by k_is, by k_is, by k_is, by k_is, by k_is, by k_is, by k_is, by k_is, by k_is, by k_is⟩)
  (case nXs_InvalidChange => decide +kernel)
  (case sXs_InvalidChange => exact ⟨by k_is, by k_is, by k_is, by k_is, by k_is, by k_is, by k_is, by k_is, by k_is, by k_is, by k_is, by k_is, by k_is, by k_is, by k_is⟩)
  (case nXs_InvalidCommand => decide +kernel)
  (case sXs_InvalidCommand => exact ⟨by k_is, by k_is, by k_is, by k_is, by k_is, by k_is, by k_is, by k_is, by k_is, by k_is, by k_is, by k_is, by k_is, by k_is, by k_is⟩)
  (case nXs_InvalidLink => decide +kernel)
  (case sXs_InvalidLink => exact ⟨by k_is, by k_is, by k_is, by k_is, by k_is, by k_is, by k_is, by k_is, by k_is, by k_is, by k_is, by k_is, by k_is, by k_is, by k_is⟩)
  (case nXs_InvalidTable => decide +kernel)
  (case sXs_InvalidTable => exact ⟨by k_is, by k_is, by k_is, by k_is, by k_is, by k_is, by k_is, by k_is, by k_is, by k_is, by k_is, by k_is, by k_is, by k_is, by k_is⟩)
  (case nXs_InvalidText => decide +kernel)
  (case sXs_InvalidText => exact ⟨by k_is, by k_is, by k_is, by k_is, by k_is, by k_is, by k_is, by k_is, by k_is, by k_is, by k_is, by k_is, by k_is, by k_is, by k_is⟩)
  (case sBs_KeyError => exact ⟨by k_is, by k_is, by k_is, by k_is, by k_is, by k_is, by k_is, by k_is, by k_is, by k_is, by k_is, by k_is, by k_is, by k_is, by k_is⟩)
  (case nXs_NameTaken => decide +kernel)
  (case sXs_NameTaken => exact ⟨by k_is, by k_is, by k_is, by k_is, by k_is, by k_is, by k_is, by k_is, by k_is, by k_is, by k_is, by k_is, by k_is, by k_is, by k_is⟩)
  (case nXs_NotItsTurn => decide +kernel)
  (case sXs_NotItsTurn => exact ⟨by k_is, by k_is, by k_is, by k_is, by k_is, by k_is, by k_is, by k_is, by k_is, by k_is, by k_is, by k_is, by k_is, by k_is, by k_is⟩)
  (case nXs_PurseExceeded => decide +kernel)
  (case sXs_PurseExceeded => exact ⟨by k_is, by k_is, by k_is, by k_is, by k_is, by k_is, by k_is, by k_is, by k_is, by k_is, by k_is, by k_is, by k_is, by k_is, by k_is⟩)
  (case nXs_TooAlike => decide +kernel)
  (case sXs_TooAlike => exact ⟨by k_is, by k_is, by k_is, by k_is, by k_is, by k_is, by k_is, by k_is, by k_is, by k_is, by k_is, by k_is, by k_is, by k_is, by k_is⟩)
  (case nXs_TooManyRounds => decide +kernel)
  (case sXs_TooManyRounds => exact ⟨by k_is, by k_is, by k_is, by k_is, by k_is, by k_is, by k_is, by k_is, by k_is, by k_is, by k_is, by k_is, by k_is, by k_is, by k_is⟩)
  (case sXs_Unknown => exact ⟨by k_is, by k_is, by k_is, by k_is, by k_is, by k_is, by k_is, by k_is, by k_is, by k_is, by k_is, by k_is, by k_is, by k_is, by k_is⟩)
  (case nXs_Unknown => decide +kernel)
  (case nXs_UnknownName => decide +kernel)
  (case sXs_UnknownName => exact ⟨by k_is, by k_is, by k_is, by k_is, by k_is, by k_is, by k_is, by k_is, by k_is, by k_is, by k_is, by k_is, by k_is, by k_is, by k_is⟩)
  (case nXs_UnknownStation => decide +kernel)
  (case sXs_UnknownStation => exact ⟨by k_is, by k_is, by k_is, by k_is, by k_is, by k_is, by k_is, by k_is, by k_is, by k_is, by k_is, by k_is, by k_is, by k_is, by k_is⟩)
  (case nXs_UnknownTalk => decide +kernel)
  (case sXs_UnknownTalk => exact ⟨by k_is, by k_is, by k_is, by k_is, by k_is, by k_is, by k_is, by k_is, by k_is, by k_is, by k_is, by k_is, by k_is, by k_is, by k_is⟩)
  (case sBs_ValueError => exact ⟨by k_is, by k_is, by k_is, by k_is, by k_is, by k_is, by k_is, by k_is, by k_is, by k_is, by k_is, by k_is, by k_is, by k_is, by k_is⟩)
  (case sXs_WireError => exact ⟨by k_is, by k_is, by k_is, by k_is, by k_is, by k_is, by k_is, by k_is, by k_is, by k_is, by k_is, by k_is, by k_is, by k_is, by k_is⟩)
  (case nXs_WireError => decide +kernel)

namespace L3
open PySem PySem.Spec PyProof.Rows L2
end L3

namespace L5
open PySem PySem.Spec PyProof.Rows L2 L3
@[reducible] def onKey (p : PV) (P : Key → Prop) : Prop := match p with
  | .int i => P (.inl i)
  | .str s => P (.inr s)
  | _ => False
@[reducible] def nthK : List Key → Nat → Option Key
  | [], _ => none
  | k :: _, 0 => some k
  | _ :: r, n + 1 => nthK r n
@[reducible] def nthP : List PV → Nat → Option PV
  | [], _ => none
  | k :: _, 0 => some k
  | _ :: r, n + 1 => nthP r n
@[reducible] def setP : List PV → Nat → PV → List PV
  | [], _, _ => []
  | _ :: r, 0, p => p :: r
  | x :: r, n + 1, p => x :: setP r n p
@[reducible] def dctOf (p : PV) (S : Sto) : Option (List Key × List PV) := match p with
  | .dct ks xs => some (ks, xs)
  | .own k => sgetD S k
  | _ => none
section
variable {K : PySem.W.Frag} {W W' : Wd} {S : Sto} {H : Hp} {P : AV} {Q : VK} {I : Hp} {ad : List Addr}
theorem VR.onKey {v : V} {p : PV} (r : VR K I ad v p) {P : Key → Prop} (h : onKey p P) : ∃ k, v = kV k ∧ P k := by
  cases r with
  | int i => exact ⟨.inl i, rfl, h⟩
  | str s => exact ⟨.inr s, rfl, h⟩
  | _ => exact h.elim
theorem VR.dct_at (I : In K W S H) {v : V} {p : PV} (r : VR K W.I W.ad v p) {ks : List Key} {xs : List PV} (e : dctOf p S = some (ks, xs)) :
    ∃ a kvs, v = .ref a ∧ H a = some (.dK kvs) ∧ kvs.map Prod.fst = ks ∧ ks.Nodup ∧ VRs K W.I W.ad (kvs.map Prod.snd) xs := by
  cases p with
  | dct ks' ys =>
    cases e
    exact (match r with
      | .dct h e n hs => ⟨_, _, rfl, I.exH _ _ h, e, n, hs⟩)
  | own k =>
    obtain ⟨a, kvs, h1, h2, h3, h4, h5, _⟩ := I.atD r (sgetD_eq e)
    exact ⟨a, kvs, h1, h2, h3, h4, h5⟩
  | _ => cases e
theorem nthK_eq : ∀ {ks : List Key} {i : Nat} {k : Key}, nthK ks i = some k → ks[i]? = some k
  | [], _, _, h => by cases h
  | _ :: _, 0, _, h => h
  | _ :: r, n + 1, _, h => nthK_eq (ks := r) h
theorem nthP_eq : ∀ {ks : List PV} {i : Nat} {k : PV}, nthP ks i = some k → ks[i]? = some k
  | [], _, _, h => by cases h
  | _ :: _, 0, _, h => h
  | _ :: r, n + 1, _, h => nthP_eq (ks := r) h
theorem val_at {k : Key} {v : V} : ∀ {kvs : List (Key × V)} {i : Nat}, (kvs.map Prod.fst).Nodup → kvs[i]? = some (k, v) → valV kvs k = some v
  | [], _, _, h => by cases h
  | p :: kvs, 0, _, h => by
    cases h
    exact valV_pos rfl
  | p :: kvs, i + 1, nd, h => by
    rw [List.map_cons, List.nodup_cons] at nd
    have h : kvs[i]? = some (k, v) := h
    rw [valV_neg fun e => nd.1 (by rw [e]; exact List.mem_map.mpr ⟨_, List.mem_of_getElem? h, rfl⟩)]
    exact val_at nd.2 h
theorem val_none {k : Key} : ∀ {kvs : List (Key × V)}, k ∉ kvs.map Prod.fst → valV kvs k = none
  | [], _ => rfl
  | p :: kvs, h => by
    rw [List.map_cons, List.mem_cons, not_or] at h
    rw [valV_neg (fun e => h.1 e.symm)]
    exact val_none h.2
theorem pair_at {α β : Type} {l : List (α × β)} {i : Nat} {a : α} {b : β} (h1 : (l.map Prod.fst)[i]? = some a) (h2 : (l.map Prod.snd)[i]? = some b) : l[i]? = some (a, b) := by
  rw [List.getElem?_map] at h1 h2
  cases z : l[i]? with
  | none => rw [z] at h1; cases h1
  | some q =>
    rw [z] at h1 h2
    obtain ⟨q1, q2⟩ := q
    cases h1
    cases h2
    rfl
theorem dget_at {kvs : List (Key × V)} {ks : List Key} {xs : List PV} {i : Nat} {k : Key} {p : PV} (e : kvs.map Prod.fst = ks) (nd : ks.Nodup) (rs : VRs K I ad (kvs.map Prod.snd) xs) (hk : ks[i]? = some k) (hx : xs[i]? = some p) : ∃ v, valV kvs k = some v ∧ VR K I ad v p := by
  obtain ⟨v, hv, r⟩ := rs.get hx
  subst e
  exact ⟨v, val_at nd (pair_at hk hv), r⟩
theorem put_at {k : Key} {v : V} : ∀ {kvs : List (Key × V)} {i : Nat}, (kvs.map Prod.fst).Nodup → (kvs.map Prod.fst)[i]? = some k → kvs.map (fun kv => if kv.1 = k then (kv.1, v) else kv) = kvs.set i (k, v)
  | [], _, _, h => by cases h
  | p :: kvs, 0, nd, h => by
    cases h
    rw [List.map_cons, List.nodup_cons] at nd
    rw [List.map_cons, if_pos rfl, List.set_cons_zero]
    congr 1
    refine (List.map_congr_left fun q hq => ?_).trans (List.map_id _)
    rw [if_neg fun e => nd.1 (by rw [← e]; exact List.mem_map.mpr ⟨q, hq, rfl⟩)]
    rfl
  | p :: kvs, i + 1, nd, h => by
    rw [List.map_cons, List.nodup_cons] at nd
    have h : (kvs.map Prod.fst)[i]? = some k := h
    rw [List.map_cons, if_neg fun e => nd.1 (by rw [e]; exact List.mem_of_getElem? h), List.set_cons_succ, put_at nd.2 h]
theorem setP_eq : ∀ (xs : List PV) (i : Nat) (p : PV), setP xs i p = xs.set i p
  | [], _, _ => rfl
  | _ :: r, 0, p => rfl
  | x :: r, n + 1, p => by
    show x :: setP r n p = x :: r.set n p
    rw [setP_eq r n p]
theorem dput_at {kvs : List (Key × V)} {ks : List Key} {xs : List PV} {i : Nat} {k : Key} {v : V} {p : PV} (e : kvs.map Prod.fst = ks) (nd : ks.Nodup) (rs : VRs K I ad (kvs.map Prod.snd) xs) (hk : ks[i]? = some k) (r : VR K I ad v p) :
    (putK kvs k v).map Prod.fst = ks ∧ VRs K I ad ((putK kvs k v).map Prod.snd) (setP xs i p) := by
  subst e
  have ha : (kvs.any fun kv => decide (kv.1 = k)) = true := by
    rw [List.any_eq_true]
    obtain ⟨q, hq, e⟩ := List.mem_map.mp (List.mem_of_getElem? hk)
    exact ⟨q, hq, by rw [e]; simp⟩
  unfold putK
  rw [if_pos ha, put_at nd hk, List.map_set, List.map_set, setP_eq]
  refine ⟨?_, rs.set r i⟩
  apply List.ext_getElem?
  intro j
  rw [List.getElem?_set]
  split
  · rename_i e
    subst e
    have := (List.getElem?_eq_some_iff.mp hk).1
    rw [if_pos this, hk]
  · rfl
theorem dput_new {kvs : List (Key × V)} {ks : List Key} {xs : List PV} {k : Key} {v : V} {p : PV} (e : kvs.map Prod.fst = ks) (nd : ks.Nodup) (rs : VRs K I ad (kvs.map Prod.snd) xs) (hk : k ∉ ks) (r : VR K I ad v p) :
    (putK kvs k v).map Prod.fst = ks ++ [k] ∧ (ks ++ [k]).Nodup ∧ VRs K I ad ((putK kvs k v).map Prod.snd) (xs ++ [p]) := by
  subst e
  rw [putK_new v (val_none hk), List.map_append, List.map_append]
  refine ⟨rfl, ?_, rs.append (.cons r .nil)⟩
  rw [List.nodup_append]
  exact ⟨nd, by simp, fun a ha b hb e => hk (by rw [List.mem_singleton] at hb; rw [← hb, ← e]; exact ha)⟩
variable {ta te tv : TE} {fa fe fv : ATE} {t tk : TA} {f fk : ATA}
def dAt (ks : List Key) (xs : List PV) (k : Key) (P : PV → Prop) : Prop := ∃ i p, nthK ks i = some k ∧ nthP xs i = some p ∧ P p
def onD (o : Option (List Key × List PV)) (P : List Key → List PV → Prop) : Prop := ∃ ks xs, o = some (ks, xs) ∧ P ks xs
@[reducible] def aDGet (d k : ATE) : ATE := fun ρ S P => d ρ S fun x S1 => k ρ S1 fun y S2 => onD (dctOf x S2) fun ks xs => onKey y fun k => dAt ks xs k fun v => P v S2
theorem se_dget (ha : SE K ta fa) (he : SE K te fe) : SE K (tDGet ta te) (aDGet fa fe) := ⟨fun I E h c =>
  ha.run I E h fun W1 S1 x p H1 l1 I1 r1 h1 => he.run I1 (E.up l1.toLo) h1 fun W2 S2 y q H2 l2 I2 r2 ⟨ks, xs, e, h2⟩ => by
    obtain ⟨a, kvs, rfl, h3, h4, h5, h6⟩ := (r1.up l2.toLo).dct_at I2 e
    obtain ⟨k, rfl, i, z, hi, hz, h7⟩ := r2.onKey h2
    obtain ⟨v, hv, rv⟩ := dget_at h4 h5 h6 (nthK_eq hi) (nthP_eq hz)
    exact ⟨a, v, rfl, by rw [← hv]; exact .k h3, c _ _ _ _ _ (l1.trans l2) I2 rv h7⟩⟩
@[reducible] def snc {α : Type} : List α → α → List α
  | [], x => [x]
  | y :: r, x => y :: snc r x
theorem snc_eq {α : Type} : ∀ (l : List α) (x : α), snc l x = l ++ [x]
  | [], _ => rfl
  | y :: r, x => by
    show y :: snc r x = y :: (r ++ [x])
    rw [snc_eq r x]
def dPut (ks : List Key) (xs : List PV) (k : Key) (v : PV) (P : List Key → List PV → Prop) : Prop := (∃ i, nthK ks i = some k ∧ P ks (setP xs i v)) ∨ (k ∉ ks ∧ ks.length < 10000 ∧ P (snc ks k) (snc xs v))
def onOwnD (x : PV) (S : Sto) (P : Nat → List Key → List PV → Prop) : Prop := ∃ n ks xs, x = .own n ∧ sgetD S n = some (ks, xs) ∧ ks.length ≤ 10000 ∧ P n ks xs
@[reducible] def aDPut (d k v : ATE) : ATS := fun D ρ S => v ρ S fun z S1 => d ρ S1 fun x S2 => k ρ S2 fun y S3 => onOwnD x S3 fun n ks xs => onKey y fun k => dPut ks xs k z fun ks' xs' => D.nx ρ (spo S3 n (.dct ks' xs'))
theorem ss_dput (ha : SE K ta fa) (he : SE K te fe) (hv : SE K tv fv) : SS K (sDPut ta te tv) (aDPut fa fe fv) := ⟨fun I E h c =>
  hv.run I E h fun W1 S1 z r H1 l1 I1 r1 h1 => ha.run I1 (E.up l1.toLo) h1 fun W2 S2 x p H2 l2 I2 r2 h2 => he.run I2 (E.up (l1.trans l2).toLo) h2 fun W3 S3 y q H3 l3 I3 r3 ⟨n, ks, xs, ep, e, hn, h3⟩ => by
    subst ep
    have l := (l1.trans l2).trans l3
    obtain ⟨a, kvs, rfl, h4, h5, h6, h7, up⟩ := I3.atD (r2.up l3.toLo) (sgetD_eq e)
    obtain ⟨k, rfl, h8⟩ := r3.onKey h3
    have hl : kvs.length < sizeLine := by
      have e1 := congrArg List.length h5
      rw [List.length_map] at e1
      rw [e1, sizeLine_eq]
      omega
    refine ⟨a, _, rfl, .k h4 hl, ?_⟩
    rcases h8 with ⟨i, hi, h8⟩ | ⟨hk, _, h8⟩
    · obtain ⟨g1, g2⟩ := dput_at h5 h6 h7 (nthK_eq hi) (r1.up (l2.trans l3).toLo)
      exact c.nx _ _ _ _ _ l (by rw [spo_eq]; exact up _ _ _ g1 h6 g2) (E.up l.toLo) h8
    · rw [snc_eq, snc_eq] at h8
      obtain ⟨g1, g2, g3⟩ := dput_new h5 h6 h7 hk (r1.up (l2.trans l3).toLo)
      exact c.nx _ _ _ _ _ l (by rw [spo_eq]; exact up _ _ _ g1 g2 g3) (E.up l.toLo) h8⟩
@[reducible] def aPrs : List (ATE × ATE) → AEnv → Sto → (List PV → List PV → Sto → Prop) → Prop
  | [], _, S, P => P [] [] S
  | (fk, fv) :: r, ρ, S, P => fk ρ S fun k S1 => fv ρ S1 fun v S2 => aPrs r ρ S2 fun ks vs S3 => P (k :: ks) (v :: vs) S3
structure SPrs (K : PySem.W.Frag) (ts : List (TE × TE)) (fs : List (ATE × ATE)) : Prop where
  run : ∀ {W S σ ρ H R P}, In K W S H → ER K W σ ρ → aPrs fs ρ S P → (∀ W' S' ps ks vs H', W.Le W' → In K W' S' H' → VRs K W'.I W'.ad (ps.map Prod.fst) ks → VRs K W'.I W'.ad (ps.map Prod.snd) vs → P ks vs S' → R ps H') → tPairs ts σ H R
theorem sps_nil : SPrs K [] [] := ⟨fun I E h c => c _ _ _ _ _ _ (.refl _) I .nil .nil h⟩
theorem sps_cons {ts : List (TE × TE)} {fs : List (ATE × ATE)} (ha : SE K ta fa) (he : SE K te fe) (hr : SPrs K ts fs) : SPrs K ((ta, te) :: ts) ((fa, fe) :: fs) := ⟨fun I E h c =>
  ha.run I E h fun W1 S1 x p H1 l1 I1 r1 h1 => he.run I1 (E.up l1.toLo) h1 fun W2 S2 y q H2 l2 I2 r2 h2 => hr.run I2 (E.up (l1.trans l2).toLo) h2 fun W3 S3 ps ks vs H3 l3 I3 r3 r4 h3 =>
    c _ _ _ _ _ _ ((l1.trans l2).trans l3) I3 (.cons (r1.up (l2.trans l3).toLo) r3) (.cons (r2.up l3.toLo) r4) h3⟩
@[reducible] def keyP : Key → PV
  | .inl i => .int i
  | .inr s => .str s
theorem VRs.keys {vs : List V} {ks : List Key} (h : VRs K I ad vs (ks.map keyP)) : vs = ks.map kV := by
  induction ks generalizing vs with
  | nil => cases h; rfl
  | cons k ks ih =>
    cases h with
    | cons h hs =>
      rw [ih hs]
      cases k with
      | inl i => cases h; rfl
      | inr s => cases h; rfl
theorem merge_id : ∀ (more : List (Key × V)) (kvs : List (Key × V)), ((kvs ++ more).map Prod.fst).Nodup → mergeK kvs more = kvs ++ more
  | [], kvs, _ => by simp [mergeK]
  | p :: more, kvs, nd => by
    have hp : p.1 ∉ kvs.map Prod.fst := by
      rw [List.map_append, List.nodup_append] at nd
      exact fun h => nd.2.2 _ h p.1 (by simp) rfl
    have e : putK kvs p.1 p.2 = kvs ++ [p] := putK_new p.2 (val_none hp)
    have ih := merge_id more (kvs ++ [p]) (by rw [List.append_assoc]; exact nd)
    show mergeK (putK kvs p.1 p.2) more = _
    rw [e, ih, List.append_assoc]
    rfl
theorem pairs_of {ps : List (V × V)} {ks : List Key} (h : ps.map Prod.fst = ks.map kV) : ps = (ks.zip (ps.map Prod.snd)).map fun kv => (kV kv.1, kv.2) := by
  induction ps generalizing ks with
  | nil => cases ks with
    | nil => rfl
    | cons _ _ => cases h
  | cons p ps ih => cases ks with
    | nil => cases h
    | cons k ks =>
      rw [List.map_cons, List.map_cons] at h
      obtain ⟨h1, h2⟩ := List.cons.inj h
      show p :: ps = (kV k, p.2) :: ((ks.zip (ps.map Prod.snd)).map fun kv => (kV kv.1, kv.2))
      rw [← ih h2, ← h1]
@[reducible] def keysOf : List PV → Option (List Key)
  | [] => some []
  | p :: r => match p with
    | .str s => (match keysOf r with
      | some ks => some (.inr s :: ks)
      | none => none)
    | .int i => (match keysOf r with
      | some ks => some (.inl i :: ks)
      | none => none)
    | _ => none
theorem keysOf_eq : ∀ {ps : List PV} {ks : List Key}, keysOf ps = some ks → ps = ks.map keyP
  | [], ks, h => by cases h; rfl
  | p :: r, ks, h => by
    cases p with
    | str s =>
      unfold keysOf at h
      cases z : keysOf r with
      | none => rw [z] at h; cases h
      | some l =>
        rw [z] at h
        cases h
        rw [keysOf_eq z]
        rfl
    | int s =>
      unfold keysOf at h
      cases z : keysOf r with
      | none => rw [z] at h; cases h
      | some l =>
        rw [z] at h
        cases h
        rw [keysOf_eq z]
        rfl
    | _ => cases h
def kOk (ps : List PV) (P : List Key → Prop) : Prop := ∃ ks : List Key, ps = ks.map keyP ∧ ks.Nodup ∧ ks.length ≤ 15 ∧ P ks
theorem r_kOk {ps : List PV} {ks : List Key} {P : List Key → Prop} (e : keysOf ps = some ks) (nd : ks.Nodup) (hl : ks.length ≤ 15) (h : P ks) : kOk ps P := ⟨ks, keysOf_eq e, nd, hl, h⟩
theorem r_dat {ks : List Key} {xs : List PV} {k : Key} {P : PV → Prop} {p : PV} (i : Nat) (h1 : nthK ks i = some k) (h2 : nthP xs i = some p) (h : P p) : dAt ks xs k P := ⟨i, p, h1, h2, h⟩
theorem r_onD {o : Option (List Key × List PV)} {P : List Key → List PV → Prop} {ks : List Key} {xs : List PV} (e : o = some (ks, xs)) (h : P ks xs) : onD o P := ⟨ks, xs, e, h⟩
theorem r_ownD {x : PV} {S : Sto} {P : Nat → List Key → List PV → Prop} {n : Nat} {ks : List Key} {xs : List PV} (e : x = .own n) (h1 : sgetD S n = some (ks, xs)) (h2 : ks.length ≤ 10000) (h : P n ks xs) : onOwnD x S P := ⟨n, ks, xs, e, h1, h2, h⟩
theorem r_dput {ks : List Key} {xs : List PV} {k : Key} {v : PV} {P : List Key → List PV → Prop} (i : Nat) (h1 : nthK ks i = some k) (h : P ks (setP xs i v)) : dPut ks xs k v P := .inl ⟨i, h1, h⟩
theorem r_dputN {ks : List Key} {xs : List PV} {k : Key} {v : PV} {P : List Key → List PV → Prop} (h1 : (ks.any fun j => decide (j = k)) = false) (h2 : ks.length < 10000) (h : P (snc ks k) (snc xs v)) : dPut ks xs k v P := .inr ⟨fun hm => by
  have := List.any_eq_false.mp h1 k hm
  simp at this, h2, h⟩
@[reducible] def aDisp (fs : List (ATE × ATE)) : ATE := fun ρ S P => aPrs fs ρ S fun ps vs S1 => kOk ps fun ks => P (.dct ks vs) S1
@[reducible] def aDispO (fs : List (ATE × ATE)) : ATE := fun ρ S P => aPrs fs ρ S fun ps vs S1 => kOk ps fun ks => newO S1 (.dct ks vs) P
theorem disp_core {ts : List (TE × TE)} {fs : List (ATE × ATE)} (hs : SPrs K ts fs) {σ : St} {ρ : AEnv} {R : List PV → List PV → Sto → Prop} (I : In K W S H) (E : ER K W σ ρ) (h : aPrs fs ρ S R) {Q : VK}
    (c : ∀ J ad' p kvs ks vs S' H', W.Le ⟨J, ad', W.fr⟩ → In K ⟨J, ad', (p, .dK kvs) :: W.fr⟩ S' H' → kvs.map Prod.fst = ks → VRs K J ad' (kvs.map Prod.snd) vs → R (ks.map keyP) vs S' → ks.Nodup → ks.length ≤ 15 → Q (.ref p) H')
    (hR : ∀ ps vs S', R ps vs S' → ∃ ks : List Key, ps = ks.map keyP ∧ ks.Nodup ∧ ks.length ≤ 15) : tDisp ts σ H Q := fun p hp => by
  have I1 := I.push (o := .dK []) hp
  have E1 : ER K ⟨W.I, W.ad, (p, .dK []) :: W.fr⟩ σ ρ := ER.up (W := W) (W' := ⟨W.I, W.ad, (p, .dK []) :: W.fr⟩) ⟨Ex.refl _, fun _ _ e => e⟩ E
  refine hs.run I1 E1 h fun W2 S2 ps ks vs H2 l2 I2 r1 r2 h2 => ?_
  obtain ⟨J, ad', fr'⟩ := W2
  have hf : fr' = (p, .dK []) :: W.fr := l2.fr
  subst hf
  obtain ⟨e1, up⟩ := I2.pop
  obtain ⟨ks', rfl, nd, hz⟩ := hR _ _ _ h2
  have e2 := r1.keys
  have hl : ks'.length = (ps.map Prod.snd).length := by
    have := congrArg List.length e2
    simpa using this.symm
  have hm : ((ks'.zip (ps.map Prod.snd)).map Prod.fst) = ks' := List.map_fst_zip (by omega)
  have hm2 : ((ks'.zip (ps.map Prod.snd)).map Prod.snd) = ps.map Prod.snd := List.map_snd_zip (by omega)
  refine ⟨e1, ks'.zip (ps.map Prod.snd), pairs_of e2, by rw [List.length_zip]; omega, ?_⟩
  rw [merge_id _ [] (by rw [List.nil_append, hm]; exact nd), List.nil_append]
  exact c J ad' p _ ks' vs S2 _ ⟨⟨l2.ex, l2.ad⟩, rfl⟩ (up _) hm (by rw [hm2]; exact r2) h2 nd hz
theorem se_disp {ts : List (TE × TE)} {fs : List (ATE × ATE)} (hs : SPrs K ts fs) : SE K (tDisp ts) (aDisp fs) := ⟨fun {W S σ ρ H Q P} I E h c =>
  disp_core hs I E h (fun J ad' p kvs ks vs S' H' l I' e r h2 nd hz => by
    obtain ⟨I2, l2⟩ := I'.keep
    obtain ⟨ks2, e2, _, _, h3⟩ := h2
    have : ks2 = ks := by
      have inj : ∀ a b : Key, keyP a = keyP b → a = b := by
        intro a b h
        cases a <;> cases b <;> cases h <;> rfl
      exact (List.map_inj_right inj).mp e2.symm
    subst this
    exact c _ _ _ _ _ ⟨⟨l.ex.trans l2.ex, fun k a e => l2.ad k a (l.ad k a e)⟩, l.fr⟩ I2 (.dct upd_same e nd (r.up l2)) h3) fun ps vs S' ⟨ks, h1, h2, h3, _⟩ => ⟨ks, h1, h2, h3⟩⟩
theorem se_dispO {ts : List (TE × TE)} {fs : List (ATE × ATE)} (hs : SPrs K ts fs) : SE K (tDisp ts) (aDispO fs) := ⟨fun {W S σ ρ H Q P} I E h c =>
  disp_core hs I E h (fun J ad' p kvs ks vs S' H' l I' e r h2 nd hz => by
    obtain ⟨I2, l2, r2⟩ := I'.finG (ao := .dct ks vs) (.dct e nd r)
    obtain ⟨ks2, e2, _, _, h3⟩ := h2
    have : ks2 = ks := by
      have inj : ∀ a b : Key, keyP a = keyP b → a = b := by
        intro a b h
        cases a <;> cases b <;> cases h <;> rfl
      exact (List.map_inj_right inj).mp e2.symm
    subst this
    exact c _ _ _ _ _ ⟨⟨l.ex.trans l2.ex, fun k a e => l2.ad k a (l.ad k a e)⟩, l.fr⟩ I2 r2 h3.h) fun ps vs S' ⟨ks, h1, h2, h3, _⟩ => ⟨ks, h1, h2, h3⟩⟩
@[reducible] def aNewDF : ATE := fun _ S P => P (.dct [] []) S
theorem se_newDF : SE K tDNewK aNewDF := ⟨fun {W S σ ρ H Q P} I E h c => fun p hp => by
  obtain ⟨I2, l2⟩ := I.keep1 (o := .dK []) hp
  exact c _ _ _ _ _ l2 I2 (.dct (kvs := []) upd_same rfl .nil .nil) h⟩
end
end L5

namespace L5
open PySem PySem.Spec PyProof.Rows L2 L3
section
variable {K : PySem.W.Frag} {W W' : Wd} {S : Sto} {H : Hp} {P : AV} {Q : VK} {I : Hp} {ad : List Addr}
variable {ta te tv : TE} {fa fe fv : ATE} {t tk : TA} {f fk : ATA}
def textsOf (xs : List PV) (P : List Str → Prop) : Prop := ∃ zs : List Str, xs = zs.map PV.str ∧ P zs
@[reducible] def strsOf : List PV → Option (List Str)
  | [] => some []
  | p :: r => match p with
    | .str s => (match strsOf r with
      | some ks => some (s :: ks)
      | none => none)
    | _ => none
theorem strsOf_eq : ∀ {ps : List PV} {ks : List Str}, strsOf ps = some ks → ps = ks.map PV.str
  | [], ks, h => by cases h; rfl
  | p :: r, ks, h => by
    cases p with
    | str s =>
      unfold strsOf at h
      cases z : strsOf r with
      | none => rw [z] at h; cases h
      | some l =>
        rw [z] at h
        cases h
        rw [strsOf_eq z]
        rfl
    | _ => cases h
theorem r_texts {xs : List PV} {zs : List Str} {P : List Str → Prop} (e : strsOf xs = some zs) (h : P zs) : textsOf xs P := ⟨zs, strsOf_eq e, h⟩
end
end L5

namespace L5
open PySem PySem.Spec PyProof.Rows L2 L3
theorem room_1 {X : Cx} {k : Nat} (hr : Room k X.A) : X.A.units + 1 < cLine := by have := hr.un; omega
section
variable {P : Program} {w : World} {K : PySem.W.Frag} {mg : Str → Option Value} {base : Heap} {k n : Nat} {f C : Addr} {fd : FuncData} {ps ks : List Str} {g : AL} {m : Str}
theorem fnG_no (h : ∀ vs S R, ¬ g vs S R) : FnG P w K mg base CX0 k f fd ps (cSp K g) :=
  ⟨fun vs H Q E ⟨_, _, _, _, _, _, z, _⟩ => (h _ _ _ z).elim, fun _ _ _ _ _ _ _ _ _ _ _ _ _ _ ⟨_, _, _, _, _, _, z, _⟩ => (h _ _ _ z).elim⟩
end
end L5

namespace L5
open PySem PySem.Spec PyProof.Rows L2 L3
mutual
def blw (n : Nat) : PV → Bool
  | .own k => decide (k < n)
  | .tup xs => blws n xs
  | .lst xs => blws n xs
  | .kt xs => blws n xs
  | .ins _ _ xs => blws n xs
  | .dct _ xs => blws n xs
  | .exc _ _ _ _ xs => blws n xs
  | .non => true
  | .bl _ => true
  | .int _ => true
  | .str _ => true
  | .scr _ => true
  | .ty _ => true
  | .cls _ => true
def blws (n : Nat) : List PV → Bool
  | [] => true
  | x :: xs => blw n x && blws n xs
end
def blwO (n : Nat) : AO → Bool
  | .lst xs => blws n xs
  | .dct _ xs => blws n xs
  | .dcT _ xs => blws n xs
  | .ins _ _ xs => blws n xs
  | .tab k _ _ => decide (k < n)
def blwE (n : Nat) : AEnv → Bool
  | [] => true
  | some p :: r => blw n p && blwE n r
  | none :: r => blwE n r
section
variable {K : PySem.W.Frag} {W W' : Wd} {S : Sto} {H : Hp} {P : AV} {Q : VK} {I : Hp} {ad : List Addr} {n : Nat}
mutual
theorem VR.cut : ∀ {v : V} {p : PV}, VR K I ad v p → blw n p = true → VR K I (ad.take n) v p
  | _, _, .non, _ => .non
  | _, _, .bl b, _ => .bl b
  | _, _, .int i, _ => .int i
  | _, _, .str x, _ => .str x
  | _, _, .tup h hs, e => .tup h (VRs.cutB hs (by rw [blw] at e; exact e))
  | _, _, .lst h hs, e => .lst h (VRs.cutB hs (by rw [blw] at e; exact e))
  | _, _, .scr h, _ => .scr h
  | _, _, .own (k := k) h, e => .own (by
    rw [blw, decide_eq_true_eq] at e
    rw [List.getElem?_take_of_lt e]; exact h)
  | _, _, .ty n, _ => .ty n
  | _, _, .cls C, _ => .cls C
  | _, _, .kt h hs, e => .kt h (VRs.cutB hs (by rw [blw] at e; exact e))
  | _, _, .ins h c z e2 hs, e => .ins h c z e2 (VRs.cutB hs (by rw [blw] at e; exact e))
  | _, _, .dct h e2 nd hs, e => .dct h e2 nd (VRs.cutB hs (by rw [blw] at e; exact e))
  | _, _, .exc0 a C, _ => .exc0 a C
  | _, _, .exc h e2 nd hs, e => .exc h e2 nd (VRs.cutB hs (by rw [blw] at e; exact e))
theorem VRs.cutB : ∀ {vs : List V} {ps : List PV}, VRs K I ad vs ps → blws n ps = true → VRs K I (ad.take n) vs ps
  | _, _, .nil, _ => .nil
  | _, _, .cons h hs, e => by
    rw [blws, Bool.and_eq_true] at e
    exact .cons (VR.cut h e.1) (VRs.cutB hs e.2)
end
theorem OR.cut {o : HO} {a : AO} (h : OR K I ad o a) (e : blwO n a = true) : OR K I (ad.take n) o a := by
  cases h with
  | lst h => exact .lst (h.cutB e)
  | dct e2 nd h => exact .dct e2 nd (h.cutB e)
  | dcT e2 nd h => exact .dcT e2 nd (h.cutB e)
  | ins c z e2 h => exact .ins c z e2 (h.cutB e)
  | tab h t => exact .tab (by rw [List.getElem?_take_of_lt (of_decide_eq_true e)]; exact h) t
theorem ER.cut {σ : St} {ρ : AEnv} (h : ER K W σ ρ) (e : blwE n ρ = true) (W' : Wd) (hI : Ex W.I W'.I) (ha : W'.ad = W.ad.take n) : ER K W' σ ρ := by
  induction h with
  | nil => exact .nil
  | any h ih => exact .any (ih e)
  | cons h hs ih =>
    rw [blwE, Bool.and_eq_true] at e
    refine .cons ?_ (ih e.2)
    have := VR.cut h e.1
    rw [← ha] at this
    exact VR.up (W := ⟨W.I, W'.ad, []⟩) (W' := ⟨W'.I, W'.ad, []⟩) ⟨hI, fun _ _ e => e⟩ this
end
end L5
namespace L5
open PySem PySem.Spec PyProof.Rows L2 L3
end L5
namespace L5
open PySem PySem.Spec PyProof.Rows L2 L3
theorem r_or {p q : Prop} [Decidable p] [Decidable q] {X Y : Prop} (h : br (decide (p ∨ q)) X Y) : br (decide p) (br true X Y) (br (decide q) X Y) :=
  r_br (fun hp => r_brT (h.t (decide_eq_true (.inl hp)))) fun hp => r_br (fun hq => (h.t (decide_eq_true (.inr hq)))) fun hq => (h.f (decide_eq_false fun z => z.elim hp hq))
theorem r_cT {c : Bool} {A B : Prop} (e : c = true) (h : A) : br c A B := ⟨(fun _ => h), (fun e2 => nomatch (e.symm.trans e2))⟩
theorem r_cF {c : Bool} {A B : Prop} (e : c = false) (h : B) : br c A B := ⟨(fun e2 => nomatch (e.symm.trans e2)), (fun _ => h)⟩
abbrev XT := List Key × List PV
@[reducible] def dd3 (a b c : Str) (X : XT) (cells : List Int) (m k : Int) (G : Sto) : Sto := .lst (iL cells) :: .dct (.inr a :: .inr b :: .inr c :: X.1) (.own 0 :: .int m :: .int k :: X.2) :: G
@[reducible] def dx (a b c : Str) (X : XT) (D : Dk) (G : Sto) : Sto := dd3 a b c X D.cells D.m D.k G
@[reducible] def X0 : XT := ([], [])
def asp_source (a b c : Str) (X : XT) : AL := fun vs S P => ∃ ns : List Int, vs = [.scr ns] ∧ S = [] ∧ ns.length ≤ 63 ∧ ∀ D : Dk, D.Ok 0 → P (.own 1) (dx a b c X D [])
def asp_drw (a b c : Str) : AL := fun vs S P => ∃ (X : XT) (D : Dk) (G : Sto) (n m : Int), vs = [.own 1, .int m] ∧ S = dx a b c X D G ∧ X.1.length ≤ 100 ∧ D.Ok n ∧ n ≤ 1000000000 ∧ 1 ≤ m ∧ m ≤ 1000000000 ∧ ∀ r D', 0 ≤ r → r < m → D'.Ok (n + 1) → P (.int r) (dx a b c X D' G)
def asp_pck (a b c : Str) : AL := fun vs S P => ∃ (X : XT) (D : Dk) (G : Sto) (n : Int) (s : PV) (xs : List PV), vs = [.own 1, s] ∧ S = dx a b c X D G ∧ X.1.length ≤ 100 ∧ D.Ok n ∧ n ≤ 1000000000 ∧ 0 < xs.length ∧ xs.length ≤ 1000 ∧ (∀ D', sq s (dx a b c X D' G) = some xs) ∧ ∀ v D', v ∈ xs → D'.Ok (n + 1) → P v (dx a b c X D' G)
theorem sget_two (a b : AO) (G : Sto) (xs : List PV) : sget (a :: b :: (G ++ [.lst xs])) (G.length + 1 + 1) = some xs := sget_new G xs
end L5

namespace L5
open PySem PySem.Spec PyProof.Rows L2 L3
section
variable {P : Program} {w : World} {K : PySem.W.Frag} {mg : Str → Option Value} {base : Heap} {n : Nat} {f : Addr} {fd : FuncData} {ps : List Str}
theorem rec_fn {asp : Nat → AL} (step : ∀ (d : Nat) (prev : AL), (∀ vs S R, (∃ d', d = d' + 1 ∧ asp d' vs S R) → prev vs S R) → FnG P w K mg base CX0 (n + d) f fd ps (cSp K prev) → FnG P w K mg base CX0 (n + d + 1) f fd ps (cSp K (asp d))) :
    ∀ d, FnG P w K mg base CX0 (n + d + 1) f fd ps (cSp K (asp d))
  | 0 => step 0 (fun _ _ _ => False) (fun _ _ _ ⟨_, h, _⟩ => nomatch h) (fnG_no fun _ _ _ h => h)
  | d + 1 => step (d + 1) (asp d) (fun _ _ _ ⟨d', h, k⟩ => by cases h; exact k) (rec_fn step d)
end
end L5

namespace L5
open PySem PySem.Spec PyProof.Rows L2 L3
section
variable {K : PySem.W.Frag} {W : Wd} {S : Sto} {H : Hp} {I : Hp} {ad : List Addr}
mutual
theorem VR.blw : ∀ {v : V} {p : PV}, VR K I ad v p → L5.blw ad.length p = true
  | _, _, .non => rfl
  | _, _, .bl b => rfl
  | _, _, .int i => rfl
  | _, _, .str x => rfl
  | _, _, .tup h hs => by rw [L5.blw]; exact VRs.blws hs
  | _, _, .lst h hs => by rw [L5.blw]; exact VRs.blws hs
  | _, _, .scr h => rfl
  | _, _, .own h => by rw [L5.blw, decide_eq_true_eq]; exact (List.getElem?_eq_some_iff.mp h).1
  | _, _, .ty n => rfl
  | _, _, .cls C => rfl
  | _, _, .kt h hs => by rw [L5.blw]; exact VRs.blws hs
  | _, _, .ins h c z e2 hs => by rw [L5.blw]; exact VRs.blws hs
  | _, _, .dct h e2 nd hs => by rw [L5.blw]; exact VRs.blws hs
  | _, _, .exc0 a C => rfl
  | _, _, .exc h e2 nd hs => by rw [L5.blw]; exact VRs.blws hs
theorem VRs.blws : ∀ {vs : List V} {ps : List PV}, VRs K I ad vs ps → L5.blws ad.length ps = true
  | _, _, .nil => rfl
  | _, _, .cons h hs => by
    rw [L5.blws, VR.blw h, VRs.blws hs]
    rfl
end
theorem OR.blw {o : HO} {a : AO} (h : OR K I ad o a) : blwO ad.length a = true := by
  cases h with
  | lst h => exact h.blws
  | dct e2 nd h => exact h.blws
  | dcT e2 nd h => exact h.blws
  | ins c z e2 h => exact h.blws
  | tab h t => exact decide_eq_true (List.getElem?_eq_some_iff.mp h).1
end
section
variable {α : Type} (o1 o2 : Nat → α → AO)
def two : Nat → List α → Sto
  | _, [] => []
  | i, x :: r => o1 i x :: o2 i x :: two (i + 1) r
theorem at_nat {xs : List PV} {i : Nat} {p : PV} (h : xs[i]? = some p) : atI xs ((i : Nat) : Int) = some p := by
  have hi := (List.getElem?_eq_some_iff.mp h).1
  unfold atI ixN
  rw [if_pos (by omega), if_pos (by omega)]
  exact h
end
end L5

namespace SP
open PySem L5
inductive Ev where
  | letter | speaker | turn
inductive Dv where
  | div | mod
inductive Op where
  | add | sub | mul | less | same
inductive Exp where
  | num (i : Int)
  | reg (i : Nat)
  | inp (i : Nat)
  | ev (w : Ev)
  | dv (w : Dv) (a : Exp) (n : Int)
  | op (w : Op) (a b : Exp)
@[reducible] def evS : Ev → Str
  | .letter => "letter"
  | .speaker => "speaker"
  | .turn => "turn"
@[reducible] def dvS : Dv → Str
  | .div => "div"
  | .mod => "mod"
@[reducible] def opS : Op → Str
  | .add => "add"
  | .sub => "sub"
  | .mul => "mul"
  | .less => "less"
  | .same => "same"
@[reducible] def Exp.pv : Exp → PV
  | .num i => .int i
  | .reg i => .tup [.str "register", .int (i : Nat)]
  | .inp i => .tup [.str "input", .int (i : Nat)]
  | .ev w => .tup [.str (evS w)]
  | .dv w a n => .tup [.str (dvS w), a.pv, .int n]
  | .op w a b => .tup [.str (opS w), a.pv, b.pv]
def Exp.depth : Exp → Nat
  | .num _ => 0
  | .reg _ => 0
  | .inp _ => 0
  | .ev _ => 0
  | .dv _ a _ => a.depth + 1
  | .op _ a b => max a.depth b.depth + 1
def Exp.ok : Exp → Prop
  | .num i => 0 ≤ i ∧ i < 1000000
  | .reg i => i < 10
  | .inp i => i < 6
  | .ev _ => True
  | .dv _ a n => a.ok ∧ 1 ≤ n ∧ n < 1000000
  | .op _ a b => a.ok ∧ b.ok
structure Env where
  regs : List Int
  inps : List Int
  ev : Ev → Int
def opV : Op → Int → Int → Int
  | .add, a, b => (a + b) % 1000000
  | .sub, a, b => (a - b) % 1000000
  | .mul, a, b => a * b % 1000000
  | .less, a, b => if a < b then 1 else 0
  | .same, a, b => if a = b then 1 else 0
def Exp.val (E : Env) : Exp → Int
  | .num i => i
  | .reg i => E.regs.getD i 0
  | .inp i => E.inps.getD i 0
  | .ev w => E.ev w
  | .dv .div a n => a.val E / n
  | .dv .mod a n => a.val E % n
  | .op w a b => opV w (a.val E) (b.val E)
structure Env.ok (E : Env) : Prop where
  len : E.regs.length = 10
  few : E.inps.length ≤ 6
  regs : ∀ x ∈ E.regs, 0 ≤ x ∧ x < 1000000
  inps : ∀ x ∈ E.inps, 0 ≤ x ∧ x < 1000000
  ev : ∀ w, 0 ≤ E.ev w ∧ E.ev w < 1000000
theorem getD_ok {xs : List Int} (h : ∀ x ∈ xs, 0 ≤ x ∧ x < 1000000) (i : Nat) : 0 ≤ xs.getD i 0 ∧ xs.getD i 0 < 1000000 := by
  rw [List.getD_eq_getElem?_getD]
  cases e : xs[i]? with
  | none => exact ⟨Int.le_refl _, by decide⟩
  | some x => exact h x (List.mem_of_getElem? e)
theorem Exp.val_ok {E : Env} (hE : E.ok) : ∀ {e : Exp}, e.ok → 0 ≤ e.val E ∧ e.val E < 1000000
  | .num i, h => h
  | .reg i, _ => getD_ok hE.regs i
  | .inp i, _ => getD_ok hE.inps i
  | .ev w, _ => hE.ev w
  | .dv .div a n, ⟨h, h1, h2⟩ => by
    obtain ⟨h3, h4⟩ := Exp.val_ok hE h
    exact ⟨Int.ediv_nonneg h3 (by omega), Int.lt_of_le_of_lt (Int.ediv_le_self _ h3) h4⟩
  | .dv .mod a n, ⟨h, h1, h2⟩ => ⟨Int.emod_nonneg _ (by omega), Int.lt_of_lt_of_le (Int.emod_lt_of_pos _ (by omega)) (by omega)⟩
  | .op w a b, _ => by
    show 0 ≤ opV w (a.val E) (b.val E) ∧ opV w (a.val E) (b.val E) < 1000000
    cases w <;> unfold opV
    · exact ⟨Int.emod_nonneg _ (by decide), Int.emod_lt_of_pos _ (by decide)⟩
    · exact ⟨Int.emod_nonneg _ (by decide), Int.emod_lt_of_pos _ (by decide)⟩
    · exact ⟨Int.emod_nonneg _ (by decide), Int.emod_lt_of_pos _ (by decide)⟩
    · dsimp only; split <;> omega
    · dsimp only; split <;> omega
end SP

namespace SP
open PySem L5
inductive Stm where
  | set (r : Nat) (e : Exp)
  | ite (c : Exp) (a b : List Stm)
  | rep (c : Exp) (a : List Stm)
mutual
def Stm.pv : Stm → PV
  | .set r e => .tup [.str "set", .int (r : Nat), e.pv]
  | .ite c a b => .tup [.str "if", c.pv, .tup (Stm.pvs a), .tup (Stm.pvs b)]
  | .rep c a => .tup [.str "repeat", c.pv, .tup (Stm.pvs a)]
def Stm.pvs : List Stm → List PV
  | [] => []
  | s :: r => s.pv :: Stm.pvs r
end
def Stm.iter (f : Env → Env) : Nat → Env → Env
  | 0, E => E
  | n + 1, E => f (Stm.iter f n E)
mutual
def Stm.run : Stm → Env → Env
  | .set r e, E => { E with regs := E.regs.set r (e.val E) }
  | .ite c a b, E => if c.val E = 0 then Stm.runs b E else Stm.runs a E
  | .rep c a, E => Stm.iter (Stm.runs a) (min (c.val E) 100).toNat E
def Stm.runs : List Stm → Env → Env
  | [], E => E
  | s :: r, E => Stm.runs r (s.run E)
end
mutual
def Stm.fits (n : Nat) : Nat → Stm → Prop
  | _, .set r e => r < 10 ∧ e.ok ∧ e.depth ≤ n
  | 0, .ite _ _ _ => False
  | 0, .rep _ _ => False
  | d + 1, .ite c a b => (c.ok ∧ c.depth ≤ n) ∧ Stm.fitss n d a ∧ Stm.fitss n d b
  | d + 1, .rep c a => (c.ok ∧ c.depth ≤ n) ∧ Stm.fitss n d a
def Stm.fitss (n : Nat) : Nat → List Stm → Prop
  | _, [] => True
  | d, s :: r => Stm.fits n d s ∧ Stm.fitss n d r
end
structure Env.Like (E F : Env) : Prop where
  inps : F.inps = E.inps
  ev : F.ev = E.ev
theorem Env.Like.refl (E : Env) : E.Like E := ⟨rfl, rfl⟩
theorem Env.Like.trans {E F G : Env} (h : E.Like F) (k : F.Like G) : E.Like G := ⟨k.inps.trans h.inps, k.ev.trans h.ev⟩
theorem Env.set_ok {E : Env} (h : E.ok) {r : Nat} {v : Int} (hv : 0 ≤ v ∧ v < 1000000) : ({ E with regs := E.regs.set r v } : Env).ok :=
  ⟨by rw [← h.len]; exact List.length_set, h.few, fun x hx => by
    rcases List.mem_or_eq_of_mem_set hx with hx | rfl
    · exact h.regs x hx
    · exact hv, h.inps, h.ev⟩
theorem Stm.iter_ok {f : Env → Env} (hf : ∀ E, E.ok → (f E).ok ∧ E.Like (f E)) : ∀ (n : Nat) {E : Env}, E.ok → (Stm.iter f n E).ok ∧ E.Like (Stm.iter f n E)
  | 0, E, h => ⟨h, .refl E⟩
  | n + 1, E, h => by
    obtain ⟨h1, h2⟩ := Stm.iter_ok hf n h
    obtain ⟨h3, h4⟩ := hf _ h1
    exact ⟨h3, h2.trans h4⟩
mutual
theorem Stm.run_ok {n : Nat} : ∀ {d : Nat} {s : Stm} {E : Env}, Stm.fits n d s → E.ok → (s.run E).ok ∧ E.Like (s.run E)
  | d, .set r e, E, h, hE => by
    have h : r < 10 ∧ e.ok ∧ e.depth ≤ n := by cases d <;> exact h
    rw [Stm.run]
    exact ⟨Env.set_ok hE (Exp.val_ok hE h.2.1), ⟨rfl, rfl⟩⟩
  | 0, .ite _ _ _, _, h, _ => by exact h.elim
  | 0, .rep _ _, _, h, _ => by exact h.elim
  | d + 1, .ite c a b, E, h, hE => by
    have h : (c.ok ∧ c.depth ≤ n) ∧ Stm.fitss n d a ∧ Stm.fitss n d b := h
    rw [Stm.run]
    split
    · exact Stm.runs_ok h.2.2 hE
    · exact Stm.runs_ok h.2.1 hE
  | d + 1, .rep c a, E, h, hE => by
    have h : (c.ok ∧ c.depth ≤ n) ∧ Stm.fitss n d a := h
    rw [Stm.run]
    exact Stm.iter_ok (fun E hE => Stm.runs_ok h.2 hE) _ hE
theorem Stm.runs_ok {n : Nat} : ∀ {d : Nat} {ss : List Stm} {E : Env}, Stm.fitss n d ss → E.ok → (Stm.runs ss E).ok ∧ E.Like (Stm.runs ss E)
  | _, [], E, _, hE => by rw [Stm.runs]; exact ⟨hE, .refl E⟩
  | d, s :: r, E, h, hE => by
    have h : Stm.fits n d s ∧ Stm.fitss n d r := by cases d <;> exact h
    rw [Stm.runs]
    obtain ⟨h1, h2⟩ := Stm.run_ok h.1 hE
    obtain ⟨h3, h4⟩ := Stm.runs_ok h.2 h1
    exact ⟨h3, h2.trans h4⟩
end
structure Prg where
  hear : List Stm
  speak : List Stm
  say : Exp
@[reducible] def Prg.pv (p : Prg) : PV := .tup [.tup (Stm.pvs p.hear), .tup (Stm.pvs p.speak), p.say.pv]
def Prg.fits (n d : Nat) (p : Prg) : Prop := Stm.fitss n d p.hear ∧ Stm.fitss n d p.speak ∧ p.say.ok ∧ p.say.depth ≤ n
def evs (l s t : Int) : Ev → Int
  | .letter => l
  | .speaker => s
  | .turn => t
end SP

namespace SP
open PySem L5 L3
def rz : Nat → Nat
  | 0 => 3 + 3 * 1923
  | d + 1 => 3 + 3 * (rz d + 2)
structure Rps (k z : Nat) (xs : List PV) : Prop where
  own : nowns xs = true
  gd : ∀ d ∈ dats xs, good k d
  nz : nzAll (dats xs) ≤ z
theorem Rps.nil {k z : Nat} : Rps k z [] := ⟨rfl, (fun _ h => nomatch h), Nat.zero_le _⟩
theorem Rps.cons {k y z n : Nat} {p : PV} {xs : List PV} (h : Rp k y p) (hs : Rps k z xs) (hn : y + 2 + z ≤ n) : Rps k n (p :: xs) := ⟨by rw [nowns, h.own, hs.own]; rfl, fun d hd => by
  rw [dats] at hd
  rcases List.mem_cons.mp hd with rfl | hd
  · exact h.gd
  · exact hs.gd d hd, by
  have h1 := h.nz
  have h2 := hs.nz
  rw [dats, nzAll]
  omega⟩
theorem Rps.tup {k z n : Nat} {xs : List PV} (h : Rps k z xs) (hn : 3 + z ≤ n) : Rp (k + 1) n (.tup xs) := ⟨by rw [nown, h.own], h.gd, by
  have := h.nz
  rw [dat, L3.nz]
  omega⟩
theorem Rps.lst {k z n : Nat} {xs : List PV} (h : Rps k z xs) (hn : 3 + z ≤ n) : Rp (k + 1) n (.lst xs) := ⟨by rw [nown, h.own], h.gd, by
  have := h.nz
  rw [dat, L3.nz]
  omega⟩
theorem Rps.all {k z n : Nat} {xs : List PV} (h : ∀ x ∈ xs, Rp k z x) (hn : xs.length * (z + 2) ≤ n) : Rps k n xs := by
  obtain ⟨h1, h2, h3⟩ := Rp.all h
  exact ⟨h1, h2, Nat.le_trans h3 hn⟩
def rt : Nat → Nat
  | 0 => 2012
  | d + 1 => 61 + 2 * (rt d + 2)
mutual
def Stm.slim : Stm → Prop
  | .set _ _ => True
  | .ite _ a b => (a.length ≤ 3 ∧ Stm.slims a) ∧ b.length ≤ 3 ∧ Stm.slims b
  | .rep _ a => a.length ≤ 3 ∧ Stm.slims a
def Stm.slims : List Stm → Prop
  | [] => True
  | s :: r => s.slim ∧ Stm.slims r
end
def sz (n : Nat) : Nat → Nat
  | 0 => 1968 + rt n
  | d + 1 => 90 + rt n + 2 * (3 + 3 * (sz n d + 2) + 2)
end SP

namespace SP
open PySem L5 L3
mutual
theorem Stm.fits_mono {n m : Nat} (h : n ≤ m) : ∀ {d : Nat} {s : Stm}, Stm.fits n d s → Stm.fits m d s
  | d, .set r e, k => by
    have k : r < 10 ∧ e.ok ∧ e.depth ≤ n := by cases d <;> exact k
    have k2 : r < 10 ∧ e.ok ∧ e.depth ≤ m := ⟨k.1, k.2.1, Nat.le_trans k.2.2 h⟩
    cases d <;> exact k2
  | 0, .ite _ _ _, k => by exact k.elim
  | 0, .rep _ _, k => by exact k.elim
  | d + 1, .ite c a b, k => by
    have k : (c.ok ∧ c.depth ≤ n) ∧ Stm.fitss n d a ∧ Stm.fitss n d b := k
    exact ⟨⟨k.1.1, Nat.le_trans k.1.2 h⟩, Stm.fitss_mono h k.2.1, Stm.fitss_mono h k.2.2⟩
  | d + 1, .rep c a, k => by
    have k : (c.ok ∧ c.depth ≤ n) ∧ Stm.fitss n d a := k
    exact ⟨⟨k.1.1, Nat.le_trans k.1.2 h⟩, Stm.fitss_mono h k.2⟩
theorem Stm.fitss_mono {n m : Nat} (h : n ≤ m) : ∀ {d : Nat} {ss : List Stm}, Stm.fitss n d ss → Stm.fitss m d ss
  | d, [], _ => by cases d <;> trivial
  | d, s :: r, k => by
    have k : Stm.fits n d s ∧ Stm.fitss n d r := by cases d <;> exact k
    have k2 : Stm.fits m d s ∧ Stm.fitss m d r := ⟨Stm.fits_mono h k.1, Stm.fitss_mono h k.2⟩
    cases d <;> exact k2
end
structure Prg.fine (p : Prg) : Prop where
  hf : Stm.fitss 2 2 p.hear
  hs : Stm.slims p.hear
  hl : p.hear.length ≤ 4
  sf : Stm.fitss 2 2 p.speak
  ss : Stm.slims p.speak
  sl : p.speak.length ≤ 4
  ok : p.say.ok
  dp : p.say.depth ≤ 4
theorem Prg.fine.fits {p : Prg} (h : p.fine) : p.fits 4 2 := ⟨Stm.fitss_mono (by decide) h.hf, Stm.fitss_mono (by decide) h.sf, h.ok, h.dp⟩
structure Tk where
  size : Int
  prgs : List Prg
  order : List Nat
@[reducible] def Tk.pv (t : Tk) : PV := .tup [.int t.size, .tup (t.prgs.map Prg.pv), .tup (t.order.map fun o => PV.int (o : Nat))]
structure Tk.ok (t : Tk) : Prop where
  s0 : 2 ≤ t.size
  s1 : t.size ≤ 9
  p0 : 2 ≤ t.prgs.length
  p1 : t.prgs.length ≤ 4
  pf : ∀ p ∈ t.prgs, p.fine
  o0 : ∀ o ∈ t.order, o < t.prgs.length
  o1 : t.order.length ≤ 8
abbrev Sn := Prg × Env
def sayE (s : Sn) (st t : Nat) : Env := Stm.runs s.1.speak { s.2 with ev := evs 0 (st : Nat) (t : Nat) }
end SP

namespace SP
open PySem L5 L3
structure Sn.good (s : Sn) : Prop where
  fine : s.1.fine
  len : s.2.regs.length = 10
  few : s.2.inps.length ≤ 6
  regs : ∀ x ∈ s.2.regs, 0 ≤ x ∧ x < 1000000
  inps : ∀ x ∈ s.2.inps, 0 ≤ x ∧ x < 1000000
theorem Sn.good.env {s : Sn} (h : Sn.good s) {l st t : Int} (hl : 0 ≤ l ∧ l < 1000000) (hs : 0 ≤ st ∧ st < 1000000) (ht : 0 ≤ t ∧ t < 1000000) : ({ s.2 with ev := evs l st t } : Env).ok :=
  ⟨h.len, h.few, h.regs, h.inps, fun w => by cases w <;> assumption⟩
theorem Sn.good.of {s : Sn} (h : Sn.good s) {E : Env} (hE : E.ok) (l : E.inps = s.2.inps) : Sn.good (s.1, E) := ⟨h.fine, hE.len, hE.few, hE.regs, hE.inps⟩
theorem Sn.good.say {s : Sn} (h : Sn.good s) {st t : Nat} (hs : st < 1000000) (ht : t < 1000000) : (sayE s st t).ok ∧ Sn.good (s.1, sayE s st t) := by
  obtain ⟨o, l⟩ := Stm.runs_ok h.fine.fits.2.1 (h.env (l := 0) (st := st) (t := t) (by decide) (by omega) (by omega))
  exact ⟨o, h.of o l.inps⟩
end SP

namespace SP
open PySem L5 L3
theorem okS_of (s : String) : PyData.strOk (Str.ofString s) = true := by
  rw [Str.ofString_eq_toList]
  unfold PyData.strOk
  rw [← Array.all_toList, List.all_eq_true]
  intro c hc
  obtain ⟨d, _, rfl⟩ := List.mem_map.mp hc
  have := d.valid
  exact decide_eq_true (by
    rcases this with h | ⟨_, h⟩
    · exact Nat.lt_trans h (by decide)
    · exact h)
end SP

namespace L3
open PySem PySem.Spec PyProof.Rows L2
open Sem (wp)
end L3

namespace L3
open PySem PySem.Spec PyProof.Rows L2
end L3
namespace L5
open PySem PySem.Spec PyProof.Rows L2 L3
end L5

namespace L3
open PySem PySem.Spec PyProof.Rows L2
end L3
namespace L5
open PySem PySem.Spec PyProof.Rows L2 L3
section
variable {K : PySem.W.Frag} {W W' : Wd} {S : Sto} {H : Hp} {P : AV} {Q : VK} {I : Hp} {ad : List Addr}
variable {te ta tb : TE} {fa fb fc : ATE}
@[reducible] def vFdivW : A2 := fun x y S P => onI2 x y fun i j => (0 < j ∧ j < 1000000000000000000) ∧ P (.int (i / j)) S
theorem so_fdivW : SO K (rI CDivW fun i j => .int (i / j)) vFdivW := ⟨fun I r1 r2 h c => by
  obtain ⟨i, j, e, e2, ⟨h1, h2⟩, h⟩ := r1.onI2 r2 h
  exact ⟨i, j, e, e2, wide_div (b := 60) h1 (by have : (2 : Nat) ^ 60 = 1152921504606846976 := by decide
                                                omega) (by decide) (by decide), c.at I (.int _) h⟩⟩
end
end L5

namespace L3
open PySem PySem.Spec PyProof.Rows L2
mutual
inductive Rn (h : Heap) : Value → PyData → Prop
  | non : Rn h .none .none
  | bl (b : Bool) : Rn h (.bool b) (.bool b)
  | int (i : Int) (t : Tok) : Rn h (.int i t) (.int i)
  | str (x : Str) (t : Tok) : Rn h (.str x t) (.str x)
  | lst {a : Addr} {o : Obj} {vs : Array Value} {n : Nat} {xs : List PyData} (h1 : h.get? a = some o) (h2 : o.cls = .type "list") (h3 : o.data = .seq vs n) (h4 : RnA h vs.toList xs) : Rn h (.ref a) (.list xs)
  | tup {a : Addr} {o : Obj} {vs : Array Value} {n : Nat} {xs : List PyData} (h1 : h.get? a = some o) (h2 : o.cls = .type "tuple") (h3 : o.data = .seq vs n) (h4 : RnA h vs.toList xs) : Rn h (.ref a) (.tuple xs)
  | dct {a : Addr} {o : Obj} {es : Array DictEntry} {n : Nat} {kvs : List (PyData × PyData)} (h1 : h.get? a = some o) (h2 : o.cls = .type "dict") (h3 : o.data = .dict es n) (h0 : (a == sysModules) = false)
      (h4 : RnA h (es.toList.map (·.key)) (kvs.map (·.1))) (h5 : RnA h (es.toList.map (·.val)) (kvs.map (·.2))) : Rn h (.ref a) (.dict kvs)
inductive RnA (h : Heap) : List Value → List PyData → Prop
  | nil : RnA h [] []
  | cons {v : Value} {vs : List Value} {d : PyData} {ds : List PyData} (h1 : Rn h v d) (h2 : RnA h vs ds) : RnA h (v :: vs) (d :: ds)
end
section
variable {h₀ : Heap} {prog : Program} {w : World}
mutual
theorem Rn.reads : ∀ {v : Value} {d : PyData}, Rn h₀ v d → ∃ as, Reads h₀ v d as
  | _, _, .non => ⟨_, .none⟩
  | _, _, .bl b => ⟨_, .bool b⟩
  | _, _, .int i t => ⟨_, .int i t⟩
  | _, _, .str x t => ⟨_, .str x t⟩
  | _, _, .lst h1 h2 h3 h4 => let ⟨_, r⟩ := RnA.reads h4; ⟨_, .list h1 h2 h3 r⟩
  | _, _, .tup h1 h2 h3 h4 => let ⟨_, r⟩ := RnA.reads h4; ⟨_, .tuple h1 h2 h3 r⟩
  | _, _, .dct h1 h2 h3 _ h4 h5 => let ⟨_, r⟩ := RnA.reads h4; let ⟨_, r2⟩ := RnA.reads h5; ⟨_, .dict h1 h2 h3 r r2⟩
theorem RnA.reads : ∀ {vs : List Value} {ds : List PyData}, RnA h₀ vs ds → ∃ as, ReadsAll h₀ vs ds as
  | _, _, .nil => ⟨_, .nil⟩
  | _, _, .cons h1 h2 => let ⟨_, r⟩ := Rn.reads h1; let ⟨_, r2⟩ := RnA.reads h2; ⟨_, .cons r r2⟩
end
mutual
theorem Rn.show : ∀ {v : Value} {d : PyData}, Rn h₀ v d → d.showable = true → d.shown.length ≤ sizeLine → ∃ bs, ReadAtMost h₀ d.depth bs ∧ ReprK prog w bs h₀ d.depth v d.shown
  | _, _, .non, _, _ => ⟨[], fun _ q => (nomatch q), by rw [PyData.shown]; exact .of_is ReprIs.none [] h₀ _⟩
  | _, _, .bl b, _, _ => ⟨[], fun _ q => (nomatch q), by rw [PyData.shown]; exact .of_is (ReprIs.bool b) [] h₀ _⟩
  | _, _, .int i t, hs, _ => ⟨[], fun _ q => (nomatch q), by rw [PyData.shown]; exact .of_is (ReprIs.int t (by simpa [PyData.showable] using hs)) [] h₀ _⟩
  | _, _, .str x t, _, hz => ⟨[], fun _ q => (nomatch q), by rw [PyData.shown] at hz ⊢; exact .of_is (ReprIs.str x t hz) [] h₀ _⟩
  | _, _, .lst (a := a) (vs := vs) (xs := xs) h1 h2 h3 h4, hs, hz => by
    rw [PyData.shown] at hz
    rw [PyData.showable] at hs
    obtain ⟨bs, hb, hk⟩ := RnA.show h4 hs fun t ht => Nat.le_trans (listText_mem_le ht) hz
    obtain ⟨as, r4⟩ := RnA.reads h4
    have r : Reads h₀ (.ref a) (.list xs) _ := .list h1 h2 h3 r4
    have hna : a ∉ bs := not_mem_of_deeper r (by rw [PyData.depth]; omega) hb
    refine ⟨a :: bs, .cons r (by rw [PyData.depth]; omega) hb, ?_⟩
    rw [PyData.depth, PyData.shown]
    obtain ⟨l⟩ := vs
    cases l with
    | nil =>
      have h5 : RnA h₀ [] xs := h4
      cases h5
      rw [PyData.shownAll, listText_nil]
      exact .listEmpty h1 h2 h3
    | cons x l => exact .list h1 h2 h3 hna (by simpa using hk.length_eq) fun i y e => hk.item i y (by simpa using e)
  | _, _, .tup (a := a) (xs := xs) h1 h2 h3 h4, hs, hz => by
    rw [PyData.shown] at hz
    rw [PyData.showable] at hs
    obtain ⟨bs, hb, hk⟩ := RnA.show h4 hs fun t ht => Nat.le_trans (tupleText_mem_le ht) hz
    obtain ⟨as, r4⟩ := RnA.reads h4
    have r : Reads h₀ (.ref a) (.tuple xs) _ := .tuple h1 h2 h3 r4
    have hna : a ∉ bs := not_mem_of_deeper r (by rw [PyData.depth]; omega) hb
    refine ⟨a :: bs, .cons r (by rw [PyData.depth]; omega) hb, ?_⟩
    rw [PyData.depth, PyData.shown]
    exact .tuple h1 h2 h3 hna hk
  | _, _, .dct (a := a) (es := es) (kvs := kvs) h1 h2 h3 h0 h4 h5, hs, hz => by
    rw [PyData.shown] at hz
    rw [PyData.showable] at hs
    obtain ⟨s1, s2⟩ := PyData.showableKv_split kvs hs
    obtain ⟨b1, q1, k1⟩ := RnA.show h4 s1 fun t ht => by
      obtain ⟨p, hp, hl⟩ := PyData.shownKv_key_le kvs t ht
      exact Nat.le_trans hl (Nat.le_trans (dictText_mem_le hp) hz)
    obtain ⟨b2, q2, k2⟩ := RnA.show h5 s2 fun t ht => by
      obtain ⟨p, hp, hl⟩ := PyData.shownKv_val_le kvs t ht
      exact Nat.le_trans hl (Nat.le_trans (dictText_mem_le hp) hz)
    obtain ⟨as1, r1⟩ := RnA.reads h4
    obtain ⟨as2, r2⟩ := RnA.reads h5
    have r : Reads h₀ (.ref a) (.dict kvs) _ := .dict h1 h2 h3 r1 r2
    have q := (q1.mono (PyData.depthAll_keys_le kvs)).append (q2.mono (PyData.depthAll_vals_le kvs))
    have hna : a ∉ b1 ++ b2 := not_mem_of_deeper r (by rw [PyData.depth]; omega) q
    refine ⟨a :: (b1 ++ b2), .cons r (by rw [PyData.depth]; omega) q, ?_⟩
    rw [PyData.depth, PyData.shown, PyData.shownKv_eq]
    exact .dict h1 h2 h3 h0 hna (.of_two es.toList _ _ (k1.more_le (fun b m => List.mem_append_left _ m) (PyData.depthAll_keys_le kvs)) (k2.more_le (fun b m => List.mem_append_right _ m) (PyData.depthAll_vals_le kvs)))
theorem RnA.show : ∀ {vs : List Value} {ds : List PyData}, RnA h₀ vs ds → PyData.showableAll ds = true → (∀ t ∈ PyData.shownAll ds, t.length ≤ sizeLine) → ∃ bs, ReadAtMost h₀ (PyData.depthAll ds) bs ∧ ReprAllK prog w bs h₀ (PyData.depthAll ds) vs (PyData.shownAll ds)
  | _, _, .nil, _, _ => ⟨[], fun _ q => (nomatch q), by rw [PyData.shownAll]; exact .nil⟩
  | _, _, .cons (d := d) (ds := ds) h1 h2, hs, hz => by
    rw [PyData.showableAll, Bool.and_eq_true] at hs
    rw [PyData.shownAll] at hz
    obtain ⟨b1, q1, k1⟩ := Rn.show h1 hs.1 (hz _ List.mem_cons_self)
    obtain ⟨b2, q2, k2⟩ := RnA.show h2 hs.2 fun t ht => hz t (List.mem_cons_of_mem _ ht)
    rw [PyData.depthAll, PyData.shownAll]
    exact ⟨b1 ++ b2, (q1.mono (Nat.le_max_left _ _)).append (q2.mono (Nat.le_max_right _ _)), .cons ((k1.more fun b m => List.mem_append_left _ m).level_le (Nat.le_max_left _ _)) (k2.more_le (fun b m => List.mem_append_right _ m) (Nat.le_max_right _ _))⟩
end
variable {A : Around} {E : Value → Shared → Prop} {s : Shared}
theorem repr_rn : ∀ {v : Value} {d : PyData} {Q : Value → Shared → Prop}, Rn s.heap v d → d.showable = true → A.guards = some [] → A.units + 1 + d.depth < cLine → d.shown.length ≤ sizeLine →
    (∀ h' tk u, (∀ b o, s.heap.get? b = some o → h'.get? b = some o) → Q (.str d.shown u) { s with heap := h', toks := tk }) → wpAny (model prog w) A (call (.builtin "repr") [v]) Q E s
  | _, _, Q, .non, _, _, _, _, hQ => PySem.P.repr_of_none (by rw [PyData.shown] at hQ; exact hQ s.heap _ _ fun _ _ e => e)
  | _, _, Q, .bl b, _, _, _, _, hQ => PySem.P.repr_of_bool (by rw [PyData.shown] at hQ; exact hQ s.heap _ _ fun _ _ e => e)
  | _, _, Q, .int i t, hs, _, _, _, hQ => PySem.P.repr_of_int (by simpa [PyData.showable] using hs) (by rw [PyData.shown] at hQ; exact hQ s.heap _ _ fun _ _ e => e)
  | _, _, Q, .str x t, _, _, _, hz, hQ => PySem.P.repr_of_str (by rw [PyData.shown] at hQ; exact hQ s.heap _ _ fun _ _ e => e) (by rw [PyData.shown] at hz; exact hz)
  | _, _, Q, .lst (a := a) (vs := vs) (xs := xs) h1 h2 h3 h4, hs, hg, hu, hz, hQ => by
    rw [PyData.shown] at hz hQ
    rw [PyData.showable] at hs
    obtain ⟨bs, hb, hk⟩ := RnA.show (prog := prog) (w := w) h4 hs fun t ht => Nat.le_trans (listText_mem_le ht) hz
    obtain ⟨as, r4⟩ := RnA.reads h4
    have r : Reads s.heap (.ref a) (.list xs) _ := .list h1 h2 h3 r4
    have hna : a ∉ bs := not_mem_of_deeper r (by rw [PyData.depth]; omega) hb
    rw [PyData.depth] at hu
    have hTy : s.TypeIs (.ref a) "list" := ⟨_, h1, h2⟩
    refine PySem.call_repr_slot (by omega) hTy F.slot_list_repr.toG ?_
    obtain ⟨l⟩ := vs
    cases l with
    | nil =>
      have h5 : RnA s.heap [] xs := h4
      cases h5
      rw [PyData.shownAll, listText_nil] at hQ
      exact call_list_repr_empty hTy h1 h3 ⟨_, _, rfl, hQ s.heap _ _ fun _ _ e => e⟩
    | cons x l => exact call_list_reprK h1 h2 h3 hna (by simpa using hk.length_eq) (fun i y e => hk.item i y (by simpa using e)) hg (fun b _ => Clear.nil b) (by show A.units + 1 + _ < _; omega) (fun _ _ e => e) (fun h' u tk k2 => ⟨_, _, rfl, hQ h' tk u k2⟩) hz
  | _, _, Q, .tup (a := a) (xs := xs) h1 h2 h3 h4, hs, hg, hu, hz, hQ => by
    rw [PyData.shown] at hz hQ
    rw [PyData.showable] at hs
    obtain ⟨bs, hb, hk⟩ := RnA.show (prog := prog) (w := w) h4 hs fun t ht => Nat.le_trans (tupleText_mem_le ht) hz
    obtain ⟨as, r4⟩ := RnA.reads h4
    have r : Reads s.heap (.ref a) (.tuple xs) _ := .tuple h1 h2 h3 r4
    have hna : a ∉ bs := not_mem_of_deeper r (by rw [PyData.depth]; omega) hb
    rw [PyData.depth] at hu
    have hTy : s.TypeIs (.ref a) "tuple" := ⟨_, h1, h2⟩
    refine PySem.call_repr_slot (by omega) hTy F.slot_tuple_repr ?_
    exact call_tuple_reprK h1 h2 h3 hna hk hg (fun b _ => Clear.nil b) (by show A.units + 1 + _ < _; omega) (fun _ _ e => e) (fun h' u tk k2 => ⟨_, _, rfl, hQ h' tk u k2⟩) hz
  | _, _, Q, .dct (a := a) (es := es) (kvs := kvs) h1 h2 h3 h0 h4 h5, hs, hg, hu, hz, hQ => by
    have r0 : Rn s.heap (.ref a) (.dict kvs) := .dct h1 h2 h3 h0 h4 h5
    rw [PyData.shown] at hz hQ
    rw [PyData.showable] at hs
    obtain ⟨s1, s2⟩ := PyData.showableKv_split kvs hs
    obtain ⟨b1, q1, k1⟩ := RnA.show (prog := prog) (w := w) h4 s1 fun t ht => by
      obtain ⟨p, hp, hl⟩ := PyData.shownKv_key_le kvs t ht
      exact Nat.le_trans hl (Nat.le_trans (dictText_mem_le hp) hz)
    obtain ⟨b2, q2, k2⟩ := RnA.show (prog := prog) (w := w) h5 s2 fun t ht => by
      obtain ⟨p, hp, hl⟩ := PyData.shownKv_val_le kvs t ht
      exact Nat.le_trans hl (Nat.le_trans (dictText_mem_le hp) hz)
    obtain ⟨as, r⟩ := r0.reads
    have q := (q1.mono (PyData.depthAll_keys_le kvs)).append (q2.mono (PyData.depthAll_vals_le kvs))
    have hna : a ∉ b1 ++ b2 := not_mem_of_deeper r (by rw [PyData.depth]; omega) q
    rw [PyData.depth] at hu
    rw [PyData.shownKv_eq] at hz hQ
    have hTy : s.TypeIs (.ref a) "dict" := ⟨_, h1, h2⟩
    refine PySem.call_repr_slot (by omega) hTy F.slot_dict_repr ?_
    exact call_dict_reprK h1 h2 h3 h0 hna (.of_two es.toList _ _ (k1.more_le (fun b m => List.mem_append_left _ m) (PyData.depthAll_keys_le kvs)) (k2.more_le (fun b m => List.mem_append_right _ m) (PyData.depthAll_vals_le kvs))) hg (fun b _ => Clear.nil b) (by show A.units + 1 + _ < _; omega) (fun _ _ e => e) (fun h' u tk k2 => ⟨_, _, rfl, hQ h' tk u k2⟩) hz
end
def keyD : Key → PyData
  | .inl i => .int i
  | .inr x => .str x
mutual
inductive Dq (K : PySem.W.Frag) (H : Hp) : V → PyData → Prop
  | non : Dq K H .non .none
  | bl (b : Bool) : Dq K H (.bl b) (.bool b)
  | int (i : Int) : Dq K H (.int i) (.int i)
  | str (x : Str) : Dq K H (.str x) (.str x)
  | lst {a : Addr} {xs : List V} {ds : List PyData} (h : SqL K H a xs) (h2 : DqA K H xs ds) : Dq K H (.ref a) (.list ds)
  | tup {a : Addr} {xs : List V} {ds : List PyData} (h : SqT K H a xs) (h2 : DqA K H xs ds) : Dq K H (.ref a) (.tuple ds)
  | dct {a : Addr} {kvs : List (Key × V)} {ds : List PyData} (h : Rd H a (.dK kvs)) (h2 : DqA K H (kvs.map Prod.snd) ds) : Dq K H (.ref a) (.dict ((kvs.map fun x => keyD x.1).zip ds))
inductive DqA (K : PySem.W.Frag) (H : Hp) : List V → List PyData → Prop
  | nil : DqA K H [] []
  | cons {v : V} {vs : List V} {d : PyData} {ds : List PyData} (h1 : Dq K H v d) (h2 : DqA K H vs ds) : DqA K H (v :: vs) (d :: ds)
end
theorem DqA.len {K : PySem.W.Frag} {H : Hp} : ∀ {vs : List V} {ds : List PyData}, DqA K H vs ds → vs.length = ds.length
  | _, _, .nil => rfl
  | _, _, .cons _ h => by rw [List.length_cons, List.length_cons, h.len]
theorem rn_keys {P : Program} {w : World} {h : Heap} : ∀ {es : List DictEntry} {kvs : List (Key × V)} {vs : List (Key × Value)}, Pairs (mixKind P w) es vs → KV kvs vs → RnA h (es.map (·.key)) (kvs.map fun x => keyD x.1) ∧ Vals (kvs.map Prod.snd) (es.map (·.val))
  | _, _, _, .nil, .nil => ⟨.nil, .nil⟩
  | _, _, _, .cons h1 h2 h3, .cons ⟨e, r⟩ hr => by
    obtain ⟨q1, q2⟩ := rn_keys (h := h) h3 hr
    refine ⟨.cons ?_ q1, .cons (by show L2.RelV _ (DictEntry.val _); rw [h2]; exact r) q2⟩
    show Rn h (DictEntry.key _) (keyD (Prod.fst _))
    rw [e]
    rcases keyIs_shape h1 with ⟨i, t, e1, e2⟩ | ⟨x, t, e1, e2⟩
    · rw [e1, e2]
      exact .int i t
    · rw [e1, e2]
      exact .str x t
section
variable {X : Cx} {pins : List (Addr × Obj)} {σ : St} {H : Hp} {s : Shared}
mutual
theorem Dq.rn (I : Inv X pins σ H s) : ∀ {d : PyData} {v : V} {u : Value}, Dq X.K H v d → RelV v u → Rn s.heap u d
  | _, _, _, .non, r => by cases r; exact .non
  | _, _, _, .bl b, r => by cases r; exact .bl b
  | _, _, _, .int i, r => by obtain ⟨t, rfl⟩ := r; exact .int i t
  | _, _, _, .str x, r => by obtain ⟨t, rfl⟩ := r; exact .str x t
  | _, _, _, .lst h h2, r => by
    cases r
    obtain ⟨its, rv, ⟨o, n, ho, hc, _, hd⟩, _⟩ := I.list h
    exact .lst ho hc hd (DqA.rn I h2 rv)
  | _, _, _, .tup h h2, r => by
    cases r
    obtain ⟨its, rv, ⟨o, h1, h3, n, h4⟩, _⟩ := I.tuple h
    exact .tup h1 h3 h4 (DqA.rn I h2 rv)
  | _, _, _, .dct h h2, r => by
    cases r
    obtain ⟨_, hs, vs, rel, o, es, ep, ho, hx, hd, _, hp, _⟩ := dk_rd I.hok h
    obtain ⟨q1, q2⟩ := rn_keys (h := s.heap) hp rel
    have hl := h2.len
    rw [List.length_map] at hl
    refine .dct ho hx.1 hd hs ?_ ?_
    · rw [List.map_fst_zip (by rw [List.length_map]; omega)]
      exact q1
    · rw [List.map_snd_zip (by rw [List.length_map]; omega)]
      exact DqA.rn I h2 q2
theorem DqA.rn (I : Inv X pins σ H s) : ∀ {ds : List PyData} {vs : List V} {us : List Value}, DqA X.K H vs ds → Vals vs us → RnA s.heap us ds
  | _, _, _, .nil, .nil => .nil
  | _, _, _, .cons h1 h2, .cons r1 r2 => .cons (Dq.rn I h1 r1) (DqA.rn I h2 r2)
end
end
def rReprQ (K : PySem.W.Frag) : List V → Hp → VK → Prop := fun xs H Q => ∃ x d, xs = [x] ∧ Dq K H x d ∧ d.showable = true ∧ d.depth ≤ 60 ∧ d.shown.length ≤ sizeLine ∧ Q (.str d.shown) H
theorem call_reprQ {X : Cx} (hg : X.A.guards = some []) (hu : X.A.units + 64 < cLine) : CallR X (.builtin "repr") (rReprQ X.K) := by
  intro pins s σ H xs us Q I r h
  obtain ⟨x, d, rfl, hd, hs, hdp, hz, q⟩ := h
  obtain ⟨u, rfl, ru⟩ := vals1 r
  exact repr_rn (Dq.rn I hd ru) hs hg (by omega) hz fun h' tk t hk => ⟨.str _, H, I.kept hk, ⟨_, rfl⟩, q⟩
def nilPair (K : PySem.W.Frag) (H : Hp) (a b : Addr) (xs : List V) : Prop := (SqT K H a xs ∧ SqT K H b []) ∨ (SqL K H a xs ∧ SqL K H b [])
def rNeNil (K : PySem.W.Frag) : R2 := fun x y H Q => ∃ a b xs, x = .ref a ∧ y = .ref b ∧ nilPair K H a b xs ∧ Q (.bl (!xs.isEmpty)) H
theorem nil_vals {us : List Value} (r : Vals [] us) : us = [] := by cases r; rfl
theorem nil_all {xs : List V} {us : List Value} (r : Vals xs us) : ((List.range (min us.toArray.size ([] : List Value).toArray.size)).all (fun _ => true) && us.toArray.size == ([] : List Value).toArray.size) = xs.isEmpty := by
  cases r <;> simp
theorem op_neNil {X : Cx} {k : Nat} (hr : Room k X.A) : OpR X (compareOp .NotEq) (rNeNil X.K) := by
  intro pins s σ H x y v u Q I rx ry h
  obtain ⟨a, b, xs, rfl, rfl, h, q⟩ := h
  cases (show v = Value.ref a from rx)
  cases (show u = Value.ref b from ry)
  have hu := hr.units0
  rcases h with ⟨h1, h2⟩ | ⟨h1, h2⟩
  · obtain ⟨us, r1, p1, _⟩ := I.tuple h1
    obtain ⟨ws, r2, p2, _⟩ := I.tuple h2
    have e := nil_vals r2
    subst e
    have z := SeqAt.RcNeAt.tuples (A := X.A) (s := s) (e := fun _ => true) p1 p2 hu (fun j _ j2 => absurd j2 (Nat.not_lt_zero j))
    rw [nil_all r1] at z
    exact z X.prog X.w X.xe _ ⟨.bl _, H, I, rfl, q⟩
  · obtain ⟨us, r1, p1, _⟩ := I.list h1
    obtain ⟨ws, r2, p2, _⟩ := I.list h2
    have e := nil_vals r2
    subst e
    cases r1 with
    | nil =>
      have z := SeqAt.RcNeAt.lists (A := X.A) (s := s) (e := fun _ => true) p1.isList p2.isList rfl hu (fun j _ j2 => absurd j2 (Nat.not_lt_zero j))
      exact z X.prog X.w X.xe _ ⟨.bl _, H, I, rfl, q⟩
    | cons r rs =>
      have z := SeqAt.RcNeAt.lists_lengths (A := X.A) (s := s) p1.isList p2.isList rfl hu
      exact z X.prog X.w X.xe _ ⟨.bl _, H, I, rfl, q⟩
theorem kNeNil {X : Cx} {K : PySem.W.Frag} {k : Nat} (hr : Room k X.A) (hK : X.K = K := by rfl) : OpR X (compareOp .NotEq) (rNeNil K) := hK ▸ op_neNil hr
end L3

namespace L3
open PySem PySem.Spec PyProof.Rows L2 L5
end L3

namespace L3
open PySem PySem.Spec PyProof.Rows L2
section
variable {K : PySem.W.Frag} {I J : Hp}
mutual
theorem Dq.up (e : Ex I J) : ∀ {v : V} {d : PyData}, Dq K I v d → Dq K J v d
  | _, _, .non => .non
  | _, _, .bl b => .bl b
  | _, _, .int i => .int i
  | _, _, .str x => .str x
  | _, _, .lst h hs => .lst (SqL.up e h) (DqA.up e hs)
  | _, _, .tup h hs => .tup (SqT.up e h) (DqA.up e hs)
  | _, _, .dct h hs => .dct (Rd.up e h) (DqA.up e hs)
theorem DqA.up (e : Ex I J) : ∀ {vs : List V} {ds : List PyData}, DqA K I vs ds → DqA K J vs ds
  | _, _, .nil => .nil
  | _, _, .cons h hs => .cons (Dq.up e h) (DqA.up e hs)
end
theorem dqa_ints : ∀ ns : List Int, DqA K I (ns.map V.int) (ns.map PyData.int)
  | [] => .nil
  | n :: ns => .cons (.int n) (dqa_ints ns)
theorem kReprQ {X : Cx} {k : Nat} (hg : X.A.guards = some []) (hr : Room k X.A) (hK : X.K = K := by rfl) : CallR X (.builtin "repr") (rReprQ K) := hK ▸ call_reprQ hg hr.units
end
end L3
namespace L5
open PySem PySem.Spec PyProof.Rows L2 L3
section
variable {K : PySem.W.Frag} {W W' : Wd} {S : Sto} {H : Hp} {P : AV} {Q : VK} {I : Hp} {ad : List Addr}
mutual
def datQ : PV → PyData
  | .non => .none
  | .bl b => .bool b
  | .int i => .int i
  | .str x => .str x
  | .tup xs => .tuple (datsQ xs)
  | .lst xs => .list (datsQ xs)
  | .scr ns => .list (ns.map .int)
  | .kt xs => .tuple (datsQ xs)
  | .dct ks xs => .dict ((ks.map keyD).zip (datsQ xs))
  | _ => .none
def datsQ : List PV → List PyData
  | [] => []
  | x :: xs => datQ x :: datsQ xs
end
mutual
def nownQ : PV → Bool
  | .tup xs => nownsQ xs
  | .lst xs => nownsQ xs
  | .kt xs => nownsQ xs
  | .dct _ xs => nownsQ xs
  | .non => true
  | .bl _ => true
  | .int _ => true
  | .str _ => true
  | .scr _ => true
  | _ => false
def nownsQ : List PV → Bool
  | [] => true
  | x :: xs => nownQ x && nownsQ xs
end
mutual
theorem VR.dq : ∀ {v : V} {p : PV}, VR K I ad v p → nownQ p = true → Dq K I v (datQ p)
  | _, _, .non, _ => by rw [datQ]; exact .non
  | _, _, .bl b, _ => by rw [datQ]; exact .bl b
  | _, _, .int i, _ => by rw [datQ]; exact .int i
  | _, _, .str x, _ => by rw [datQ]; exact .str x
  | _, _, .tup h hs, e => by rw [nownQ] at e; rw [datQ]; exact .tup (TupF.sq h) (VRs.dq hs e)
  | _, _, .lst h hs, e => by rw [nownQ] at e; rw [datQ]; exact .lst (SqL.of h) (VRs.dq hs e)
  | _, _, .scr h, _ => by rw [datQ]; exact .lst h (dqa_ints _)
  | _, _, .kt h hs, e => by rw [nownQ] at e; rw [datQ]; exact .tup h.sq (VRs.dq hs e)
  | _, _, .own _, e => (nomatch e)
  | _, _, .ty _, e => (nomatch e)
  | _, _, .cls _, e => (nomatch e)
  | _, _, .ins _ _ _ _ _, e => (nomatch e)
  | _, _, .exc0 _ _, e => (nomatch e)
  | _, _, .exc _ _ _ _, e => (nomatch e)
  | _, _, .dct h e2 _ hs, e => by
    rw [nownQ] at e
    rw [datQ, ← e2, List.map_map]
    exact .dct (.of h) (VRs.dq hs e)
theorem VRs.dq : ∀ {vs : List V} {ps : List PV}, VRs K I ad vs ps → nownsQ ps = true → DqA K I vs (datsQ ps)
  | _, _, .nil, _ => by rw [datsQ]; exact .nil
  | _, _, .cons h hs, e => by
    rw [nownsQ, Bool.and_eq_true] at e
    rw [datsQ]
    exact .cons (VR.dq h e.1) (VRs.dq hs e.2)
end
@[reducible] def rsvQ (p : PV) (S : Sto) : PV := match p with
  | .own k => match sget S k with
    | some xs => .lst xs
    | none => match sgetD S k with
      | some (ks, xs) => .dct ks xs
      | none => .own k
  | x => x
theorem VR.dqS (I : In K W S H) {v : V} {p : PV} (r : VR K W.I W.ad v p) (e : nownQ (rsvQ p S) = true) : Dq K H v (datQ (rsvQ p S)) := by
  have go : nownQ p = true → Dq K H v (datQ p) := fun e => Dq.up I.exH (r.dq e)
  cases p with
  | own k =>
    simp only [rsvQ] at e ⊢
    cases z : sget S k with
    | some xs =>
      rw [z] at e
      obtain ⟨a, us, h1, h2, h3⟩ := r.lv I (xs := xs) z
      subst h1
      rw [nownQ] at e
      show Dq K H (.ref a) (datQ (.lst xs))
      rw [datQ]
      exact .lst h2 (DqA.up I.exH (h3.dq e))
    | none =>
      rw [z] at e
      cases z2 : sgetD S k with
      | none =>
        rw [z2] at e
        simp only [nownQ] at e
        cases e
      | some q =>
        obtain ⟨ks, xs⟩ := q
        rw [z2] at e
        obtain ⟨a, kvs, h1, h2, h3, _, h5⟩ := r.dct_at I (ks := ks) (xs := xs) z2
        subst h1
        simp only [nownQ] at e
        show Dq K H (.ref a) (datQ (.dct ks xs))
        rw [datQ, ← h3, List.map_map]
        exact .dct (.of h2) (DqA.up I.exH (h5.dq e))
  | _ => exact go e
structure Rq (k z : Nat) (p : PV) : Prop where
  own : nownQ p = true
  sh : (datQ p).showable = true
  dp : (datQ p).depth ≤ k
  ln : (datQ p).shown.length ≤ z
def rqOk (p : PV) : Prop := Rq 60 16000000 p
@[reducible] def vReprQ : AL := fun xs S P => on1 xs fun x => rqOk (rsvQ x S) ∧ P (.str (PyData.shown (datQ (rsvQ x S)))) S
theorem sl_reprQ : SL K (rReprQ K) vReprQ := ⟨fun {W S xs ps H Q P} I r h c => by
  obtain ⟨v, p, rfl, rfl, r, ⟨h1, h2, h3, h4⟩, h⟩ := r.on1 h
  exact ⟨v, _, rfl, r.dqS I h1, h2, h3, Nat.le_trans h4 (by decide), c.at I (.str _) h⟩⟩
@[reducible] def onNil (x y : PV) (S : Sto) (G : Bool → Prop) : Prop := match y with
  | .tup [] => onT x fun xs => G xs.isEmpty
  | .lst [] => onL (lv x S) fun xs => G xs.isEmpty
  | _ => False
@[reducible] def vNeNil : A2 := fun x y S P => onNil x y S fun b => P (.bl (!b)) S
theorem vrs_emp {us : List V} {xs : List PV} (r : VRs K I ad us xs) : us.isEmpty = xs.isEmpty := by cases r <;> rfl
theorem nil_core (I : In K W S H) {x y : V} {p q : PV} (r1 : VR K W.I W.ad x p) (r2 : VR K W.I W.ad y q) {G : Bool → Prop} (h : onNil p q S G) : ∃ a b us, x = .ref a ∧ y = .ref b ∧ nilPair K H a b us ∧ G us.isEmpty := by
  cases q with
  | tup zs => cases zs with
    | nil =>
      obtain ⟨xs, rfl, h⟩ := r1.onT (P := fun xs => G xs.isEmpty) h
      obtain ⟨a, us, rfl, hq, rs⟩ := r1.tupS I
      obtain ⟨b, ws, rfl, hq2, rs2⟩ := r2.tupS I
      cases rs2
      exact ⟨a, b, us, rfl, rfl, .inl ⟨hq, hq2⟩, by rw [vrs_emp rs]; exact h⟩
    | cons _ _ => exact h.elim
  | lst zs => cases zs with
    | nil =>
      obtain ⟨xs, e, h⟩ := onL_of (P := fun xs => G xs.isEmpty) h
      obtain ⟨a, us, rfl, hq, rs⟩ := r1.lv I e
      obtain ⟨b, ws, rfl, hq2, rs2⟩ := r2.lv I (xs := []) rfl
      cases rs2
      exact ⟨a, b, us, rfl, rfl, .inr ⟨hq, hq2⟩, by rw [vrs_emp rs]; exact h⟩
    | cons _ _ => exact h.elim
  | _ => exact h.elim
theorem so_neNil : SO K (rNeNil K) vNeNil := ⟨fun {W S x y p q H Q P} I r1 r2 h c => by
  obtain ⟨a, b, us, e1, e2, hn, h⟩ := nil_core I r1 r2 (G := fun b => P (.bl (!b)) S) h
  exact ⟨a, b, us, e1, e2, hn, c.at I (.bl _) h⟩⟩
theorem Rq.up {k z k' z' : Nat} {p : PV} (h : Rq k z p) (hk : k ≤ k') (hz : z ≤ z') : Rq k' z' p := ⟨h.own, h.sh, Nat.le_trans h.dp hk, Nat.le_trans h.ln hz⟩
theorem Rq.ok {k z : Nat} {p : PV} (h : Rq k z p) (hk : k ≤ 60) (hz : z ≤ 16000000) : rqOk p := h.up hk hz
theorem Rq.non : Rq 0 4 .non := ⟨rfl, by rw [datQ, PyData.showable], by rw [datQ, PyData.depth]; exact Nat.le_refl _, by rw [datQ, PyData.shown]; decide⟩
theorem Rq.bl (b : Bool) : Rq 0 5 (.bl b) := ⟨rfl, by rw [datQ, PyData.showable], by rw [datQ, PyData.depth]; exact Nat.le_refl _, by rw [datQ, PyData.shown]; cases b <;> decide⟩
theorem Rq.of {k z : Nat} {p : PV} (h : Rp k z p) (e : datQ p = dat p) (ho : nownQ p = true) : Rq k z p := ⟨ho, by rw [e]; exact good_show k _ h.gd, by rw [e]; exact good_depth k _ h.gd, by rw [e]; exact Nat.le_trans (good_nz k _ h.gd) h.nz⟩
theorem Rq.int {i : Int} (h1 : -1000000000000000000000000 < i) (h2 : i < 1000000000000000000000000) : Rq 0 1921 (.int i) := .of (Rp.int h1 h2 (Nat.le_refl _)) (by rw [datQ, dat]) rfl
structure RqA (k n : Nat) (xs : List PV) : Prop where
  own : nownsQ xs = true
  sh : PyData.showableAll (datsQ xs) = true
  dp : PyData.depthAll (datsQ xs) ≤ k
  ln : ((PyData.shownAll (datsQ xs)).map (·.length)).sum + 2 * (PyData.shownAll (datsQ xs)).length ≤ n
theorem RqA.nil {k n : Nat} : RqA k n [] := ⟨rfl, by rw [datsQ, PyData.showableAll], by rw [datsQ, PyData.depthAll]; exact Nat.zero_le _, by rw [datsQ, PyData.shownAll]; exact Nat.zero_le _⟩
theorem RqA.cons {k z n m : Nat} {p : PV} {xs : List PV} (h : Rq k z p) (hs : RqA k n xs) (hm : z + 2 + n ≤ m) : RqA k m (p :: xs) := ⟨by rw [nownsQ, h.own, hs.own]; rfl, by rw [datsQ, PyData.showableAll, h.sh, hs.sh]; rfl, by
  rw [datsQ, PyData.depthAll]
  exact Nat.max_le.mpr ⟨h.dp, hs.dp⟩, by
  rw [datsQ, PyData.shownAll, List.map_cons, List.sum_cons, List.length_cons]
  have h1 := h.ln
  have h2 := hs.ln
  omega⟩
theorem RqA.all {k z : Nat} : ∀ {xs : List PV}, (∀ x ∈ xs, Rq k z x) → RqA k (xs.length * (z + 2)) xs
  | [], _ => .nil
  | x :: xs, h => .cons (h x List.mem_cons_self) (RqA.all fun y hy => h y (List.mem_cons_of_mem _ hy)) (by rw [List.length_cons, Nat.succ_mul]; omega)
theorem RqA.tup {k n m : Nat} {xs : List PV} (h : RqA k n xs) (hm : n + 3 ≤ m) : Rq (k + 1) m (.tup xs) := ⟨by rw [nownQ, h.own], by rw [datQ, PyData.showable, h.sh], by rw [datQ, PyData.depth]; have := h.dp; omega, by
  rw [datQ, PyData.shown]
  have h1 := tupleText_len_le (PyData.shownAll (datsQ xs))
  have h2 := h.ln
  omega⟩
theorem RqA.lst {k n m : Nat} {xs : List PV} (h : RqA k n xs) (hm : n + 3 ≤ m) : Rq (k + 1) m (.lst xs) := ⟨by rw [nownQ, h.own], by rw [datQ, PyData.showable, h.sh], by rw [datQ, PyData.depth]; have := h.dp; omega, by
  rw [datQ, PyData.shown]
  have h1 := listText_len_le (PyData.shownAll (datsQ xs))
  have h2 := h.ln
  omega⟩
end
end L5

namespace L3
open PySem PySem.Spec PyProof.Rows L2
@[reducible] def bI (b : Bool) : Int := if b = true then 1 else 0
section
variable {X : Cx}
def rBI (g : Int → Int → V) : R2 := fun x y H Q => ∃ a j, x = .bl a ∧ y = .int j ∧ Q (g (bI a) j) H
def rIB (g : Int → Int → V) : R2 := fun x y H Q => ∃ i b, x = .int i ∧ y = .bl b ∧ Q (g i (bI b)) H
theorem op_addBI : OpR X (binaryOp .Add) (rBI fun i j => .int (i + j)) := by
  intro pins s σ H x y v u Q I rx ry h
  obtain ⟨a, j, rfl, rfl, q⟩ := h
  cases rx
  obtain ⟨t, rfl⟩ := ry
  exact PySem.IntBool.add_bool_int ⟨.int _, H, I.tok _, ⟨_, rfl⟩, q⟩
theorem op_subBI : OpR X (binaryOp .Sub) (rBI fun i j => .int (i - j)) := by
  intro pins s σ H x y v u Q I rx ry h
  obtain ⟨a, j, rfl, rfl, q⟩ := h
  cases rx
  obtain ⟨t, rfl⟩ := ry
  exact PySem.IntBool.sub_bool_int ⟨.int _, H, I.tok _, ⟨_, rfl⟩, q⟩
theorem op_subIB : OpR X (binaryOp .Sub) (rIB fun i j => .int (i - j)) := by
  intro pins s σ H x y v u Q I rx ry h
  obtain ⟨a, j, rfl, rfl, q⟩ := h
  obtain ⟨t, rfl⟩ := rx
  cases ry
  exact PySem.IntBool.sub_int_bool ⟨.int _, H, I.tok _, ⟨_, rfl⟩, q⟩
theorem op_eqBI : OpR X (compareOp .Eq) (rBI fun i j => .bl (i == j)) := by
  intro pins s σ H x y v u Q I rx ry h
  obtain ⟨a, j, rfl, rfl, q⟩ := h
  cases rx
  obtain ⟨t, rfl⟩ := ry
  exact PySem.EqBoolInt.eq_bool_int ⟨.bl _, H, I, rfl, q⟩
end
end L3
namespace L5
open PySem PySem.Spec PyProof.Rows L2 L3
section
variable {X : Cx}
def rAddB (K : PySem.W.Frag) : R2 := fun x y H Q => rAddF K x y H Q ∨ rBI (fun i j => .int (i + j)) x y H Q
theorem kAddB {K : PySem.W.Frag} (hK : X.K = K := by rfl) : OpR X (binaryOp .Add) (rAddB K) := (kAddF hK).or op_addBI
def rSubB : R2 := fun x y H Q => rI0 (fun i j => .int (i - j)) x y H Q ∨ (rBI (fun i j => .int (i - j)) x y H Q ∨ rIB (fun i j => .int (i - j)) x y H Q)
theorem kSubB : OpR X (binaryOp .Sub) rSubB := op_sub.or (op_subBI.or op_subIB)
def rEqB (K : PySem.W.Frag) : R2 := fun x y H Q => rEqA K x y H Q ∨ rBI (fun i j => .bl (i == j)) x y H Q
theorem kEqB {K : PySem.W.Frag} {k : Nat} (hr : Room k X.A) (hK : X.K = K := by rfl) : OpR X (compareOp .Eq) (rEqB K) := (kEq hr hK).or op_eqBI
end
section
variable {K : PySem.W.Frag} {W W' : Wd} {S : Sto} {H : Hp} {P : AV} {Q : VK} {I : Hp} {ad : List Addr}
@[reducible] def vAddB : A2 := fun x y S P => match x with
  | .bl a => onI y fun j => P (.int (bI a + j)) S
  | x => vAdd x y S P
@[reducible] def vSubB : A2 := fun x y S P => match x with
  | .bl a => onI y fun j => P (.int (bI a - j)) S
  | .int i => match y with
    | .bl b => P (.int (i - bI b)) S
    | .int j => P (.int (i - j)) S
    | _ => False
  | _ => False
@[reducible] def vEqB : A2 := fun x y S P => match x with
  | .bl a => match y with
    | .int j => P (.bl (bI a == j)) S
    | y => vEq (.bl a) y S P
  | x => vEq x y S P
theorem so_addB : SO K (rAddB K) vAddB := ⟨fun {W S x y p q H Q P} I r1 r2 h c => by
  cases p with
  | bl a =>
    obtain ⟨j, rfl, _, h⟩ := r2.onI h
    cases r1
    exact .inr ⟨_, _, rfl, rfl, c.at I (.int _) h⟩
  | _ => exact .inl (so_add.run I r1 r2 h c)⟩
theorem so_subB : SO K rSubB vSubB := ⟨fun {W S x y p q H Q P} I r1 r2 h c => by
  cases p with
  | bl a =>
    obtain ⟨j, rfl, _, h⟩ := r2.onI h
    cases r1
    exact .inr (.inl ⟨_, _, rfl, rfl, c.at I (.int _) h⟩)
  | int i =>
    cases r1
    cases q with
    | bl b => cases r2; exact .inr (.inr ⟨_, _, rfl, rfl, c.at I (.int _) (by unfold vSubB at h; exact h)⟩)
    | int j => cases r2; exact .inl ⟨_, _, rfl, rfl, c.at I (.int _) (by unfold vSubB at h; exact h)⟩
    | _ => exact h.elim
  | _ => exact h.elim⟩
theorem so_eqB : SO K (rEqB K) vEqB := ⟨fun {W S x y p q H Q P} I r1 r2 h c => by
  cases p with
  | bl a =>
    cases q with
    | int j => cases r1; cases r2; exact .inr ⟨_, _, rfl, rfl, c.at I (.bl _) (by unfold vEqB at h; exact h)⟩
    | _ => exact .inl (so_eq.run I r1 r2 h c)
  | _ => exact .inl (so_eq.run I r1 r2 h c)⟩
end
structure At (v : PV) (S0 : Sto) (p : PV) (S1 : Sto) : Prop where
  v : p = v
  s : S1 = S0
@[reducible] def big : Int := 1000000000000000000000000000000000000000000000
@[reducible] def okI (b i : Int) : Prop := -b < i ∧ i < b
@[reducible] def okS (x : Str) : Prop := ∀ c ∈ x.cps.toList, c < 16 ^ 8
def okK (b : Int) : Key → Prop
  | .inl i => okI b i
  | .inr x => okS x
def tk : List Key → Nat
  | [] => 0
  | .inl _ :: ks => 51 + tk ks
  | .inr x :: ks => 10 * x.length + 8 + tk ks
mutual
def tl : PV → Nat
  | .non => 4
  | .bl _ => 5
  | .int _ => 47
  | .str x => 10 * x.length + 4
  | .tup xs => 3 + tls xs
  | .lst xs => 3 + tls xs
  | .dct ks xs => 3 + tk ks + tls xs
  | _ => 0
def tls : List PV → Nat
  | [] => 0
  | x :: xs => tl x + 2 + tls xs
end
def Pd (b : Int) : Nat → PV → Prop
  | _, .non => True
  | _, .bl _ => True
  | _, .int i => okI b i
  | _, .str x => okS x
  | n + 1, .tup xs => ∀ x ∈ xs, Pd b n x
  | n + 1, .lst xs => ∀ x ∈ xs, Pd b n x
  | n + 1, .dct ks xs => (∀ k ∈ ks, okK b k) ∧ ∀ x ∈ xs, Pd b n x
  | _, _ => False
theorem Pd.up1 {b : Int} : ∀ {n : Nat} {p : PV}, Pd b n p → Pd b (n + 1) p := by
  intro n
  induction n with
  | zero => intro p h; cases p <;> first | exact h | exact h.elim
  | succ n ih =>
    intro p h
    cases p with
    | tup xs => exact fun x hx => ih (h x hx)
    | lst xs => exact fun x hx => ih (h x hx)
    | dct ks xs => exact ⟨h.1, fun x hx => ih (h.2 x hx)⟩
    | _ => exact h
theorem Pd.up {b : Int} {n m : Nat} {p : PV} (h : Pd b n p) (l : n ≤ m) : Pd b m p := by
  induction l with
  | refl => exact h
  | step _ ih => exact ih.up1
theorem Rq.strK (x : Str) (h : okS x) : Rq 0 (10 * x.length + 4) (.str x) := ⟨rfl, by rw [datQ, PyData.showable], by rw [datQ, PyData.depth]; exact Nat.le_refl _, by
  rw [datQ, PyData.shown]
  exact Nat.le_trans (StrLaws.reprText_len x h) (by omega)⟩
theorem int_len (i : Int) (h : okI big i) : (PyData.int i).shown.length ≤ 47 := by
  rw [PyData.shown, PySem.ofString_length]
  exact Nat.le_trans (PySem.int_text_length_le10 (k := 45) (by decide) (by unfold okI big at h; obtain ⟨h1, h2⟩ := h; show _ < (1000000000000000000000000000000000000000000000 : Nat); omega)) (by decide)
theorem int_log (i : Int) (h : okI big i) : i.natAbs.log2 < 1920 := L3.log2_small (Nat.lt_trans (show i.natAbs < 1000000000000000000000000000000000000000000000000 by unfold okI big at h; obtain ⟨h1, h2⟩ := h; omega) (by decide))
theorem Rq.intK (i : Int) (h : okI big i) : Rq 0 47 (.int i) := ⟨rfl, by rw [datQ, PyData.showable, decide_eq_true_eq]; exact int_log i h, by rw [datQ, PyData.depth]; exact Nat.le_refl _, by rw [datQ]; exact int_len i h⟩
theorem RqA.tls {d : Nat} : ∀ {xs : List PV}, (∀ x ∈ xs, Rq d (tl x) x) → RqA d (L5.tls xs) xs
  | [], _ => by rw [L5.tls]; exact .nil
  | x :: xs, h => by
    rw [L5.tls]
    exact .cons (h x List.mem_cons_self) (RqA.tls fun y hy => h y (List.mem_cons_of_mem _ hy)) (Nat.le_refl _)
theorem key_rq (k : Key) (h : okK big k) : (keyD k).showable = true ∧ (keyD k).depth = 0 ∧ (keyD k).shown.length + 4 + L5.tk [] ≤ L5.tk [k] := by
  cases k with
  | inl i => exact ⟨by rw [keyD, PyData.showable, decide_eq_true_eq]; exact int_log i h, by rw [keyD, PyData.depth], by have := int_len i h; rw [keyD]; show _ + 4 + 0 ≤ 51 + 0; omega⟩
  | inr x => exact ⟨by rw [keyD, PyData.showable], by rw [keyD, PyData.depth], by
      have := StrLaws.reprText_len x h
      rw [keyD, PyData.shown]
      show _ + 4 + 0 ≤ 10 * x.length + 8 + 0
      omega⟩
theorem tk_cons (k : Key) (ks : List Key) : L5.tk (k :: ks) = L5.tk [k] + L5.tk ks := by
  cases k with
  | inl i => show 51 + _ = 51 + 0 + _; omega
  | inr x => show 10 * x.length + 8 + _ = 10 * x.length + 8 + 0 + _; omega
theorem kv_rq {d : Nat} : ∀ {ks : List Key} {xs : List PV}, (∀ k ∈ ks, okK big k) → (∀ x ∈ xs, Rq d (tl x) x) →
    PyData.showableKv ((ks.map keyD).zip (datsQ xs)) = true ∧ PyData.depthKv ((ks.map keyD).zip (datsQ xs)) ≤ d ∧ ((PyData.shownKv ((ks.map keyD).zip (datsQ xs))).map (·.length)).sum + 2 * (PyData.shownKv ((ks.map keyD).zip (datsQ xs))).length ≤ L5.tk ks + L5.tls xs
  | [], _, _, _ => by
    rw [List.map_nil, List.zip_nil_left, PyData.showableKv, PyData.depthKv, PyData.shownKv]
    exact ⟨rfl, Nat.zero_le _, Nat.zero_le _⟩
  | _ :: _, [], _, _ => by
    rw [datsQ, List.zip_nil_right, PyData.showableKv, PyData.depthKv, PyData.shownKv]
    exact ⟨rfl, Nat.zero_le _, Nat.zero_le _⟩
  | k :: ks, x :: xs, hk, hx => by
    obtain ⟨h1, h2, h3⟩ := kv_rq (ks := ks) (xs := xs) (fun k h => hk k (List.mem_cons_of_mem _ h)) (fun x h => hx x (List.mem_cons_of_mem _ h))
    obtain ⟨k1, k2, k3⟩ := key_rq k (hk k List.mem_cons_self)
    have hr := hx x List.mem_cons_self
    rw [datsQ, List.map_cons, List.zip_cons_cons, PyData.showableKv, PyData.depthKv, PyData.shownKv, k1, hr.sh, h1, k2]
    have e0 : L5.tk [] = 0 := rfl
    refine ⟨rfl, by have := hr.dp; omega, ?_⟩
    have := hr.ln
    rw [List.map_cons, List.sum_cons, List.length_cons, tk_cons, L5.tls, Str.length_append, Str.length_append]
    have e1 : (": " : Str).length = 2 := by decide +kernel
    omega
theorem Pd.rq : ∀ {d : Nat} {p : PV}, Pd big d p → Rq d (tl p) p := by
  intro d
  induction d with
  | zero =>
    intro p h
    cases p with
    | non => rw [tl]; exact Rq.non
    | bl b => rw [tl]; exact Rq.bl b
    | int i => rw [tl]; exact Rq.intK i h
    | str x => rw [tl]; exact Rq.strK x h
    | _ => exact h.elim
  | succ d ih =>
    intro p h
    cases p with
    | non => rw [tl]; exact Rq.non.up (by omega) (Nat.le_refl _)
    | bl b => rw [tl]; exact (Rq.bl b).up (by omega) (Nat.le_refl _)
    | int i => rw [tl]; exact (Rq.intK i h).up (by omega) (Nat.le_refl _)
    | str x => rw [tl]; exact (Rq.strK x h).up (by omega) (Nat.le_refl _)
    | tup xs => rw [tl]; exact (RqA.tls fun x hx => ih (h x hx)).tup (by omega)
    | lst xs => rw [tl]; exact (RqA.tls fun x hx => ih (h x hx)).lst (by omega)
    | dct ks xs =>
      rw [tl]
      obtain ⟨h1, h2, h3⟩ := kv_rq h.1 (fun x hx => ih (h.2 x hx))
      have := (RqA.tls fun x hx => ih (h.2 x hx))
      refine ⟨by rw [nownQ, this.own], by rw [datQ, PyData.showable]; exact h1, by rw [datQ, PyData.depth]; omega, ?_⟩
      rw [datQ, PyData.shown]
      have := dictText_len_le (PyData.shownKv ((ks.map keyD).zip (datsQ xs)))
      omega
    | _ => exact h.elim
theorem Pd.ok {d : Nat} {p : PV} (h : Pd big d p) (hd : d ≤ 60) (hz : tl p ≤ 16000000) : rqOk p := h.rq.ok hd hz
theorem Pd.ty {b : Int} {d : Nat} {p : PV} (h : Pd b d p) (S : Sto) : ∃ t, tyOf p S = some t := by
  cases p with
  | non => exact ⟨_, rfl⟩
  | bl _ => exact ⟨_, rfl⟩
  | int _ => exact ⟨_, rfl⟩
  | str _ => exact ⟨_, rfl⟩
  | tup _ => exact ⟨_, rfl⟩
  | lst _ => exact ⟨_, rfl⟩
  | dct _ _ => exact ⟨_, rfl⟩
  | _ => cases d <;> exact h.elim
theorem Pd.rsv {b : Int} {d : Nat} {p : PV} (h : Pd b d p) (S : Sto) : rsvQ p S = p := by
  cases p with
  | own k => cases d <;> exact h.elim
  | _ => rfl
theorem Pd.tup {b : Int} {d : Nat} {xs : List PV} (h : Pd b d (.tup xs)) : ∃ e, d = e + 1 ∧ ∀ x ∈ xs, Pd b e x := by
  cases d with
  | zero => exact h.elim
  | succ e => exact ⟨e, rfl, h⟩
def okSb (x : Str) : Bool := x.cps.toList.all fun c => decide (c < 16 ^ 8)
def okKb (b : Int) : Key → Bool
  | .inl i => decide (-b < i ∧ i < b)
  | .inr x => okSb x
def pdb (b : Int) : Nat → PV → Bool
  | _, .non => true
  | _, .bl _ => true
  | _, .int i => decide (-b < i ∧ i < b)
  | _, .str x => okSb x
  | n + 1, .tup xs => xs.all (pdb b n)
  | n + 1, .lst xs => xs.all (pdb b n)
  | n + 1, .dct ks xs => ks.all (okKb b) && xs.all (pdb b n)
  | _, _ => false
theorem okSb_of {x : Str} (h : okSb x = true) : okS x := fun c hc => by simpa using (List.all_eq_true.mp h) c hc
theorem okKb_of {b : Int} {k : Key} (h : okKb b k = true) : okK b k := by
  cases k with
  | inl i => exact of_decide_eq_true (p := -b < i ∧ i < b) h
  | inr x => exact okSb_of h
theorem Pd.of {b : Int} : ∀ {n : Nat} {p : PV}, pdb b n p = true → Pd b n p := by
  intro n
  induction n with
  | zero =>
    intro p h
    cases p with
    | int i => exact of_decide_eq_true (p := -b < i ∧ i < b) h
    | str x => exact okSb_of h
    | non => trivial
    | bl c => trivial
    | _ => cases h
  | succ n ih =>
    intro p h
    cases p with
    | int i => exact of_decide_eq_true (p := -b < i ∧ i < b) h
    | str x => exact okSb_of h
    | non => trivial
    | bl c => trivial
    | tup xs => exact fun x hx => ih (List.all_eq_true.mp h x hx)
    | lst xs => exact fun x hx => ih (List.all_eq_true.mp h x hx)
    | dct ks xs =>
      have h : (ks.all (okKb b) && xs.all (pdb b n)) = true := h
      rw [Bool.and_eq_true] at h
      exact ⟨fun k hk => okKb_of (List.all_eq_true.mp h.1 k hk), fun x hx => ih (List.all_eq_true.mp h.2 x hx)⟩
    | _ => cases h
def ckb (b : Int) (n z : Nat) (p : PV) : Bool := pdb b n p && decide (tl p ≤ z)
theorem ckb_all {b : Int} {n z : Nat} {xs : List PV} (h : xs.all (ckb b n z) = true) : ∀ x ∈ xs, Pd b n x ∧ tl x ≤ z := fun x hx => by
  have := List.all_eq_true.mp h x hx
  unfold ckb at this
  rw [Bool.and_eq_true] at this
  exact ⟨Pd.of this.1, of_decide_eq_true this.2⟩
theorem pd_bl {b : Int} {d : Nat} (c : Bool) : Pd b d (.bl c) := Pd.up (n := 0) trivial (Nat.zero_le _)
theorem okS_of (s : String) : okS (Str.ofString s) := fun c hc => by
  rw [signs_ofString] at hc
  obtain ⟨ch, h1, rfl⟩ := List.mem_map.mp hc
  have := ch.valid
  have e : ch.toNat = ch.val.toNat := rfl
  rcases this with h | ⟨_, h⟩ <;> rw [e] <;> omega
end L5

namespace L3
open PySem PySem.Spec PyProof.Rows L2
end L3

namespace L3
open PySem PySem.Spec PyProof.Rows L2
end L3

namespace L5
open PySem PySem.Spec PyProof.Rows L2 L3
end L5

namespace L5
open PySem PySem.Spec PyProof.Rows L2 L3
end L5

namespace L3
open PySem PySem.Spec PyProof.Rows L2
end L3

namespace L5
open PySem PySem.Spec PyProof.Rows L2 L3
end L5

namespace L5
open PySem PySem.Spec PyProof.Rows L2 L3
end L5

namespace L3
open PySem PySem.Spec PyProof.Rows L2
end L3

namespace L3
open PySem PySem.Spec PyProof.Rows L2
end L3

namespace L5
open PySem PySem.Spec PyProof.Rows L2 L3
end L5

namespace L3
open PySem PySem.Spec PyProof.Rows L2
section
variable {X : Cx} {C : Addr} {bmB : List Value} {B newId initId : String}
theorem pmk_exc0 {x : Str} {p pos : Pos} (Fb : ExcBaseFacts B newId initId bmB) (q : PySem.W.excIn X.K C bmB newId = true) (hm : X.mg x = some (.ref C)) (hk : PySem.W.keepIn X.K (.ref C) = true) (hr : Raises X (.ref C)) (hg : Gl X x)
    (hdb : (x == ("__debug__" : Str)) = false := by decide) : PMk X (.Call (.Name x p) [] [] pos) (fun _ H Q => Q (.ref C) none H) := fun pins s σ H Q I h => by
  refine wpAny_Call_Name_kw (ld_glob I hg hm ?_ hdb)
  refine PySem.W.callWith_K0 I.kIn hk ?_
  obtain ⟨_, _, _, _, _, _, _, _, _, _, _, _, _, _, _, _, mN, hC, hN, hni, T⟩ := exc_obj I.kIn q
  refine wpAny_call_exc_subT (rest := []) Fb T hC hN hni (fun h2 e made => ?_) (by show 0 ≤ sizeLine; omega)
  exact mk_of I made hr h (I.hok.gone made.new)
end
def spI (C : Addr) (N : List Str) : Sp := fun vs H Q _ => ∃ (a : Addr) (ws : List V), vs = .ref a :: ws ∧ ws.length = N.length ∧ H a = some (exo a C none) ∧
  ∀ dx, H dx = none → dx ≠ a → Q .non (upd (upd H dx (exd dx (N.zip ws).reverse)) a (exo a C (some dx)))
section
variable {K : PySem.W.Frag} {C : Addr} {f g m : Str} {Q : VK} {H : Hp} {a : Addr} {v u : V}
theorem upd_swap {H : Hp} {a b : Addr} {o o1 o2 : HO} (h : b ≠ a) : upd (upd (upd H b o1) a o) b o2 = upd (upd H b o2) a o := by
  funext c
  by_cases e : c = b
  · subst e
    rw [upd_same, upd_ne h, upd_same]
  · rw [upd_ne e]
    by_cases e2 : c = a
    · subst e2
      rw [upd_same, upd_same]
    · rw [upd_ne e2, upd_ne e2, upd_ne e, upd_ne e]
end
section
variable {X : Cx} {CX : CXT} {j k n : Nat} {f C : Addr} {fd : FuncData} {ps ks : List Str} {sp : Sp} {E : XK} {W : WX} {x m : Str} {p pos apos np : Pos} {e o : Expr} {es : List Expr} {ta : TE} {t tk : TA} {kws : List Keyword} {pl : Sem Bool}
theorem run_gX {pins : List (Addr × Obj)} {σ : St} {H : Hp} {s : Shared} {Q : VK} {us us2 : List Value} {kw : List (Str × Value)} {vs : List V} (F : FnG X.prog X.w X.K X.mg X.base CX k f fd ps sp) (hg : X.A.guards = some []) (hr : Room k X.A) (hb : BindsTo s fd ⟨us, kw⟩ (ps.zip us2)) (hx : PassesAt CX X σ E)
    (I : Inv X pins σ H s) (r : Vals vs us2) (h : sp vs H Q E) : wpAny (model X.prog X.w) X.A (call (.ref f) us kw) (EP X pins σ Q) X.xe s :=
  wpAny_call (codeAny_mono (F.run X.A X.stack s H ⟨us, kw⟩ us2 vs Q E hg hr I.env0 hb r h) fun fin s2 hq => match fin, hq with
    | .error er, hq => hx pins H s er s2 I hq
    | .ok (.ret _), hq => I.after hq
    | .ok .next, hq => hq.elim
    | .ok .brk, hq => hq.elim
    | .ok .cont, hq => hq.elim)
def tCallX (sp : Sp) (W : WX) (t : TA) : TE := fun σ H Q => t σ H fun vs H1 => sp vs H1 Q (WE W σ)
theorem pe_cgX (c : Cg X.prog X.w X.K X.mg X.base (L2.CX X.prog X.w) k x sp) (tk : Takes X W) (hgd : X.A.guards = some []) (hr : Room j X.A) (hk : k ≤ j) (hg : Gl X x) (ha : PA X (e :: es) t)
    (hdb : (x == ("__debug__" : Str)) = false := by decide) (he : starEach (e :: es) X.env = (false, eval e X.env) :: starEach es X.env := by rfl) (hpl : (backTo pos (starEach es X.env)).any (·.1) = false := by rfl) :
    PE X (.Call (.Name x p) (e :: es) [] pos) (tCallX sp W t) := by
  obtain ⟨g, gd, qs, F, hm, kp, bd⟩ := c.ex
  refine ⟨fun pins s σ H Q I h => Call_ (ld_glob I hg hm ?_ hdb)⟩
  refine PySem.W.callWith_K (h₀ := X.base) I.ok.mod.kin kp (thn (ha.run pos pins s σ H _ I h) fun us s1 out => ?_) he hpl
  obtain ⟨vs, H1, I1, rv, q⟩ := out
  have hn : us.length = qs.length := by rw [← rv.length]; exact F.len _ _ _ _ q
  have bb := bd s1 us I1.kIn (by rw [List.append_nil]; exact hn)
  rw [List.append_nil] at bb
  exact ⟨I1.kIn, run_gX F hgd (hr.mono hk) bb (passAt tk σ) I1 rv q⟩
end
end L3

namespace L3
open PySem PySem.Spec PyProof.Rows L2
abbrev TSx := Addr → Value → Option Addr → TS
def clr (i : Option Nat) (D : Ends) : Ends := match i with
  | none => D
  | some i => { nx := fun τ G => D.nx (τ.set i none) G, rt := D.rt, bk := fun τ G => D.bk (τ.set i none) G, ct := fun τ G => D.ct (τ.set i none) G }
def putX (i : Option Nat) (a : Addr) (σ : St) : St := match i with
  | none => σ
  | some i => σ.set i (some (.ref a))
def wX (K : PySem.W.Frag) (Wo : WX) (D : Ends) : List (Value × Option Nat × TSx) → WX
  | [] => Wo
  | (c, i, ts) :: r => fun cls d σ H => ∃ b, PySem.W.exmOne K cls c = some b ∧ (b = true → ∀ a, H a = none → ts a cls d (clr i D) (putX i a σ) H) ∧ (b = false → wX K Wo D r cls d σ H)
def SuiteX (X : Cx) (b : List Stmt) (ts : TSx) : Prop := ∀ (a : Addr) (oe : Obj) (cls : Value) (d : Option Addr) (pn : List (Addr × Obj)), Zc cls d oe → (∃ vs, oe.data = .fields vs) → PSs (X.suite a ((a, oe) :: pn)) b (ts a cls d)
inductive HdX (X : Cx) : List ExceptHandler → List (Value × Option Nat × TSx) → Prop
  | nil : HdX X [] []
  | named {x n : Str} {c : Value} {i : Nat} {ts : TSx} {s₀ : Stmt} {su : List Stmt} {np q : Pos} {hds : List ExceptHandler} {l : List (Value × Option Nat × TSx)} (hc : Names X x c) (hi : X.N[i]? = some n) (hl : X.env.kindOf n = some .local) (hs : SuiteX X (s₀ :: su) ts) (r : HdX X hds l) :
      HdX X (.ExceptHandler (some (.Name x np)) (some n) (s₀ :: su) q :: hds) ((c, some i, ts) :: l)
  | bare {x : Str} {c : Value} {ts : TSx} {s₀ : Stmt} {su : List Stmt} {np q : Pos} {hds : List ExceptHandler} {l : List (Value × Option Nat × TSx)} (hc : Names X x c) (hs : SuiteX X (s₀ :: su) ts) (r : HdX X hds l) :
      HdX X (.ExceptHandler (some (.Name x np)) none (s₀ :: su) q :: hds) ((c, none, ts) :: l)
section
variable {X : Cx} {body : List Stmt} {h₀ : ExceptHandler} {hds : List ExceptHandler} {l : List (Value × Option Nat × TSx)} {pos : Pos} {tb : WX → TS} {Wo : WX} {pins : List (Addr × Obj)}
theorem FlyingZ.notFrame {B h : Heap} {fs : List Env} {a : Addr} {Z : Obj → Prop} (x : HandSPX.FlyingZ B fs a Z h) : a ∉ frs fs := fun hm => by
  obtain ⟨_, vs, e1, _, e2⟩ := x.there
  obtain ⟨_, o, e3, no⟩ := x.2.2.1.mem hm
  obtain rfl := Option.some.inj (e1.symm.trans e3)
  exact no vs e2
theorem sp_back {xe : Value → Shared → Prop} {D : Ends} {f : Flow} {s : Shared} (ok : X.Ok) (h : SP (X.tr (X.pn ++ pins) xe) [] D f s) : SP X pins D f s := by
  cases f with
  | ret u => exact let ⟨v, τ, G, J, r, q⟩ := h; ⟨v, τ, G, J.ofTry ok, r, q⟩
  | next => exact let ⟨τ, G, J, q⟩ := h; ⟨τ, G, J.ofTry ok, q⟩
  | brk => exact let ⟨τ, G, J, q⟩ := h; ⟨τ, G, J.ofTry ok, q⟩
  | cont => exact let ⟨τ, G, J, q⟩ := h; ⟨τ, G, J.ofTry ok, q⟩
abbrev seen (X : Cx) (hs : List ExceptHandler) (pins : List (Addr × Obj)) (D : Ends) : Value → Shared → Prop := fun e s₁ =>
  wpAny (model X.prog X.w) X.A (noteFrame e X.env) (fun _ s₂ => wpAny (model X.prog X.w) X.A (setFlight e none) (fun _ s₃ => wpAny (model X.prog X.w) X.A (handleBy e X.env hs) (SP X pins D) X.xe s₃) X.xe s₂) X.xe s₁
theorem clauses_ok {D : Ends} {σ : St} {H : Hp} {B : Heap} {sI s' : Shared} {h3 : Heap} {a : Addr} {cls : Value} {d : Option Addr} (hst : X.stack = X.env :: X.outer) (hf : X.env.frame = some X.env.locals) (hN : X.N.Nodup) (tk : Takes X Wo) (J : Inv X pins σ H sI)
    (nb : ∀ b o, sI.heap.get? b = some o → b ∉ frs X.stack → B.get? b = some o) (up : sI.heap.UpToSlots h3) (fl : HandSPX.FlyingZ B (X.env :: X.outer) a (Zc cls d) h3) (na : H a = none) (os : s'.os = sI.os) (ag : AllBare s'.gens) :
    ∀ {hs : List ExceptHandler} {l : List (Value × Option Nat × TSx)}, HdX X hs l → wX X.K Wo D l cls d σ H → wpAny (model X.prog X.w) X.A (handleBy (.ref a) X.env hs) (SP X pins D) X.xe { s' with heap := h3 } := by
  have nfr := FlyingZ.notFrame fl
  have nL : a ≠ X.env.locals := fun e => nfr (List.mem_filterMap.mpr ⟨X.env, List.mem_cons_self, e ▸ hf⟩)
  have nF : a ∉ X.fs := fun hm => let ⟨v, hv, e⟩ := List.mem_filterMap.mp hm; nfr (List.mem_filterMap.mpr ⟨v, List.mem_cons_of_mem _ hv, e⟩)
  -- on the ground, over any heap that bears the flight
  have land : ∀ {h : Heap}, HandSPX.FlyingZ B (X.env :: X.outer) a (Zc cls d) h → sI.heap.UpToSlots h → Inv X pins σ H { s' with heap := h } := fun f u => J.landed nb f.1 u os ag
  obtain ⟨oz, fz, gz, cz, dz⟩ := fl.there
  have G3 := (land fl up).suite gz dz na nL nF
  -- the clause's class, asked
  have ask : ∀ {x : Str} {c : Value} {np : Pos} {Q : Value → Shared → Prop} {E : Value → Shared → Prop}, Names X x c → Q c { s' with heap := h3 } → wpAny (model X.prog X.w) (X.A.mark (some (.ref a))) (eval (.Name x np) X.env) Q E { s' with heap := h3 } := fun hc q => by
    rcases hc with ⟨g1, g2, g3 | ⟨g3, g4, g5⟩⟩
    · exact ld_glob (X := X.suite a ((a, oz) :: (X.pn ++ pins))) G3 g1 g3 q g2
    · exact ld_blt (X := X.suite a ((a, oz) :: (X.pn ++ pins))) G3 g1 g3 g4 q g5 g2
  have tyL : PySem.W.Looks (model X.prog X.w) h3 (typeOf (.ref a)) cls := fun A Q E s k q => wpAny_typeOf_ref (k _ _ gz) (by rw [cz.1]; exact q)
  intro hs l hk
  induction hk with
  | nil =>
    intro w
    refine wpAny_handleBy_nil ?_
    obtain ⟨_, _, _, _, _, T, _, _, q1, _, q2, q3, _⟩ := id fl
    unfold PySem.passOn
    refine wpAny_bind (wpAny_field q1 q2 q3 ?_)
    rw [if_neg (show ¬ ((Value.ref T == Value.none) = true) from fun z => by cases z)]
    have fly : wpAny (model X.prog X.w) X.A (setFlight (.ref a) X.env.frame) (fun _ s4 => wpAny (model X.prog X.w) X.A (throw (.ref a) : Sem Flow) (SP X pins D) X.xe s4) X.xe { s' with heap := h3 } := by
      rw [hf]
      refine HandSPX.setFlight_upZ fl fun h4 hh u4 => wpAny_throw (tk _ _ ⟨a, B, sI, pins, σ, H, cls, d, rfl, J, nb, up.trans u4, .inr (.inr ?_), na, os, ag, w⟩)
      rw [hst]
      exact hh
    first
      | exact wpAny_bind fly
      | exact wpAny_bind (wpAny_pure (wpAny_bind fly))
  | @named x n c i ts s₀ su np q hds l2 hc hi hl hsu r ih =>
    rintro ⟨b, hb, yes, no⟩
    refine wpAny_handleBy_cons (codeAny_handlers_test (ask hc ((PySem.W.exm_one (M := model X.prog X.w) (land fl up).kIn tyL hb).here ?_))) (fun z => nomatch z)
    cases b with
    | false => exact ih (no rfl)
    | true =>
      refine codeAny_handlers_suite_as (HandSPX.lands_againZ fl fun h4 fl4 u4 => ?_)
      obtain ⟨ow, fw, gw, cw, dw⟩ := fl4.there
      have G4 := (land fl4 (up.trans u4)).suite gw dw na nL nF
      refine store_ok (X := X.suite a ((a, ow) :: (X.pn ++ pins))) (v := .ref a) G4 hN hi (.inl hl) rfl (fun s5 G5 => ?_) (.inr hl)
      refine wpAny_mono ((hsu a ow cls d (X.pn ++ pins) cw ⟨_, dw⟩).run [] s5 _ H (clr (some i) D) G5 (yes rfl a na)) (fun fw s6 hsp => ?_) (fun _ _ z => False.elim z)
      have go : ∀ {τ : St} {G : Hp} {Q : Shared → Prop}, Inv (X.suite a ((a, ow) :: (X.pn ++ pins))) [] τ G s6 → (∀ s7, Inv X pins (τ.set i none) G s7 → Q s7) →
          wpAny (model X.prog X.w) X.A (do bindName X.env n .none; unbindBehindTheSuite X.env n q) (fun _ s7 => Q s7) X.xe s6 := fun S6 k => gone_ok (S6.unsuite J.ok) hN hi hl k
      cases fw with
      | ret u => exact let ⟨v, τ, G, S6, r6, k⟩ := hsp; go S6 fun s7 J7 => ⟨v, _, G, J7, r6, k⟩
      | next => exact let ⟨τ, G, S6, k⟩ := hsp; go S6 fun s7 J7 => ⟨_, G, J7, k⟩
      | brk => exact let ⟨τ, G, S6, k⟩ := hsp; go S6 fun s7 J7 => ⟨_, G, J7, k⟩
      | cont => exact let ⟨τ, G, S6, k⟩ := hsp; go S6 fun s7 J7 => ⟨_, G, J7, k⟩
  | @bare x c ts s₀ su np q hds l2 hc hsu r ih =>
    rintro ⟨b, hb, yes, no⟩
    refine wpAny_handleBy_cons (codeAny_handlers_test (ask hc ((PySem.W.exm_one (M := model X.prog X.w) (land fl up).kIn tyL hb).here ?_))) (fun z => nomatch z)
    cases b with
    | false => exact ih (no rfl)
    | true =>
      refine codeAny_handlers_suite (HandSPX.lands_againZ fl fun h4 fl4 u4 => ?_)
      obtain ⟨ow, fw, gw, cw, dw⟩ := fl4.there
      have G4 := (land fl4 (up.trans u4)).suite gw dw na nL nF
      refine wpAny_mono ((hsu a ow cls d (X.pn ++ pins) cw ⟨_, dw⟩).run [] _ _ H (clr none D) G4 (yes rfl a na)) (fun fw s6 hsp => ?_) (fun _ _ z => False.elim z)
      cases fw with
      | ret u => exact let ⟨v, τ, G, S6, r6, k⟩ := hsp; ⟨v, τ, G, S6.unsuite J.ok, r6, k⟩
      | next => exact let ⟨τ, G, S6, k⟩ := hsp; ⟨τ, G, S6.unsuite J.ok, k⟩
      | brk => exact let ⟨τ, G, S6, k⟩ := hsp; ⟨τ, G, S6.unsuite J.ok, k⟩
      | cont => exact let ⟨τ, G, S6, k⟩ := hsp; ⟨τ, G, S6.unsuite J.ok, k⟩
theorem ps_tryX (hst : X.stack = X.env :: X.outer) (hf : X.env.frame = some X.env.locals) (hN : X.N.Nodup) (tk : Takes X Wo)
    (hb : ∀ (W : WX) (pn : List (Addr × Obj)) (xe : Value → Shared → Prop), Takes (X.tr pn xe) W → PassesOwn (model X.prog X.w) X.A X.env xe → PSs (X.tr pn xe) body (tb W))
    (hh : HdX X (h₀ :: hds) l) : PS X (.Try body (h₀ :: hds) [] [] pos) (fun D σ H => tb (wX X.K Wo D l) D σ H) := ⟨fun pins s σ H D I hq => by
  have tks : Takes (X.tr (X.pn ++ pins) (seen X (h₀ :: hds) pins D)) (wX X.K Wo D l) := fun u s' x => by
    obtain ⟨a, B, sI, pins', τ, G, cls, d, rfl, J', nb, up, sky, na, os, ag, w⟩ := x
    have sky2 : Sky B (X.env :: X.outer) a (Zc cls d) X.env.locals s'.heap := hst ▸ sky
    exact Sky.land Zc.steady (by rw [I.ok.frames, hst]) hf sky2 fun h3 fl u3 => clauses_ok hst hf hN tk (J'.ofTry I.ok) nb (up.trans u3) fl na os ag hh w
  refine wpAny_Try_except (wpAny_mono ((hb _ _ _ tks PassesOwn.looking).run [] s σ H D (I.toTry _) hq) (fun fw s1 hsp => ?_) fun _ _ he => he)
  have hs2 := sp_back I.ok hsp
  cases fw with
  | next => exact wpAny_execs_nil hs2
  | ret u => exact hs2
  | brk => exact hs2
  | cont => exact hs2⟩
end
end L3

namespace L3
open PySem PySem.Spec PyProof.Rows L2
def XdAt (H : Hp) (d : Option Addr) : Prop := d = none ∨ ∃ dd fs, d = some dd ∧ H dd = some (.xd fs)
inductive IsA (K : PySem.W.Frag) (cls : Value) (H : Hp) : V → Bool → Prop
  | one {c : V} {cv : Value} {b : Bool} : (∀ u, RelV c u → u = cv) → PySem.W.kitOne K cls cv = some b → IsA K cls H c b
  | tup {p : Addr} {cs : List V} {b : Bool} : SqT K H p cs → (∀ us, Vals cs us → PySem.W.kitAny K cls us = some b) → IsA K cls H (.ref p) b
def rIsX (K : PySem.W.Frag) (a : Addr) (cls : Value) (d : Option Addr) : List V → Hp → VK → Prop := fun xs H Q => ∃ (c : V) (b : Bool) (C : Addr), xs = [.ref a, c] ∧ cls = .ref C ∧ ExcC K C ∧ XdAt H d ∧ IsA K cls H c b ∧ Q (.bl b) H
end L3

namespace L3
open PySem PySem.Spec PyProof.Rows L2
structure CE0 (K : PySem.W.Frag) (mg : Str → Option Value) (x : Str) (C : Addr) : Prop where
  at_ : mg x = some (.ref C)
  kp : PySem.W.keepIn K (.ref C) = true
  ex : PySem.W.excIn K C [.type "ValueError", .type "Exception", .type "BaseException", .type "object"] "ValueError.__new__" = true
  sub : PySem.W.subIn K (.ref C) (.type "BaseException") = some true
  ty : PySem.W.typeIn K (.ref C) = some (.type "type")
structure CEF (P : Program) (w : World) (K : PySem.W.Frag) (mg : Str → Option Value) (base : Heap) (k : Nat) (x : Str) (C : Addr) (N : List Str) : Prop where
  at_ : mg x = some (.ref C)
  T : OexC K C
  ex : ∃ (f : Addr) (fd : FuncData) (ps : List Str), PySem.W.findIn K (.ref C) "__init__" = some (some (.ref f)) ∧ PySem.W.typeIn K (.ref f) = some (.type "function") ∧ FnOk P w K mg base CX0 k f fd ps (spI C N) ∧ Binds K fd ps []
theorem CEF.mono {P : Program} {w : World} {K : PySem.W.Frag} {mg : Str → Option Value} {base : Heap} {j k : Nat} {x : Str} {C : Addr} {N : List Str} (c : CEF P w K mg base j x C N) (h : j ≤ k) : CEF P w K mg base k x C N :=
  ⟨c.at_, c.T, let ⟨f, fd, ps, a, b, F, d⟩ := c.ex; ⟨f, fd, ps, a, b, F.mono h, d⟩⟩
def tRs0 (C : Addr) (W : WX) : TS := fun _ σ H => W (.ref C) none σ H
def tRsF (C : Addr) (N : List Str) (t : TA) (W : WX) : TS := fun _ σ H => tMkO C (spI C N) [] t σ H fun cls d H' => W cls d σ H'
section
variable {X : Cx} {j k : Nat} {C : Addr} {N : List Str} {W : WX} {x : Str} {p q pos : Pos} {e : Expr} {es : List Expr} {t : TA}
theorem ps_rs0 (tk : Takes X W) (c : CE0 X.K X.mg x C) (hg : Gl X x) (hc : X.calm = true := by rfl) (hdb : (x == ("__debug__" : Str)) = false := by decide) : PS X (.Raise (some (.Call (.Name x p) [] [] q)) none pos) (tRs0 C W) :=
  ps_raise hc tk (pmk_exc0 PySem.F.excBase_ValueError c.ex c.at_ c.kp (raises_own c.sub c.ty) hg hdb)
end
end L3

namespace L5
open PySem PySem.Spec PyProof.Rows L2 L3
abbrev AXE := Addr → List Str → List PV → Sto → Prop
abbrev AX := Addr → List Str → List PV → AEnv → Sto → Prop
abbrev ALX := List PV → Sto → AV → AXE → Prop
structure XR (K : PySem.W.Frag) (I : Hp) (ad : List Addr) (cls : Value) (d : Option Addr) (C : Addr) (N : List Str) (xs : List PV) : Prop where
  cl : cls = .ref C
  at_ : ∀ a, VR K I ad (.ref a) (.exc a d C N xs)
section
variable (K : PySem.W.Frag) (W : Wd)
def XC (A : AX) (Q : WX) : Prop := ∀ W' S σ ρ H cls d C N xs, W.Le W' → In K W' S H → ER K W' σ ρ → XR K W'.I W'.ad cls d C N xs → A C N xs ρ S → Q cls d σ H
def XCE (A : AXE) (Q : XK) : Prop := ∀ W' S H cls d C N xs, W.Le W' → In K W' S H → XR K W'.I W'.ad cls d C N xs → A C N xs S → Q cls d H
end
section
variable (K : PySem.W.Frag)
structure SEX (te : WX → TE) (f : AX → ATE) : Prop where
  run : ∀ {W S σ ρ H Q P Wx A}, In K W S H → ER K W σ ρ → XC K W A Wx → f A ρ S P → CE K W P Q → te Wx σ H Q
structure SSX (t : WX → TS) (f : AX → ATS) : Prop where
  run : ∀ {W S σ ρ H D D' Wx A}, In K W S H → ER K W σ ρ → XC K W A Wx → f A D' ρ S → SEnds K W D D' → t Wx D σ H
end
section
variable {K : PySem.W.Frag} {W W' : Wd} {S : Sto} {H : Hp} {P : AV} {Q : VK} {I : Hp} {ad : List Addr}
theorem XC.up {A : AX} {Q : WX} (l : W.Le W') (c : XC K W A Q) : XC K W' A Q := fun W2 S σ ρ H cls d C N xs k I E x h => c W2 S σ ρ H cls d C N xs (l.trans k) I E x h
variable {te ta tb : TE} {fe fa fb : ATE} {t : TA} {f : ATA} {ts us : TS} {fs gs : ATS} {tt : TT} {ft : ATT}
variable {xe xa xb : WX → TE} {ge ga gb : AX → ATE} {xt xk : WX → TA} {gt gk : AX → ATA} {x y : WX → TS} {g h : AX → ATS}
theorem ssx_p (k : SS K ts fs) : SSX K (fun _ => ts) (fun _ => fs) := ⟨fun I E _ h c => k.run I E h c⟩
def cSpX (K : PySem.W.Frag) (g : ALX) : Sp := fun vs H Q E => ∃ W S ps P A, In K W S H ∧ VRs K W.I W.ad vs ps ∧ g ps S P A ∧ CE K W P Q ∧ XCE K W A E
@[reducible] def aCBX (A : AX) (g : ALX) (f : ATA) : ATE := fun ρ S P => f ρ S fun ps S1 => g ps S1 P fun C N xs S2 => A C N xs ρ S2
theorem XC.ex {A : AX} {Wx : WX} {σ : St} {ρ : AEnv} (X : XC K W A Wx) (E : ER K W σ ρ) : XCE K W (fun C N xs S => A C N xs ρ S) (WE Wx σ) := fun W2 S2 H2 cls d C N xs l I2 r h => X _ _ _ _ _ _ _ _ _ _ l I2 (E.up l.toLo) r h
theorem sex_call {q : ALX} (ha : SA K t f) : SEX K (fun W => tCallX (cSpX K q) W t) (fun A => aCBX A q f) := ⟨fun {W S σ ρ H Q P Wx A} I E X h c =>
  ha.run I E h fun W1 S1 vs ps H1 l1 I1 r1 h1 => ⟨W1, S1, ps, P, _, I1, r1, h1, c.up l1, (X.up l1).ex (E.up l1.toLo)⟩⟩
theorem ssx_cons (h1 : SSX K x g) (h2 : SSX K y h) : SSX K (fun W => tSeq (x W) (y W)) (fun A => aSeq (g A) (h A)) := ⟨fun I E X k c =>
  h1.run I E X k ⟨fun W1 S1 σ1 ρ1 H1 l I1 E1 k1 => h2.run I1 E1 (X.up l) k1 (c.up l), c.rt, c.bk, c.ct⟩⟩
theorem ssx_join (h1 : SSX K x g) (h2 : SSX K y h) : SSX K (fun W => tJoin (x W) (y W)) (fun A => aJoin (g A) (h A)) := ⟨fun {W S σ ρ H D D' Wx A} I E X ⟨M, k1, k2⟩ c =>
  ⟨fun τ G => ∃ W' S' ρ', W.Le W' ∧ In K W' S' G ∧ ER K W' τ ρ' ∧ M ρ' S',
    h1.run I E X k1 ⟨fun W1 S1 σ1 ρ1 H1 l I1 E1 m => ⟨W1, S1, ρ1, l, I1, E1, m⟩, c.rt, c.bk, c.ct⟩,
    fun τ G ⟨W', S', ρ', l, I', E', m⟩ => h2.run I' E' (X.up l) (k2 ρ' S' m) (c.up l)⟩⟩
theorem ssx_expr (he : SEX K xe ge) : SSX K (fun W => tDrop (xe W)) (fun A => aDrop (ge A)) := ⟨fun I E X k c =>
  he.run I E X k fun W1 S1 v p H1 l1 I1 r1 h1 => c.nx _ _ _ _ _ l1 I1 (E.up l1.toLo) h1⟩
theorem ssx_if (hc : STs K tt ft) (h1 : SSX K x g) (h2 : SSX K y h) : SSX K (fun W => tIfS tt (x W) (y W)) (fun A => aIfS ft (g A) (h A)) := ⟨fun I E X k c =>
  hc.run I E k fun W1 S1 b H1 l1 I1 h3 => by
    cases b with
    | true => rw [if_pos rfl]; exact h1.run I1 (E.up l1.toLo) (X.up l1) (h3.t rfl) (c.up l1)
    | false => rw [if_neg Bool.false_ne_true]; exact h2.run I1 (E.up l1.toLo) (X.up l1) (h3.f rfl) (c.up l1)⟩
@[reducible] def aRs0 (C : Addr) (A : AX) : ATS := fun _ ρ S => A C [] [] ρ S
theorem ssx_raise0 {C : Addr} : SSX K (fun W => tRs0 C W) (fun A => aRs0 C A) := ⟨fun I E X k c => X _ _ _ _ _ _ _ _ _ _ (.refl _) I E ⟨rfl, fun a => .exc0 a _⟩ k⟩
@[reducible] def aRsF (C : Addr) (N : List Str) (f : ATA) (A : AX) : ATS := fun _ ρ S => f ρ S fun ps S1 => ps.length = N.length ∧ A C N.reverse ps.reverse ρ S1
theorem upd_back {H : Hp} {a dx : Addr} {o1 o2 o3 o4 : HO} (ha : H a = none) (hn : dx ≠ a) : upd (del (upd (upd (upd H a o1) dx o2) a o3) a) dx o4 = upd H dx o4 := by
  funext b
  by_cases e : b = dx
  · subst e; rw [upd_same, upd_same]
  · rw [upd_ne e, upd_ne e]
    by_cases e2 : b = a
    · subst e2; rw [del_same, ha]
    · rw [del_ne e2, upd_ne e2, upd_ne e, upd_ne e2]
theorem ssx_raise {C : Addr} {N : List Str} (hn : N.Nodup) (hz : N.length ≤ 900) (ht : SA K t f) : SSX K (fun W => tRsF C N t W) (fun A => aRsF C N f A) := ⟨fun {W S σ ρ H D D' Wx A} I E X k c =>
  ht.run I E k fun W1 S1 vs ps H1 l1 I1 r1 ⟨hl, h1⟩ => by
    have hv : vs.length = N.length := by rw [r1.length]; exact hl
    refine ⟨by omega, fun a ha => ⟨a, vs, by rw [List.append_nil], hv, upd_same, fun dx hd hne => ⟨rfl, dx, (N.zip vs).reverse, upd_same, by rw [upd_ne hne, upd_same], ?_, ?_⟩⟩⟩
    · rw [upd_ne hne] at hd
      exact hd
    · rw [upd_ne hne] at hd
      rw [upd_back ha hne]
      obtain ⟨I2, l2⟩ := I1.keep1 (o := .xd (N.zip vs).reverse) hd
      refine X _ _ _ _ _ _ _ _ _ _ (l1.trans l2) I2 (E.up (l1.trans l2).toLo) ⟨rfl, fun b => .exc (fs := (N.zip vs).reverse) upd_same ?_ ?_ ?_⟩ h1
      · rw [List.map_reverse, List.map_fst_zip (by omega)]
      · exact (List.reverse_perm N).nodup_iff.mpr hn
      · rw [List.map_reverse, List.map_snd_zip (by omega)]
        exact (r1.reverse).up l2.toLo⟩
@[reducible] def clrA (i : Option Nat) (D : AEnds) : AEnds := match i with
  | none => D
  | some i => { nx := fun ρ S => D.nx (hide ρ i) S, rt := D.rt, bk := fun ρ S => D.bk (hide ρ i) S, ct := fun ρ S => D.ct (hide ρ i) S }
@[reducible] def putA (i : Option Nat) (p : PV) (ρ : AEnv) : AEnv := match i with
  | none => ρ
  | some i => put ρ i p
structure ACl where
  tab : Addr → Bool → Prop
  i : Option Nat
  f : Addr → Option Addr → Addr → ATS
def aCls (A : AX) (D : AEnds) : List ACl → AX
  | [] => A
  | q :: r => fun C N xs ρ S => ∃ b, q.tab C b ∧ (b = true → ∀ a d, q.f a d C (clrA q.i D) (putA q.i (.exc a d C N xs) ρ) S) ∧ (b = false → aCls A D r C N xs ρ S)
inductive SCls (K : PySem.W.Frag) : List (Value × Option Nat × TSx) → List ACl → Prop
  | nil : SCls K [] []
  | cons {c : Value} {i : Option Nat} {tx : TSx} {tab : Addr → Bool → Prop} {fx : Addr → Option Addr → Addr → ATS} {l : List (Value × Option Nat × TSx)} {m : List ACl} (ht : ∀ C b, tab C b → PySem.W.exmOne K (.ref C) c = some b) (hs : ∀ a d cls C, cls = .ref C → SS K (tx a cls d) (fx a d C)) (r : SCls K l m) :
      SCls K ((c, i, tx) :: l) (⟨tab, i, fx⟩ :: m)
theorem SEnds.clr {D : Ends} {D' : AEnds} (c : SEnds K W D D') (i : Option Nat) : SEnds K W (clr i D) (clrA i D') := by
  cases i with
  | none => exact c
  | some i => exact ⟨fun W1 S1 σ ρ H l I E h => c.nx _ _ _ _ _ l I (E.hide i) h, c.rt, fun W1 S1 σ ρ H l I E h => c.bk _ _ _ _ _ l I (E.hide i) h, fun W1 S1 σ ρ H l I E h => c.ct _ _ _ _ _ l I (E.hide i) h⟩
theorem SCls.xc {l : List (Value × Option Nat × TSx)} {m : List ACl} (h : SCls K l m) {D : Ends} {D' : AEnds} {A : AX} {Wx : WX} (X : XC K W A Wx) (c : SEnds K W D D') : XC K W (aCls A D' m) (wX K Wx D l) := by
  induction h with
  | nil => exact X
  | @cons cc i tx tab fx l m ht hs r ih =>
    intro W1 S1 σ ρ H cls d C N xs l1 I1 E1 x hh
    obtain ⟨b, hb, yes, no⟩ := hh
    obtain ⟨rfl, xa⟩ := id x
    refine ⟨b, ht C b hb, fun e a _ => ?_, fun e => ih _ _ _ _ _ _ _ _ _ _ l1 I1 E1 x (no e)⟩
    refine (hs a d _ C rfl).run (ρ := putA i (.exc a d C N xs) ρ) I1 ?_ (yes e a d) ((c.up l1).clr i)
    cases i with
    | none => exact E1
    | some i => exact E1.put (xa a) i
@[reducible] def aTry (b : AX → ATS) (l : List ACl) (A : AX) : ATS := fun D ρ S => b (aCls A D l) D ρ S
@[reducible] def noAX : AX := fun _ _ _ _ _ => False
theorem ss_try {l : List (Value × Option Nat × TSx)} {m : List ACl} (hb : SSX K x g) (hc : SCls K l m) : SS K (fun D σ H => x (wX K (fun _ _ _ _ => False) D l) D σ H) (aTry g m noAX) := ⟨fun I E k c =>
  hb.run I E (hc.xc (A := noAX) (Wx := fun _ _ _ _ => False) (fun _ _ _ _ _ _ _ _ _ _ _ _ _ _ h => h.elim) c) k c⟩
@[reducible] def excF : List Str → List PV → Str → Option PV
  | n :: N, x :: xs, f => if f = n then some x else excF N xs f
  | _, _, _ => none
@[reducible] def aXf (a : Addr) (d : Option Addr) (C C0 : Addr) (f : Str) (e : ATE) : ATE := fun ρ S P => e ρ S fun x S1 => C = C0 ∧ ∃ N xs v, x = .exc a d C N xs ∧ excF N xs f = some v ∧ P v S1
theorem excF_at {f : Str} : ∀ {N : List Str} {fs : List (Str × V)} {xs : List PV} {v : PV}, fs.map Prod.fst = N → VRs K I ad (fs.map Prod.snd) xs → excF N xs f = some v → ∃ u, fs.lookup f = some u ∧ VR K I ad u v
  | [], fs, xs, v, e, r, h => by unfold excF at h; cases h
  | n :: N, [], xs, v, e, r, h => by cases e
  | n :: N, (m, u) :: fs, xs, v, e, r, h => by
    obtain ⟨e1, e2⟩ := List.cons.inj e
    have e1 : m = n := e1
    subst e1
    cases r with
    | cons r1 r2 =>
      unfold excF at h
      by_cases q : f = m
      · rw [if_pos q] at h
        cases h
        subst q
        exact ⟨u, by simp [List.lookup], r1⟩
      · rw [if_neg q] at h
        obtain ⟨w, hw, rw'⟩ := excF_at (N := N) e2 r2 h
        exact ⟨w, by rw [List.lookup, show (f == m) = false by simpa using q]; exact hw, rw'⟩
theorem se_xf {a : Addr} {d : Option Addr} {cls : Value} {C C0 : Addr} {n : Str} (hc : cls = .ref C) (he : SE K te fe) : SE K (tXf a cls d C0 n te) (aXf a d C C0 n fe) := hc ▸ ⟨fun I E h c =>
  he.run I E h fun W1 S1 v p H1 l1 I1 r1 ⟨ec, N, xs, u, ep, hu, h1⟩ => by
    subst ec
    subst ep
    cases r1 with
    | exc0 => unfold excF at hu; cases hu
    | exc hd hN hnd hs =>
      obtain ⟨w, hw, rw'⟩ := excF_at hN hs hu
      exact ⟨rfl, rfl, _, _, w, rfl, I1.exH _ _ hd, hw, c _ _ _ _ _ l1 I1 rw' h1⟩⟩
@[reducible] def aIsX (a : Addr) (d : Option Addr) (C : Addr) (tab : Addr → Bool → Prop) (e : ATE) : ATE := fun ρ S P => e ρ S fun x S1 => ∃ N xs b, x = .exc a d C N xs ∧ tab C b ∧ P (.bl b) S1
theorem xd_of {a : Addr} {d : Option Addr} {C : Addr} {N : List Str} {xs : List PV} {v : V} (I : In K W S H) (r : VR K W.I W.ad v (.exc a d C N xs)) : v = .ref a ∧ XdAt H d := by
  cases r with
  | exc0 => exact ⟨rfl, .inl rfl⟩
  | exc hd _ _ _ => exact ⟨rfl, .inr ⟨_, _, rfl, I.exH _ _ hd⟩⟩
theorem se_isX1 {a : Addr} {d : Option Addr} {cls : Value} {C : Addr} {tab : Addr → Bool → Prop} {cv : V} {cu : Value} (hc : cls = .ref C) (hcv : ∀ u, RelV cv u → u = cu) (hE : ∀ C b, tab C b → ExcC K C ∧ PySem.W.kitOne K (.ref C) cu = some b) (he : SE K te fe) :
    SE K (tCB (rIsX K a cls d) (tCons te (tCons (tC cv) tNil))) (aIsX a d C tab fe) := hc ▸ ⟨fun I E h c =>
  he.run I E h fun W1 S1 v p H1 l1 I1 r1 ⟨N, xs, b, ep, hb, h1⟩ => by
    subst ep
    obtain ⟨rfl, hx⟩ := xd_of I1 r1
    obtain ⟨k1, k2⟩ := hE C b hb
    exact ⟨cv, b, C, rfl, rfl, k1, hx, .one hcv k2, c _ _ _ _ _ l1 I1 (.bl b) h1⟩⟩
theorem okX {P : Program} {w : World} {mg : Str → Option Value} {base : Heap} {x qual : Str} {st : Stmt} {f : Addr} {fd : FuncData} {N ps : List Str} {k : Nat} {asp : ALX} {t : WX → TS} {fs : AX → ATS} (F : Fun K x qual st f fd) (Sc : FnScope N ps (defScope st))
    (hp : ∀ (cdv : Value) (A : Around) (outer : List Env) (s : Shared) (H : Hp) (E : XK), (A.deeper (envOfC qual (defScope st) s.heap.objs.size f cdv)).guards = some [] → Room k (A.deeper (envOfC qual (defScope st) s.heap.objs.size f cdv)) → ∀ Wx, Takes (cxOf (L2.CX P w) P w K mg base N qual (defScope st) f cdv A outer s H E) Wx → PSs (cxOf (L2.CX P w) P w K mg base N qual (defScope st) f cdv A outer s H E) (defBody st) (t Wx))
    (hs : SSX K t fs) (hN : ps.length ≤ N.length) (hlen : ∀ vs S R A, asp vs S R A → vs.length = ps.length) (h : ∀ vs S R A, asp vs S R A → fs (fun C M xs _ S => A C M xs S) { nx := fun _ S => R .non S, rt := R } (startA N vs) S) : FnG P w K mg base (L2.CX P w) (k + 1) f fd ps (cSpX K asp) := by
  obtain ⟨oc, od, kV, doc, pm, an, cdv, ct, osl, rfl, lk, hcd⟩ := F.ex
  refine fnG_of lk hcd Sc (fun vs H Q E ⟨W, S, qs, R, A, _, r, h3, _⟩ => by rw [r.length]; exact hlen _ _ _ _ h3) fun A outer s H vs Q E hg hr hsp => ?_
  refine ⟨t (fun cls d _ H => E cls d H), hp cdv A outer s H E hg hr _ (takes_of rfl rfl rfl rfl), ?_⟩
  obtain ⟨W, S, qs, R, A2, I, r, h3, c, xc⟩ := hsp
  refine hs.run (A := fun C M xs _ S => A2 C M xs S) I (ER.start r (by rw [r.length, hlen _ _ _ _ h3]; exact hN)) (fun W' S' σ ρ H' cls d C M xs l I' E' x k => xc _ _ _ _ _ _ _ _ l I' x k) (h _ _ _ _ h3) ⟨fun W' S' σ ρ H' l I' _ k => c _ _ _ _ _ l I' .non k, c, fun _ _ _ _ _ _ _ _ k => k.elim, fun _ _ _ _ _ _ _ _ k => k.elim⟩
end
end L5

namespace L5
open PySem PySem.Spec PyProof.Rows L2 L3
def pkX {K : PySem.W.Frag} {t : WX → TS} {f : AX → ATS} (h : SSX K t f) : {tf : (WX → TS) × (AX → ATS) // SSX K tf.1 tf.2} := ⟨(t, f), h⟩
theorem kit_refB {K : PySem.W.Frag} {C C' : Addr} {b : Bool} (hc : PySem.W.isClsIn K C = true) (ht : PySem.W.typeIn K (.ref C) = some (.type "type")) (hs : PySem.W.subIn K (.ref C') (.ref C) = some b) (hn : C' = C → b = true) : PySem.W.kitOne K (.ref C') (.ref C) = some b := by
  unfold PySem.W.kitOne
  split
  · rename_i h
    have e : C' = C := Value.ref.inj (beq_iff_eq.mp h)
    rw [hn e]
  · show (if ((PySem.W.clsIn K C).isSome && PySem.W.typeIn K (.ref C) == some (.type "type")) = true then PySem.W.subIn K (.ref C') (.ref C) else none) = some b
    have hc' : (PySem.W.clsIn K C).isSome = true := hc
    rw [hc', ht, hs]
    rfl
section
variable {K : PySem.W.Frag} {te : TE} {fe : ATE}
theorem se_isXo {a : Addr} {d : Option Addr} {cls : Value} {C D : Addr} {tab : Addr → Bool → Prop} {xtab : Addr → Prop} (hc : cls = .ref C) (hx : ∀ C, xtab C → ExcC K C) (hk : ∀ C b, tab C b → PySem.W.kitOne K (.ref C) (.ref D) = some b) (he : SE K te fe) :
    SE K (tCB (rIsX K a cls d) (tCons te (tCons (tC (.ref D)) tNil))) (aIsX a d C (fun C b => xtab C ∧ tab C b) fe) :=
  se_isX1 hc (fun u h => h) (fun C b h => ⟨hx C h.1, hk C b h.2⟩) he
end
end L5
namespace L3
open PySem PySem.Spec PyProof.Rows L2
theorem ps_tryXK {X : Cx} {K : PySem.W.Frag} {body : List Stmt} {h₀ : ExceptHandler} {hds : List ExceptHandler} {l : List (Value × Option Nat × TSx)} {pos : Pos} {tb : WX → TS} {Wo : WX} (hst : X.stack = X.env :: X.outer) (hf : X.env.frame = some X.env.locals) (hN : X.N.Nodup) (tk : Takes X Wo)
    (hb : ∀ (W : WX) (pn : List (Addr × Obj)) (xe : Value → Shared → Prop), Takes (X.tr pn xe) W → PassesOwn (model X.prog X.w) X.A X.env xe → PSs (X.tr pn xe) body (tb W))
    (hh : HdX X (h₀ :: hds) l) (hK : X.K = K := by rfl) : PS X (.Try body (h₀ :: hds) [] [] pos) (fun D σ H => tb (wX K Wo D l) D σ H) := hK ▸ ps_tryX hst hf hN tk hb hh
end L3
namespace L5
open PySem PySem.Spec PyProof.Rows L2 L3
section
variable {A : AX} {D : AEnds} {q : ACl} {r : List ACl} {C : Addr} {N : List Str} {xs : List PV} {ρ : AEnv} {S : Sto}
theorem r_clsT (h : q.tab C true) (k : ∀ a d, q.f a d C (clrA q.i D) (putA q.i (.exc a d C N xs) ρ) S) : aCls A D (q :: r) C N xs ρ S := ⟨true, h, fun _ => k, fun e => nomatch e⟩
theorem r_clsF (h : q.tab C false) (k : aCls A D r C N xs ρ S) : aCls A D (q :: r) C N xs ρ S := ⟨false, h, (fun e => nomatch e), fun _ => k⟩
end
end L5

namespace L3
open PySem PySem.Spec PyProof.Rows L2
end L3

namespace L5
open PySem PySem.Spec PyProof.Rows L2 L3
end L5

namespace L3
open PySem PySem.Spec PyProof.Rows L2
open PySem.W (kdx_alive)
section
variable {prog : Program} {w : World} {A : Around} {E : Value → Shared → Prop} {s : Shared}
structure ZPos (S c ti to u v a b : Addr) (xs ys : Array Value) (i : Nat) (h : Heap) : Prop where
  two : IsPair h ti (.ref u) (.ref v)
  own : ∃ x y, IsPair h to x y
  fst : h.IsTupleIter u a i
  snd : h.IsTupleIter v b i
  ta : h.IsTuple a xs
  tb : h.IsTuple b ys
  out : IsZip h c ti to .none ∨ ∃ t g ot, IsZipHeld h c ti to t g ∧ h.get? t = some ot ∧ S < t
structure ZLow (S c ti to u v a b : Addr) : Prop where
  c : c < S
  ti : ti < S
  to : to < S
  u : u < S
  v : v < S
  a : a < S
  b : b < S
theorem ZPos.keep {S c ti to u v a b : Addr} {xs ys : Array Value} {i : Nat} {h h' : Heap} (z : ZPos S c ti to u v a b xs ys i h) (L : ZLow S c ti to u v a b) (k : ∀ d o, d ≠ S → h.get? d = some o → h'.get? d = some o) : ZPos S c ti to u v a b xs ys i h' := by
  obtain ⟨z1, ⟨x, y, z2⟩, ⟨o3, e3, r3⟩, ⟨o4, e4, r4⟩, ⟨o5, e5, r5⟩, ⟨o6, e6, r6⟩, z7⟩ := z
  refine ⟨k _ _ (Nat.ne_of_lt L.ti) z1, ⟨x, y, k _ _ (Nat.ne_of_lt L.to) z2⟩, ⟨o3, k _ _ (Nat.ne_of_lt L.u) e3, r3⟩, ⟨o4, k _ _ (Nat.ne_of_lt L.v) e4, r4⟩, ⟨o5, k _ _ (Nat.ne_of_lt L.a) e5, r5⟩, ⟨o6, k _ _ (Nat.ne_of_lt L.b) e6, r6⟩, ?_⟩
  rcases z7 with e | ⟨t, g, ot, e, et, lt⟩
  · exact .inl (k _ _ (Nat.ne_of_lt L.c) e)
  · exact .inr ⟨t, g, ot, k _ _ (Nat.ne_of_lt L.c) e, k _ _ (Nat.ne_of_gt lt) et, lt⟩
end
def putZ : Hp → List Addr → List Obj → List (V × V) → Hp
  | H, t :: ts, o :: os, p :: ps => putZ (upd H t (.frz o (.tup [p.1, p.2]))) ts os ps
  | H, _, _, _ => H
end L3

namespace L3
open PySem PySem.Spec PyProof.Rows L2
open PySem.W (Frag)
end L3

namespace L3
open PySem PySem.Spec PyProof.Rows L2
end L3
namespace L5
open PySem PySem.Spec PyProof.Rows L2 L3
section
variable {K : PySem.W.Frag} {W W' : Wd} {S : Sto} {H : Hp} {P : AV} {Q : VK} {I : Hp} {ad : List Addr}
theorem In.tup2 (I : In K W S H) {t : Addr} {o : Obj} (ht : H t = none) (ho : NoD o) {v u : V} {p q : PV} (r1 : VR K W.I W.ad v p) (r2 : VR K W.I W.ad u q) :
    ∃ W', W.Le W' ∧ In K W' S (upd H t (.frz o (.tup [v, u]))) ∧ VR K W'.I W'.ad (.ref t) (.tup [p, q]) :=
  I.newT (P := fun x S' => x = .tup [p, q] ∧ S' = S) (Q := fun x H' => ∃ W', W.Le W' ∧ In K W' S H' ∧ VR K W'.I W'.ad x (.tup [p, q])) (us := [v, u]) (.cons r1 (.cons r2 .nil))
    (fun W' S' v' p' H' l I' r h => by
      obtain ⟨rfl, rfl⟩ := h
      exact ⟨W', l, I', r⟩) ⟨rfl, rfl⟩ t o ht ho
theorem In.pairs : ∀ {ts : List Addr} {os : List Obj} {xs ys : List V} {ps qs : List PV} {W : Wd} {H : Hp}, In K W S H → ts.length = xs.length → os.length = xs.length → xs.length = ys.length → (∀ t ∈ ts, H t = none) → ts.Nodup → (∀ o ∈ os, NoD o) →
    VRs K W.I W.ad xs ps → VRs K W.I W.ad ys qs → ∃ W', W.Le W' ∧ In K W' S (putZ H ts os (xs.zip ys)) ∧ VRs K W'.I W'.ad (ts.map V.ref) (List.zipWith (fun p q => PV.tup [p, q]) ps qs)
  | [], os, xs, ys, ps, qs, W, H, I, h1, h2, h3, _, _, _, r1, r2 => by
    cases xs with
    | cons _ _ => cases h1
    | nil =>
      cases r1
      exact ⟨W, .refl W, I, .nil⟩
  | t :: ts, os, xs, ys, ps, qs, W, H, I, h1, h2, h3, hn, nd, ho, r1, r2 => by
    cases xs with
    | nil => cases h1
    | cons x xs =>
      cases os with
      | nil => cases h2
      | cons o os =>
        cases ys with
        | nil => cases h3
        | cons y ys =>
          cases r1 with
          | cons a1 b1 =>
            cases r2 with
            | cons a2 b2 =>
              obtain ⟨W1, l1, I1, r⟩ := I.tup2 (hn t List.mem_cons_self) (ho o List.mem_cons_self) a1 a2
              have nd' := List.nodup_cons.mp nd
              obtain ⟨W2, l2, I2, rs⟩ := In.pairs (ts := ts) (os := os) I1 (Nat.succ.inj h1) (Nat.succ.inj h2) (Nat.succ.inj h3) (fun t' ht' => by
                rw [upd_ne fun z => nd'.1 (by rw [← z]; exact ht')]
                exact hn t' (List.mem_cons_of_mem _ ht')) nd'.2 (fun o' z => ho o' (List.mem_cons_of_mem _ z)) (b1.up l1.toLo) (b2.up l1.toLo)
              exact ⟨W2, l1.trans l2, I2, .cons (r.up l2.toLo) rs⟩
end
@[reducible] def calm (g : ALX) : AL := fun vs S R => g vs S R fun _ _ _ _ => False
end L5

namespace L3
open PySem PySem.Spec PyProof.Rows L2
end L3
namespace L5
open PySem PySem.Spec PyProof.Rows L2 L3
end L5

namespace L5
open PySem PySem.Spec PyProof.Rows L2 L3
end L5

namespace L3
open PySem PySem.Spec PyProof.Rows L2
end L3
namespace L5
open PySem PySem.Spec PyProof.Rows L2 L3
end L5

namespace L5
open PySem PySem.Spec PyProof.Rows L2 L3
end L5
namespace L2
open PySem PySem.Spec PyProof.Rows
end L2
namespace L5
open PySem PySem.Spec PyProof.Rows L2 L3
end L5

namespace L5
open PySem PySem.Spec PyProof.Rows L2 L3
section
variable {K : PySem.W.Frag} {te : TE} {fe : ATE}
theorem kit_tyB {C : Addr} {n : String} {b : Bool} (hm : PySem.W.kitMeta n = true) (hs : PySem.W.subIn K (.ref C) (.type n) = some b) : PySem.W.kitOne K (.ref C) (.type n) = some b := by
  unfold PySem.W.kitOne
  split
  · rename_i h
    have h2 := beq_iff_eq.mp h
    cases h2
  · show (if PySem.W.kitMeta n = true then PySem.W.subIn K (.ref C) (.type n) else none) = some b
    rw [if_pos hm, hs]
theorem se_isXb {a : Addr} {d : Option Addr} {cls : Value} {C : Addr} {n : String} {tab : Addr → Bool → Prop} {xtab : Addr → Prop} (hc : cls = .ref C) (hx : ∀ C, xtab C → ExcC K C) (hk : ∀ C b, tab C b → PySem.W.kitOne K (.ref C) (.type n) = some b) (he : SE K te fe) :
    SE K (tCB (rIsX K a cls d) (tCons te (tCons (tC (.ty n)) tNil))) (aIsX a d C (fun C b => xtab C ∧ tab C b) fe) :=
  se_isX1 hc (fun u h => h) (fun C b h => ⟨hx C h.1, hk C b h.2⟩) he
end
end L5

namespace L5
open PySem PySem.Spec PyProof.Rows L2 L3
end L5

namespace L5
open PySem PySem.Spec PyProof.Rows L2 L3
end L5

namespace L2
open PySem PySem.Spec PyProof.Rows
end L2
namespace L5
open PySem PySem.Spec PyProof.Rows L2 L3
section
variable {K : PySem.W.Frag} {W W' : Wd} {S : Sto} {H : Hp} {P : AV} {Q : VK}
def PrV (K : PySem.W.Frag) (I : Hp) (ad : List Addr) (v : V) (q : List Key × PV) : Prop := ∃ p b x, v = .ref p ∧ I p = some (.tup [.ref b, x]) ∧ I b = some (.tup (q.1.map kV)) ∧ VR K I ad x q.2
theorem PrVs.up (l : W.Lo W') : ∀ {us : List V} {acc : List (List Key × PV)}, Paired (PrV K W.I W.ad) us acc → Paired (PrV K W'.I W'.ad) us acc
  | _, _, .nil => .nil
  | _, _, .cons ⟨p, b, x, e, h1, h2, r⟩ t => .cons ⟨p, b, x, e, l.ex _ _ h1, l.ex _ _ h2, r.up l⟩ (PrVs.up l t)
variable {tt : TT} {ft : ATT} {te tb : TE} {fe : ATE} {fk : ATA}
end
end L5

namespace L5
open PySem PySem.Spec PyProof.Rows L2 L3
end L5

namespace L3
open PySem PySem.Spec PyProof.Rows L2
open PySem.W (Looks)
structure XFam (tl : List Value) (Bn Bi nid iid : String) : Prop where
  F : ∃ i m, ExcBaseFacts Bn nid i m
  io : plainId iid = true
  ie : entryFor table iid = some Builtin.«BaseException.__init__»
  is_ : splitId iid = some (Bi, "__init__")
  ik : builtinKind iid = some .slot
  ir : Manifest.signature? iid = some ⟨.positional, "*", Bi, .self, [⟨"args", .varPos, false⟩]⟩
  no : (Bi != "*") = true
  cn : tl.contains (.type Bn) = true
  ci : tl.contains (.type Bi) = true
  cA : tl.contains (.type "AttributeError") = false
  cN : tl.contains (.type "NameError") = false
  co : tl.contains (.type "object") = true
  ne : tl.isEmpty = false
  st : ∀ self, refuseLoop self "__setattr__" tl = pure ()
def OverT (tl bm : List Value) : Prop := ∃ rs : List Addr, bm = rs.map Value.ref ++ tl
theorem OverT.has {tl bm : List Value} (h : OverT tl bm) (x : String) : bm.contains (.type x) = tl.contains (.type x) := by
  obtain ⟨rs, rfl⟩ := h
  induction rs with
  | nil => rfl
  | cons r rs ih => rw [List.map_cons, List.cons_append, List.contains_cons, ih]; rfl
theorem OverT.pass {tl bm : List Value} (h : OverT tl bm) (self : Value) (q : refuseLoop self "__setattr__" tl = pure ()) : refuseLoop self "__setattr__" bm = pure () := by
  obtain ⟨rs, rfl⟩ := h
  induction rs with
  | nil => exact q
  | cons r rs ih => rw [List.map_cons, List.cons_append, refuseLoop_ref]; exact ih
theorem OverT.cons {tl bm : List Value} (h : OverT tl bm) (C : Addr) : OverT tl (.ref C :: bm) := by
  obtain ⟨rs, rfl⟩ := h
  exact ⟨C :: rs, rfl⟩
theorem OverT.ne {tl bm : List Value} (h : OverT tl bm) (q : tl.isEmpty = false) : bm.isEmpty = false := by
  obtain ⟨rs, rfl⟩ := h
  cases rs with
  | nil => exact q
  | cons _ _ => rfl
section
variable {M : Model} {prog : Program} {w : World} {A : Around} {E : Value → Shared → Prop} {R : Result → Shared → Prop} {hp : Heap} {gn : Array GenState} {dr : Drawn} {tk : Nat} {os : OsState}
variable {nm qn : Str} {C N : Addr} {bs bm tl : List Value} {hd : Bool} {sn : List Str} {sub : List Value} {ab : Bool} {col : Option Bool} {dd : Option Addr} {k0 k1 k2 k3 k5 : Option Value} {Bn Bi nid iid : String}
variable {us : List Value} {kw : List (Str × Value)}
theorem xf_in (X : XFam tl Bn Bi nid iid) (T : OverT tl bm) : (Value.ref C :: bm).contains (.type Bn) = true ∧ (Value.ref C :: bm).contains (.type Bi) = true ∧ (Value.ref C :: bm).contains (.type "AttributeError") = false ∧ (Value.ref C :: bm).contains (.type "NameError") = false := by
  have U := T.cons C
  exact ⟨(U.has _).trans X.cn, (U.has _).trans X.ci, (U.has _).trans X.cA, (U.has _).trans X.cN⟩
theorem xf_chkN (X : XFam tl Bn Bi nid iid) (T : OverT tl bm) {Q : Unit → Shared → Prop} (hC : hp.get? C = some (excClassObj nm qn C N bs bm hd sn sub ab col dd k0 k1 k2 k3 k5 nid)) (q : Q () ⟨hp, gn, dr, tk, os⟩) :
    wpAny M A (checkBuiltinCall nid ⟨.ref C :: us, kw⟩) Q E ⟨hp, gn, dr, tk, os⟩ := by
  obtain ⟨i, m, F⟩ := X.F
  obtain ⟨z1, _, _, _⟩ := xf_in (C := C) X T
  have z2 := F.noStar
  simp only [checkBuiltinCall, F.newKind, F.newSplit, F.newRow]
  iterate 60 (first | refine wpAny_loadPart_at hC ?_ | (refine wpAny_isSubtype_exc hC ?_; rw [z1]) | refine wpAny_staticBase_exc hC ?_ | refine wpAny_madeBy_exc hC ?_ | simp only [bne_self_eq_false, Bool.false_eq_true, if_false] | wp_step | skip)
  exact q
theorem xf_chkI (X : XFam tl Bn Bi nid iid) (T : OverT tl bm) {e : Addr} {oe : Obj} {Q : Unit → Shared → Prop} (hC : hp.get? C = some (excClassObj nm qn C N bs bm hd sn sub ab col dd k0 k1 k2 k3 k5 nid)) (he : hp.get? e = some oe) (hcl : oe.cls = .ref C)
    (q : Q () ⟨hp, gn, dr, tk, os⟩) : wpAny M A (checkBuiltinCall iid ⟨.ref e :: us, []⟩) Q E ⟨hp, gn, dr, tk, os⟩ := by
  obtain ⟨_, z1, _, _⟩ := xf_in (C := C) X T
  have z2 := X.no
  simp only [checkBuiltinCall, X.ik, X.is_, X.ir]
  iterate 60 (first | (with_reducible refine wpAny_loadPart_at he ?_; rw [hcl]) | with_reducible refine wpAny_loadPart_at hC ?_ | (with_reducible refine wpAny_isSubtype_exc hC ?_; rw [z1]) | wp_step | skip)
  refine wpAny_onRaise ?_
  rw [show ∀ (a b : String) (n : Nat), Bind.check ⟨.positional, "*", Bi, .self, [⟨"args", .varPos, false⟩]⟩ a b n (List.map (fun x => x.fst) ({ pos := Value.ref e :: us } : Args).kw) = pure () from fun a b n => check_star_args _ _ _ _ _ _]
  exact wpAny_pure q
theorem xf_new (X : XFam tl Bn Bi nid iid) (T : OverT tl bm) (hC : hp.get? C = some (excClassObj nm qn C N bs bm hd sn sub ab col dd k0 k1 k2 k3 k5 nid)) (hl : us.length ≤ sizeLine)
    (q : R (.ok (.ret (.ref (hp.objs.size + 1)))) ⟨(hp.push { cls := .type "tuple", data := .seq us.toArray }).push { cls := .ref C, data := .fields #[.ref hp.objs.size, .none, .none, .none, .bool false, .none] }, gn, dr, tk, os⟩) :
    codeAny (model prog w) A (.builtin nid ⟨.ref C :: us, kw⟩) R ⟨hp, gn, dr, tk, os⟩ := by
  obtain ⟨i, m, F⟩ := X.F
  obtain ⟨z1, _, z3, z4⟩ := xf_in (C := C) X T
  have z5 := F.ends
  refine codeAny_builtinAt F.entry ?_
  unfold Builtin.«BaseException.__new__»
  refine PySem.wpAt_bind ?_
  show PySem.wpAt _ _ _ (stack >>= _) _ _ _
  refine PySem.wpAt_bind (PySem.wpAt_stack fun p below => PySem.wpAt_of_wpAny ?_)
  wp_walk
  refine PySem.wpAt_of_wpAny ?_
  rw [F.owner]
  iterate 60 (first | with_reducible refine wpAny_madeHere_exc F.canon hC ?_ | with_reducible refine wpAny_loadPart_at hC ?_ | (with_reducible refine wpAny_isSubtype_exc hC ?_; first | rw [z1] | rw [z3] | rw [z4]) | wp_step | skip)
  show R _ _
  rw [Heap.size_push]
  exact q
theorem xf_tc (X : XFam tl Bn Bi nid iid) (T : OverT tl bm) {fI : Addr} {Q : Fin → Shared → Prop} (hC : hp.get? C = some (excClassObj nm qn C N bs bm hd sn sub ab col dd k0 k1 k2 k3 k5 nid))
    (hi : Looks (model prog w) hp (typeLookup (.ref C) "__init__") (some (.ref fI))) (hb : ∀ self, Looks (model prog w) hp (bindSpecial (.ref fI) self) (.ref fI, [self])) (hl : us.length ≤ sizeLine)
    (q : codeAny (model prog w) A (.call (.ref fI) ⟨.ref (hp.objs.size + 1) :: us, kw⟩) (fun r s' => match r with | .ok (.ret v) => v = .none ∧ Q (.done (.ret (.ref (hp.objs.size + 1)))) s' | .ok _ => False | .error e => E e s')
      ⟨(hp.push (PySem.W.kdv_tup us)).push (PySem.HandSPX.excO C hp.objs.size), gn, dr, tk, os⟩) :
    wpAny (model prog w) A (Builtin.«type.__call__» ⟨.ref C :: us, kw⟩) Q E ⟨hp, gn, dr, tk, os⟩ := by
  obtain ⟨i, m, F⟩ := X.F
  iterate 60 (first | with_reducible refine wpAny_loadPart_at hC ?_ | with_reducible refine wpAny_madeBy_exc hC ?_ | wp_step | skip)
  refine codeAny_call_builtin_code (Code.quiet_builtin _ F.quiet) (xf_chkN X T hC (xf_new X T hC hl ?_))
  show wpAny _ _ _ _ _ _
  have up : ∀ b o, hp.get? b = some o → ((hp.push (PySem.W.kdv_tup us)).push (PySem.HandSPX.excO C hp.objs.size)).get? b = some o := fun b o e => Heap.get?_push_of_some _ (Heap.get?_push_of_some _ e)
  have hC2 := up _ _ hC
  have hx : ((hp.push (PySem.W.kdv_tup us)).push (PySem.HandSPX.excO C hp.objs.size)).get? (hp.objs.size + 1) = some (PySem.HandSPX.excO C hp.objs.size) := by heap_get
  have z : (Value.ref C :: bm).contains (.ref C) = true := by simp
  have i2 := hi.keeps up
  have b2 := (hb (.ref (hp.objs.size + 1))).keeps up
  unfold isInstance
  iterate 60 (first | with_reducible refine wpAny_loadPart_at hx ?_ | (with_reducible refine wpAny_isSubtype_exc hC2 ?_; rw [z]) | wp_step | skip)
  show wpAny _ _ (typeLookup (.ref C) _) _ _ _
  refine i2.at (wpAny_holding (wpAny_bind (b2.at (wpAny_bind (wpAny_call (codeAny_mono q fun r s' y => ?_))))))
  rcases r with e | (v | _ | _ | _) <;> first | exact y | exact y.elim | skip
  obtain ⟨rfl, y⟩ := y
  first | exact wpAny_pure (wpAny_pure y) | (wp_walk; exact y)
theorem xf_chkC {Q : Unit → Shared → Prop} (hC : hp.get? C = some (excClassObj nm qn C N bs bm hd sn sub ab col dd k0 k1 k2 k3 k5 nid)) (q : Q () ⟨hp, gn, dr, tk, os⟩) :
    wpAny M A (checkBuiltinCall "type.__call__" ⟨.ref C :: us, kw⟩) Q E ⟨hp, gn, dr, tk, os⟩ := by
  have z1 := tc_sub
  have z2 : (⟨hp, gn, dr, tk, os⟩ : Shared).TypeIs (.ref C) "type" := ⟨_, hC, rfl⟩
  simp only [checkBuiltinCall, tc_kind, tc_split]
  repeat (any_goals (first | assumption | with_reducible refine wpAny_loadPart_at hC ?_ | with_reducible refine wpAny_onRaise ?_ | with_reducible refine wpAny_map ?_ | wp_step))
theorem xf_call (X : XFam tl Bn Bi nid iid) (T : OverT tl bm) {fI : Addr} (hC : hp.get? C = some (excClassObj nm qn C N bs bm hd sn sub ab col dd k0 k1 k2 k3 k5 nid))
    (hi : Looks (model prog w) hp (typeLookup (.ref C) "__init__") (some (.ref fI))) (hb : ∀ self, Looks (model prog w) hp (bindSpecial (.ref fI) self) (.ref fI, [self])) (hl : us.length ≤ sizeLine)
    (q : codeAny (model prog w) (A.under (.builtin "type.__call__" ⟨.ref C :: us, kw⟩)) (.call (.ref fI) ⟨.ref (hp.objs.size + 1) :: us, kw⟩) (PySem.W.InitBack (hp.objs.size + 1) R)
      ⟨(hp.push (PySem.W.kdv_tup us)).push (PySem.HandSPX.excO C hp.objs.size), gn, dr, tk, os⟩) :
    codeAny (model prog w) A (.call (.ref C) ⟨us, kw⟩) R ⟨hp, gn, dr, tk, os⟩ := by
  have z1 := tc_lookup
  have z2 := tc_bind (.ref C)
  have z3 : (⟨hp, gn, dr, tk, os⟩ : Shared).TypeIs (.ref C) "type" := ⟨_, hC, rfl⟩
  refine codeAny_of_tree ?_
  show wpAny _ _ (callAny (.ref C) _) _ _ _
  repeat (any_goals (first | assumption | with_reducible refine wpAny_loadPart_at hC ?_ | wp_step))
  refine ⟨rfl, ?_⟩
  refine codeAny_call_builtin_at (Code.quiet_builtin _ (by decide +kernel)) entry_typeCall (xf_chkC hC (xf_tc X T hC hi hb hl (codeAny_mono q fun r s' y => ?_)))
  rcases r with e | (v | _ | _ | _) <;> exact y
theorem xf_init (X : XFam tl Bn Bi nid iid) (T : OverT tl bm) {e t0 : Addr} (hC : hp.get? C = some (excClassObj nm qn C N bs bm hd sn sub ab col dd k0 k1 k2 k3 k5 nid)) (he : hp.get? e = some (PySem.HandSPX.excO C t0)) (hl : us.length ≤ sizeLine)
    (q : ∀ h' t1, (∀ b o, b ≠ e → hp.get? b = some o → h'.get? b = some o) → h'.get? e = some (PySem.HandSPX.excO C t1) → R (.ok (.ret .none)) ⟨h', gn, dr, tk, os⟩) :
    codeAny (model prog w) A (.call (.builtin iid) ⟨.ref e :: us, []⟩) R ⟨hp, gn, dr, tk, os⟩ := by
  refine codeAny_call_builtin X.io X.ie (xf_chkI X T hC he rfl ?_)
  wp_walk
  refine q _ hp.objs.size (fun b o hb ho => ?_) ?_
  · rw [Heap.get?_update_other _ _ (Ne.symm hb)]
    exact Heap.get?_push_of_some _ ho
  · rw [Heap.get?_update_self _ (Heap.get?_push_of_some _ he) rfl]
    rfl
end
end L3

namespace L3
open PySem PySem.Spec PyProof.Rows L2
open PySem.W (Looks)
section
open Builtin Builtin.ObjectAttr
variable {prog : Program} {w : World} {A : Around} {E : Value → Shared → Prop} {R : Result → Shared → Prop} {hp : Heap} {gn : Array GenState} {dr : Drawn} {tk : Nat} {os : OsState}
variable {K : PySem.W.Frag} {tl : List Value} {f : Str} {tf : Tok} {v : Value} {x C : Addr} {fv : Array Value} {cd : ClassData}
theorem xs_head (hs : ∀ self, refuseLoop self "__setattr__" tl = pure ()) (ho : tl.contains (.type "object") = true) (hn : tl.isEmpty = false) (X : K.In hp) {od : Option Obj} {ox : Obj} (I : PySem.W.InstAt hp x ox C od) (hcd : PySem.W.clsIn K C = some cd) (T : OverT tl cd.mro)
    (ha : PySem.W.findIn K (.ref C) f = some none)
    (q : wpAny (model prog w) A.in1 (storeInOwnDict (.ref x) (.ref C) (.str f tf) f v false) (fun fin s' => match fin with | .done z => R (.ok z) s' | .again c' => c'.quiet = true ∧ codeAny (model prog w) A c' R s') (fun e s' => R (.error e) s') ⟨hp, gn, dr, tk, os⟩) :
    codeAny (model prog w) A (.call (.builtin "object.__setattr__") ⟨[.ref x, .str f tf, v], []⟩) R ⟨hp, gn, dr, tk, os⟩ := by
  have S := F.store_object
  have z1 : cd.mro.contains (.type "object") = true := (T.has _).trans ho
  have z2 : Looks (model prog w) hp (isInstance (.ref x) (.type "object")) true := I.type.andThen (PySem.W.looks_mroIn X (by unfold PySem.W.mroIn; rw [hcd, Option.bind_some, if_neg (by rw [T.ne hn]; decide), z1]))
  refine codeAny_call_builtin S.slot.plain S.entry (@PySem.W.check_slot (model prog w) _ _ ⟨hp, gn, dr, tk, os⟩ "object.__setattr__" "object" "__setattr__" (.ref x) [.str f tf, v] [] _ S.kind S.split z2 (S.args (.ref x) (.str f tf) v) ?_)
  have z3 : Looks (model prog w) hp (mroOf (.ref C)) cd.mro := (PySem.W.looks_clsIn X hcd).andThen .now
  have z4 : Looks (model prog w) hp (storeTaker? none) none := .now
  rw [PySem.W.osa_eq, refuse_eq]
  refine wpAny_bind (wpAny_bind (I.type.at (wpAny_bind (z3.at ?_))))
  rw [T.pass _ (hs _)]
  refine wpAny_pure (wpAny_bind (I.type.at (wpAny_bind ((PySem.W.looks_findIn X ha).at (wpAny_bind (z4.at ?_))))))
  exact q
theorem xs_new (hs : ∀ self, refuseLoop self "__setattr__" tl = pure ()) (ho : tl.contains (.type "object") = true) (hn : tl.isEmpty = false) (X : K.In hp) (hx : hp.get? x = some { cls := .ref C, data := .fields fv }) (hcd : PySem.W.clsIn K C = some cd) (T : OverT tl cd.mro)
    (hh : cd.hasDict = true) (ha : PySem.W.findIn K (.ref C) f = some none)
    (q : ∀ h' tk' d, (∀ b o, b ≠ x → hp.get? b = some o → h'.get? b = some o) → hp.objs.size ≤ d → d ≠ x → h'.get? x = some { cls := .ref C, dict := some d, data := .fields fv } → h'.Ns1 d (fun y => if y = f then some v else none) → R (.ok (.ret .none)) ⟨h', gn, dr, tk', os⟩) :
    codeAny (model prog w) A (.call (.builtin "object.__setattr__") ⟨[.ref x, .str f tf, v], []⟩) R ⟨hp, gn, dr, tk, os⟩ := by
  have ne : x ≠ hp.objs.size := Nat.ne_of_lt (Heap.lt_size hx)
  have lk : Looks (model prog w) hp (classData C) cd := PySem.W.looks_clsIn X hcd
  refine xs_head hs ho hn X (od := none) (ox := { cls := .ref C, data := .fields fv }) ⟨hx, rfl, rfl, trivial⟩ hcd T ha ?_
  obtain ⟨c1, c2, c3, c4, c5, c6, c7, c8, c9, c10, c11⟩ := cd
  obtain rfl : c6 = true := hh
  unfold storeInOwnDict ownDictForStores
  repeat (first | with_reducible refine PySem.HandSPX.store_in_new ?_ ?_ | with_reducible refine wpAny_loadPart_at hx ?_ | with_reducible refine lk.at ?_ | wp_step)
  · exact ⟨_, #[], _, (Heap.get?_update_ne _ _ _ _ ne.symm).trans (Heap.get?_push_at rfl rfl), rfl, fun e he => absurd he (by simp), fun _ => rfl⟩
  · intro h' tk' n1 n2
    have hx2 : (hp.push { cls := .type "dict", data := .dict #[] }).get? x = some { cls := .ref C, data := .fields fv } := Heap.get?_push_of_some _ hx
    exact q h' tk' hp.objs.size (fun b o hb e => (n2.2 b (Nat.ne_of_lt (Heap.lt_size e))).trans ((Heap.get?_update_ne _ _ _ _ hb).trans (Heap.get?_push_of_some _ e))) (Nat.le_refl _) ne.symm ((n2.2 x ne).trans (Heap.get?_update_self _ hx2 rfl)) n1
theorem xs_old {d : Addr} {m0 : Str → Option Value} {nl : List Str} (hs : ∀ self, refuseLoop self "__setattr__" tl = pure ()) (ho : tl.contains (.type "object") = true) (hn : tl.isEmpty = false) (X : K.In hp) (hx : hp.get? x = some { cls := .ref C, dict := some d, data := .fields fv })
    (hns : hp.Ns1 d m0) (hw : Within m0 nl) (hz : nl.length ≤ 1000) (hcd : PySem.W.clsIn K C = some cd) (T : OverT tl cd.mro) (hh : cd.hasDict = true) (ha : PySem.W.findIn K (.ref C) f = some none)
    (q : ∀ h' tk', (∀ b o, b ≠ d → hp.get? b = some o → h'.get? b = some o) → h'.Ns1 d (fun y => if y = f then some v else m0 y) → R (.ok (.ret .none)) ⟨h', gn, dr, tk', os⟩) :
    codeAny (model prog w) A (.call (.builtin "object.__setattr__") ⟨[.ref x, .str f tf, v], []⟩) R ⟨hp, gn, dr, tk, os⟩ := by
  obtain ⟨oD, _, _, e1, _, _⟩ := hns.count hw
  have lk : Looks (model prog w) hp (classData C) cd := PySem.W.looks_clsIn X hcd
  refine xs_head hs ho hn X (od := some oD) (ox := { cls := .ref C, dict := some d, data := .fields fv }) ⟨hx, rfl, rfl, e1⟩ hcd T ha ?_
  obtain ⟨c1, c2, c3, c4, c5, c6, c7, c8, c9, c10, c11⟩ := cd
  obtain rfl : c6 = true := hh
  unfold storeInOwnDict ownDictForStores
  repeat (first | with_reducible refine PySem.OEX.store_in_old hns hw hz ?_ | with_reducible refine wpAny_loadPart_at hx ?_ | with_reducible refine lk.at ?_ | wp_step)
  intro h' tk' n1 n2
  exact q h' tk' (fun b o hb e => (n2.2 b hb).trans e) n1
end
structure OxF (K : PySem.W.Frag) (C : Addr) (tl : List Value) (Bn Bi nid iid : String) : Prop where
  fam : XFam tl Bn Bi nid iid
  cls : ∃ nm q N bs bm sn sub ab col dd k0 k1 k2 k3 k5, K.lookup C = some (excClassObj nm q C N bs bm true sn sub ab col dd k0 k1 k2 k3 k5 nid) ∧ OverT tl bm
  sa : PySem.W.findIn K (.ref C) "__setattr__" = some (some (.builtin "object.__setattr__"))
  exC : PySem.W.subIn K (.ref C) (.type "BaseException") = some true
  tyC : PySem.W.typeIn K (.ref C) = some (.type "type")
  kC : PySem.W.keepIn K (.ref C) = true
def OxI (K : PySem.W.Frag) (C : Addr) (iid : String) : Prop := ∃ tl Bn Bi nid, OxF K C tl Bn Bi nid iid
section
variable {X : Cx} {pins : List (Addr × Obj)} {σ : St} {H : Hp} {s : Shared} {a C d : Addr} {f : Str} {y : V} {u : Value} {fs : List (Str × V)} {Q : Unit → Shared → Prop} {E : Value → Shared → Prop} {A : Around} {tl : List Value} {Bn Bi nid iid : String}
theorem xo_new (T : OxF X.K C tl Bn Bi nid iid) (I : Inv X pins σ H s) (e : H a = some (exo a C none)) (hno : PySem.W.findIn X.K (.ref C) f = some none) (ry : RelV y u)
    (k : ∀ d s', H d = none → d ≠ a → Inv X pins σ (upd (upd H d (exd d [(f, y)])) a (exo a C (some d))) s' → Q () s') : wpAny (model X.prog X.w) A (setAttr (.ref a) f u) Q E s := by
  obtain ⟨nm, qn, N, bs, bm, sn, sub, ab, col, dd, k0, k1, k2, k3, k5, hC, hbm⟩ := T.cls
  have cl : PySem.W.clsIn X.K C = some ⟨nm, bs, .ref C :: bm, N, qn, true, sn, sub, ab, col, false⟩ := by unfold PySem.W.clsIn; rw [hC] <;> rfl
  obtain ⟨t1, ho⟩ := exo_at I.hok e
  obtain ⟨hp, gn, dr, tk, os⟩ := s
  refine PySem.W.set_plain I.kIn (ox := { cls := .ref C, dict := none, data := .fields #[.ref t1, .none, .none, .none, .bool false, .none] }) (od := none) ⟨ho, rfl, rfl, trivial⟩ T.sa (xs_new T.fam.st T.fam.co T.fam.ne I.kIn ho cl (hbm.cons C) rfl hno fun h' tk' d kp dn dne hx hn => ?_)
  have z0 : H d = none := I.hok.fresh dn
  have z1 : ∀ {b : Addr} {o : Obj}, hp.get? b = some o → b ≠ d := fun {b o} r => Nat.ne_of_lt (Nat.lt_of_lt_of_le (Heap.lt_size r) dn)
  have z2 : ∀ {b : Addr}, H b = none → b ≠ a := fun {b} n z => by rw [z, e] at n; cases n
  have U : Un X.fs [] H (upd (upd H d (exd d [(f, y)])) a (exo a C (some d))) hp h' := by
    refine ⟨fun b o r n _ _ => kp b o (z2 n) r, fun b o r n _ _ => ⟨o.slots, kp b o (z2 n) r⟩, fun b o r n _ => ?_, fun b o r _ => ?_, fun b xs r => ?_, fun b o v r => ?_, fun b ps r => ⟨#[], ?_⟩⟩
    · rw [upd_ne (z2 n), upd_ne (z1 r)]; exact n
    · by_cases hb : b = a
      · exact ⟨_, by rw [hb]; exact hx⟩
      · exact ⟨o, kp b o hb r⟩
    · rw [upd_ne (at_ne e r exo_tup), upd_ne (ne_of_none r z0)]; exact r
    · rw [upd_ne (at_ne e r exo_frz), upd_ne (ne_of_none r z0)]; exact r
    · rw [upd_ne (at_ne e r exo_tbl), upd_ne (ne_of_none r z0), r]; simp
  refine k d _ z0 dne (I.un (t' := tk') U fun b o r => ?_)
  by_cases hb : b = a
  · subst hb
    rw [upd_same] at r
    cases r
    exact exo_ok hx
  rw [upd_ne hb] at r
  by_cases hd : b = d
  · subst hd
    rw [upd_same] at r
    cases r
    exact exd_ok hn (relO_put (fs := []) ry fun g => True.intro)
  rw [upd_ne hd] at r
  refine (I.hok b o r).stay (fun c v hc z => kp c v ?_ z) (fun c hc => ?_) (fun c xs hc => ?_)
  · rcases hc with hc | hc
    · rw [hc]; exact hb
    · exact at_ne e hc exo_own
  · rw [upd_ne (at_ne e hc exo_own), upd_ne (ne_of_none hc z0)]; exact hc
  · rw [upd_ne (at_ne e hc exo_tup), upd_ne (ne_of_none hc z0)]; exact hc
theorem xo_old (T : OxF X.K C tl Bn Bi nid iid) (I : Inv X pins σ H s) (e : H a = some (exo a C (some d))) (ed : H d = some (exd d fs)) (hl : fs.length ≤ 900) (hno : PySem.W.findIn X.K (.ref C) f = some none) (ry : RelV y u)
    (k : ∀ s', Inv X pins σ (upd H d (exd d ((f, y) :: fs))) s' → Q () s') : wpAny (model X.prog X.w) A (setAttr (.ref a) f u) Q E s := by
  obtain ⟨nm, qn, N, bs, bm, sn, sub, ab, col, dd, k0, k1, k2, k3, k5, hC, hbm⟩ := T.cls
  have cl : PySem.W.clsIn X.K C = some ⟨nm, bs, .ref C :: bm, N, qn, true, sn, sub, ab, col, false⟩ := by unfold PySem.W.clsIn; rw [hC] <;> rfl
  obtain ⟨t1, ho⟩ := exo_at I.hok e
  obtain ⟨mA, hns, rel⟩ := exd_at I.hok ed
  obtain ⟨hp, gn, dr, tk, os⟩ := s
  obtain ⟨oD, _, _, hoD, _, _⟩ := hns.count (within_of rel)
  refine PySem.W.set_plain I.kIn (ox := { cls := .ref C, dict := some d, data := .fields #[.ref t1, .none, .none, .none, .bool false, .none] }) (od := some oD) ⟨ho, rfl, rfl, hoD⟩ T.sa (xs_old T.fam.st T.fam.co T.fam.ne I.kIn ho hns (within_of rel) (by rw [List.length_map]; omega) cl (hbm.cons C) rfl hno fun h' tk' kp hn => ?_)
  have z : ∃ o, h'.get? d = some o := by
    obtain ⟨o, _, _, e', _⟩ := hn
    exact ⟨o, e'⟩
  exact k _ (I.write (t' := tk') (x := d) (e := d) (o := exd d ((f, y) :: fs)) (by rw [ed]; exact True.intro) (.inl rfl) kp z (exd_ok hn (relO_put ry rel)))
theorem xo_init {us : List Value} {Q : Value → Shared → Prop} (T : OxF X.K C tl Bn Bi nid iid) (I : Inv X pins σ H s) (e : H a = some (exo a C none)) (hl : us.length ≤ sizeLine) (k : ∀ s', Inv X pins σ H s' → Q .none s') :
    wpAny (model X.prog X.w) A (call (.builtin iid) (.ref a :: us)) Q E s := by
  obtain ⟨nm, qn, N, bs, bm, sn, sub, ab, col, dd, k0, k1, k2, k3, k5, hC, hbm⟩ := T.cls
  obtain ⟨t1, ho⟩ := exo_at I.hok e
  obtain ⟨hp, gn, dr, tk, os⟩ := s
  refine wpAny_call (xf_init T.fam hbm (I.kIn _ _ hC) ho hl fun h' t2 kp hx => ?_)
  have J := I.write (t' := tk) (x := a) (e := a) (o := exo a C none) (by rw [e]; exact True.intro) (.inl rfl) kp ⟨_, hx⟩ (exo_ok hx)
  have eu : upd H a (exo a C none) = H := funext fun b => by
    by_cases hb : b = a
    · rw [hb, upd_same, e]
    · rw [upd_ne hb]
  rw [eu] at J
  exact k _ J
end
end L3

namespace L3
open PySem PySem.Spec PyProof.Rows L2
structure WInX (K : PySem.W.Frag) (C : Addr) (mc : Value) (iid : String) : Prop where
  rd : ClX.CRead K C mc
  val : PySem.W.findCls K (.ref C) mc "__init__" = some (.val (.builtin iid))
  hand : PySem.W.handedIn (.builtin iid) = true
def tVeX (K : PySem.W.Frag) (iid : String) (ta : TA) : TE := fun σ H Q => ta σ H fun vs H1 => ∃ (a C : Addr) (ws : List V), vs = .ref a :: ws ∧ ws.length ≤ 1000 ∧ OxI K C iid ∧ H1 a = some (exo a C none) ∧ Q .non H1
def tOsX (K : PySem.W.Frag) (iid : String) (f : Str) (to te : TE) : TS := fun D σ H => te σ H fun y H1 => to σ H1 fun x H2 => ∃ a C : Addr, x = .ref a ∧ OxI K C iid ∧ PySem.W.findIn K (.ref C) f = some none ∧
  ((H2 a = some (exo a C none) ∧ ∀ d, H2 d = none → d ≠ a → D.nx σ (upd (upd H2 d (exd d [(f, y)])) a (exo a C (some d)))) ∨
    ∃ (d : Addr) (fs : List (Str × V)), H2 a = some (exo a C (some d)) ∧ H2 d = some (exd d fs) ∧ fs.length ≤ 900 ∧ D.nx σ (upd H2 d (exd d ((f, y) :: fs))))
section
variable {X : Cx} {x : Str} {C : Addr} {mc : Value} {iid : String} {p1 p2 p' pos : Pos} {o e : Expr} {es : List Expr} {ta : TA} {to te : TE} {f : Str} {pl : Sem Bool}
theorem pe_winX (hw : WInX X.K C mc iid) (hg : Gl X x) (hm : X.mg x = some (.ref C)) (ha : PA X (e :: es) ta)
    (hdb : (x == ("__debug__" : Str)) = false := by decide) (he : starEach (e :: es) X.env = (false, eval e X.env) :: starEach es X.env := by rfl) (hpl : (backTo pos (starEach es X.env)).any (·.1) = false := by rfl)
    (ht : eval (.Call (.Attribute (.Name x p1) "__init__" p2) (e :: es) [] pos) X.env = (do
      let ov ← eval (.Name x p1) X.env
      standAt p2.atName
      let (f, first) ← holding [ov] (getMethod ov "__init__" pl)
      callWith pos f first (backTo pos (starEach (e :: es) X.env)) (backToKw pos (keywordEach [] X.env))) := by rfl) :
    PE X (.Call (.Attribute (.Name x p1) "__init__" p2) (e :: es) [] pos) (tVeX X.K iid ta) := ⟨fun pins s σ H Q I h => by
  refine PySem.W.methodCall_KW (pl := pl) (ld_glob I hg hm (PySem.W.method_cls I.kIn hw.rd.ga (PySem.W.cls_value I.kIn hw.rd.rd hw.val hw.hand ?_)) hdb) ht
  refine PyProof.Rows.callWith_method1 (thn (ha.run pos pins _ σ H _ (I.tok _) h) fun us s1 out => ?_) he hpl
  obtain ⟨vs, H1, I1, r1, a, D, ws, ev, hl, ⟨_, _, _, _, T⟩, ea, q⟩ := out
  subst ev
  cases r1 with
  | @cons _ u0 _ ur ra rr =>
    obtain rfl : u0 = Value.ref a := ra
    exact xo_init T I1 ea (by rw [← Paired.length rr, sizeLine_eq]; omega) fun s2 J => ⟨.non, H1, J, rfl, q⟩⟩
theorem ps_osX (ho : PE X o to) (he : PE X e te) (hs : swapsWith e (some (.Attribute o f p')) pos.line X.env = pure false := by rfl) : PS X (.Assign [.Attribute o f p'] e pos) (tOsX X.K iid f to te) := ⟨fun pins s σ H D I h => by
  refine plainObj_wpAny_Assign_Attribute (thn (he.run pins s σ H _ I h) fun v s1 z1 => ?_) hs
  obtain ⟨y, H1, I1, r1, q1⟩ := z1
  refine thn (ho.run pins s1 σ H1 _ I1 q1) fun u s2 z2 => ?_
  obtain ⟨x, H2, I2, r2, a, C, rfl, ⟨_, _, _, _, T⟩, hno, q⟩ := z2
  obtain rfl : u = Value.ref a := r2
  rcases q with ⟨ea, q⟩ | ⟨d, fs, ea, ed, hl, q⟩
  · exact xo_new T I2 ea hno r1 fun d s' n ne J => ⟨σ, _, J, q d n ne⟩
  · exact xo_old T I2 ea ed hl hno r1 fun s' J => ⟨σ, _, J, q⟩⟩
end
section
variable {K : PySem.W.Frag} {C : Addr} {f g m : Str} {Q : VK} {H : Hp} {a : Addr} {v u : V} {iid : String}
theorem exX_1 (T : OxI K C iid) (hno : PySem.W.findIn K (.ref C) f = some none) (ha : H a = some (exo a C none)) (q : ∀ d, H d = none → d ≠ a → Q .non (upd (upd H d (exd d [(f, v)])) a (exo a C (some d)))) :
    tSeq (tDrop (tVeX K iid (tCons (tVar 0) (tCons (tC (.str m)) tNil)))) (tOsX K iid f (tVar 0) (tVar 1)) { nx := fun _ H' => Q .non H', rt := Q } [some (.ref a), some v] H :=
  ⟨.ref a, rfl, a, C, [.str m], rfl, (by show 1 ≤ 1000; omega), T, ha, v, rfl, .ref a, rfl, a, C, rfl, T, hno, .inl ⟨ha, q⟩⟩
theorem exX_2 (T : OxI K C iid) (hno : PySem.W.findIn K (.ref C) f = some none) (hno2 : PySem.W.findIn K (.ref C) g = some none) (ha : H a = some (exo a C none)) (q : ∀ d, H d = none → d ≠ a → Q .non (upd (upd H d (exd d [(g, u), (f, v)])) a (exo a C (some d)))) :
    tSeq (tDrop (tVeX K iid (tCons (tVar 0) (tCons (tC (.str m)) tNil)))) (tSeq (tOsX K iid f (tVar 0) (tVar 1)) (tOsX K iid g (tVar 0) (tVar 2))) { nx := fun _ H' => Q .non H', rt := Q } [some (.ref a), some v, some u] H :=
  ⟨.ref a, rfl, a, C, [.str m], rfl, (by show 1 ≤ 1000; omega), T, ha, v, rfl, .ref a, rfl, a, C, rfl, T, hno, .inl ⟨ha, fun d h1 h2 => by
    refine ⟨u, rfl, .ref a, rfl, a, C, rfl, T, hno2, .inr ⟨d, [(f, v)], upd_same, by rw [upd_ne h2, upd_same], (by show 1 ≤ 900; omega), ?_⟩⟩
    show Q .non _
    rw [upd_swap h2]
    exact q d h1 h2⟩⟩
end
structure CEK (P : Program) (w : World) (K : PySem.W.Frag) (mg : Str → Option Value) (base : Heap) (k : Nat) (x : Str) (C : Addr) (N : List Str) (ks : List Str) (sel : List Nat) : Prop where
  at_ : mg x = some (.ref C)
  T : ∃ iid, OxI K C iid
  ex : ∃ (f : Addr) (fd : FuncData) (ps : List Str), PySem.W.findIn K (.ref C) "__init__" = some (some (.ref f)) ∧ PySem.W.typeIn K (.ref f) = some (.type "function") ∧ FnOk P w K mg base CX0 k f fd ps (spI C N) ∧ Binds K fd ps [] ∧
    ∀ (s : Shared) (u : Value) (ws : List Value), ws.length = ks.length → BindsTo s fd ⟨[u], ks.zip ws⟩ (ps.zip (u :: L5.pickL sel ws))
theorem CEK.mono {P : Program} {w : World} {K : PySem.W.Frag} {mg : Str → Option Value} {base : Heap} {j k : Nat} {x : Str} {C : Addr} {N ks : List Str} {sel : List Nat} (c : CEK P w K mg base j x C N ks sel) (h : j ≤ k) : CEK P w K mg base k x C N ks sel :=
  ⟨c.at_, c.T, let ⟨f, fd, ps, a, b, F, d⟩ := c.ex; ⟨f, fd, ps, a, b, F.mono h, d⟩⟩
def tPk (sel : List Nat) (n : Nat) (tk : TA) : TA := fun σ H Q => tk σ H fun zs H1 => zs.length = n ∧ Q (L5.pickL sel zs) H1
section
variable {X : Cx} {C fI : Addr} {k : Nat} {fd : FuncData} {ps : List Str} {sp : Sp} {pins : List (Addr × Obj)} {σ : St} {H1 : Hp} {s1 : Shared} {Q : XK} {us us2 : List Value} {kw : List (Str × Value)} {vs : List V} {tl : List Value} {Bn Bi nid iid : String}
theorem xmk_run (T : OxF X.K C tl Bn Bi nid iid) (iC : PySem.W.findIn X.K (.ref C) "__init__" = some (some (.ref fI))) (tI : PySem.W.typeIn X.K (.ref fI) = some (.type "function")) (F1 : FnOk X.prog X.w X.K X.mg X.base CX0 k fI fd ps sp) (hr : Room (k + 1) X.A)
    (hb : ∀ (s : Shared) (u : Value), X.K.In s.heap → BindsTo s fd ⟨u :: us, kw⟩ (ps.zip (u :: us2))) (hl : us.length ≤ sizeLine) (hx : Passes CX0 X (fun _ _ _ => False)) (I1 : Inv X pins σ H1 s1) (r : Vals vs us2)
    (hq : ∀ a, H1 a = none → sp (.ref a :: vs) (upd H1 a (exo a C none)) (fun v H2 => v = .non ∧ ∃ (d : Addr) (fs : List (Str × V)), H2 a = some (exo a C (some d)) ∧ H2 d = some (exd d fs) ∧ H1 d = none ∧ Q (.ref C) (some d) (upd (del H2 a) d (.xd fs))) (fun _ _ _ => False)) :
    wpAny (model X.prog X.w) X.A (call (.ref C) us kw) (MkP X pins σ Q) X.xe s1 := by
  obtain ⟨nm, qn, N, bs, bm, sn, sub, ab, col, dd, k0, k1, k2, k3, k5, hC, hbm⟩ := T.cls
  obtain ⟨hp, gn, dr, tk, os⟩ := s1
  have z0 : hp.objs.size ≤ hp.objs.size + 1 := Nat.le_succ _
  have z1 : H1 (hp.objs.size + 1) = none := I1.hok.fresh z0
  have z2 := hq (hp.objs.size + 1) z1
  have up : ∀ b o, hp.get? b = some o → ((hp.push (PySem.W.kdv_tup us)).push (PySem.HandSPX.excO C hp.objs.size)).get? b = some o := fun b o e => Heap.get?_push_of_some _ (Heap.get?_push_of_some _ e)
  have at_ : ((hp.push (PySem.W.kdv_tup us)).push (PySem.HandSPX.excO C hp.objs.size)).get? (hp.objs.size + 1) = some (PySem.HandSPX.excO C hp.objs.size) := by heap_get
  have J : Inv X pins σ (upd H1 (hp.objs.size + 1) (exo (hp.objs.size + 1) C none)) ⟨(hp.push (PySem.W.kdv_tup us)).push (PySem.HandSPX.excO C hp.objs.size), gn, dr, tk, os⟩ :=
    I1.laid (t' := tk) (a := hp.objs.size + 1) (o := exo (hp.objs.size + 1) C none) (h' := (hp.push (PySem.W.kdv_tup us)).push (PySem.HandSPX.excO C hp.objs.size)) up z0 (exo_ok at_)
  have r2 : Vals (V.ref (hp.objs.size + 1) :: vs) (Value.ref (hp.objs.size + 1) :: us2) := .cons rfl r
  refine wpAny_call (xf_call T.fam hbm (I1.kIn _ _ hC) (PySem.W.looks_findIn I1.kIn iC) (fun self => PySem.W.bind_fn I1.kIn self tI) hl
    (codeAny_mono (F1.run _ X.stack _ _ ⟨Value.ref (hp.objs.size + 1) :: us, kw⟩ (Value.ref (hp.objs.size + 1) :: us2) _ _ (fun _ _ _ => False) (hr.make C us kw) (J.env0.make C us kw) (hb _ _ J.kIn) r2 z2) fun r s' y => ?_))
  cases r with
  | error er => exact hx pins σ _ _ er s' J y
  | ok fl =>
    cases fl with
    | ret u =>
      obtain ⟨v, H2, os2, bare2, un2, hok2, rv, ev, d, fs, ea, ed, hd1, q2⟩ := y
      subst ev
      obtain ⟨h2, g2, d2, t2, os'⟩ := s'
      exact ⟨rv, mk_end (raises_own T.exC T.tyC) I1 z0 up un2 hok2 os2 bare2 ea ed hd1 q2⟩
    | next => exact y.elim
    | brk => exact y.elim
    | cont => exact y.elim
end
section
variable {X : Cx} {j k : Nat} {C : Addr} {N ks : List Str} {sel : List Nat} {W : WX} {x : Str} {p q pos : Pos} {e : Expr} {es : List Expr} {t tk : TA} {kws : List Keyword}
theorem pmk_K (c : CEK X.prog X.w X.K X.mg X.base k x C N ks sel) (hr : Room (k + 1) X.A) (hg : Gl X x) (ha : PA X (e :: es) t) (hx : Passes CX0 X (fun _ _ _ => False)) (hdb : (x == ("__debug__" : Str)) = false := by decide)
    (he : starEach (e :: es) X.env = (false, eval e X.env) :: starEach es X.env := by rfl) (hpl : (backTo pos (starEach es X.env)).any (·.1) = false := by rfl) : PMk X (.Call (.Name x p) (e :: es) [] pos) (tMkO C (spI C N) [] t) := by
  intro pins s σ H Q I h
  obtain ⟨iid, tl, Bn, Bi, nid, T⟩ := c.T
  obtain ⟨f, fd, ps, iC, tI, F, b, _⟩ := c.ex
  refine wpAny_Call_Name_kw (ld_glob I hg c.at_ (PySem.W.callWith_K (h₀ := X.base) I.ok.mod.kin T.kC (thn (ha.run pos pins s σ H _ I h) fun us s1 z => ?_) he hpl) hdb)
  obtain ⟨vs, H1, I1, r1, hz, q1⟩ := z
  have hl : us.length = vs.length := r1.length.symm
  have hps : vs.length + 1 = ps.length := by
    have y := F.len _ _ _ _ (q1 (s1.heap.objs.size + 1) (I1.hok.fresh (Nat.le_succ _)))
    rw [List.append_nil, List.length_cons] at y
    exact y
  refine ⟨I1.kIn, xmk_run (us2 := us) (vs := vs) T iC tI F hr (fun s u hk => ?_) (by rw [List.nil_append, hl, sizeLine_eq]; omega) hx I1 r1 fun a ha => ?_⟩
  · have y := b s (u :: us) hk (by rw [List.append_nil, List.length_cons, hl]; exact hps)
    rw [List.append_nil] at y
    exact y
  · have y := q1 a ha
    rw [List.append_nil] at y
    exact y
theorem pmk_Kk (c : CEK X.prog X.w X.K X.mg X.base k x C N ks sel) (hr : Room (k + 1) X.A) (hg : Gl X x) (hkw : PK X kws tk) (hx : Passes CX0 X (fun _ _ _ => False))
    (hall : (backToKw pos (keywordEach kws X.env)).all (·.1.isSome) = true := by rfl) (hks : (backToKw pos (keywordEach kws X.env)).filterMap (·.1) = ks := by rfl) (hdb : (x == ("__debug__" : Str)) = false := by decide)
    (hpl : ((backTo pos (starEach [] X.env)).any (·.1) || (backToKw pos (keywordEach kws X.env)).any (·.1.isNone)) = false := by rfl) : PMk X (.Call (.Name x p) [] kws pos) (tMkO C (spI C N) [] (tPk sel ks.length tk)) := by
  intro pins s σ H Q I h
  obtain ⟨iid, tl, Bn, Bi, nid, T⟩ := c.T
  obtain ⟨f, fd, ps, iC, tI, F, _, b⟩ := c.ex
  refine wpAny_Call_Name_kw (ld_glob I hg c.at_ (PySem.W.callWith_KW0 (h₀ := X.base) I.ok.mod.kin T.kC hall (thn (hkw.run pos pins s σ H _ I h) fun ws s1 z => ?_) hpl) hdb)
  obtain ⟨zs, H1, I1, rz, hz, hz2, q1⟩ := z
  rw [hks]
  refine ⟨I1.kIn, xmk_run (us := []) (us2 := L5.pickL sel ws) (vs := L5.pickL sel zs) T iC tI F hr (fun s u _ => b s u ws (by rw [← rz.length]; exact hz)) (by show 0 ≤ sizeLine; omega) hx I1 (L5.vals_pick rz sel) fun a ha => ?_⟩
  have y := q1 a ha
  rw [List.append_nil] at y
  exact y
theorem ps_rsK (tk : Takes X W) (c : CEK X.prog X.w X.K X.mg X.base k x C N ks sel) (hr : Room j X.A) (hk : k + 1 ≤ j) (hg : Gl X x) (ha : PA X (e :: es) t) (hc : X.calm = true := by rfl) (hdb : (x == ("__debug__" : Str)) = false := by decide)
    (he : starEach (e :: es) X.env = (false, eval e X.env) :: starEach es X.env := by rfl) (hpl : (backTo q (starEach es X.env)).any (·.1) = false := by rfl) : PS X (.Raise (some (.Call (.Name x p) (e :: es) [] q)) none pos) (tRsF C N t W) :=
  ps_raise hc tk (pmk_K c (hr.mono hk) hg ha pass0 hdb he hpl)
theorem ps_rsKk (tkW : Takes X W) (c : CEK X.prog X.w X.K X.mg X.base k x C N ks sel) (hr : Room j X.A) (hk : k + 1 ≤ j) (hg : Gl X x) (hkw : PK X kws tk) (hc : X.calm = true := by rfl)
    (hall : (backToKw q (keywordEach kws X.env)).all (·.1.isSome) = true := by rfl) (hks : (backToKw q (keywordEach kws X.env)).filterMap (·.1) = ks := by rfl) (hdb : (x == ("__debug__" : Str)) = false := by decide)
    (hpl : ((backTo q (starEach [] X.env)).any (·.1) || (backToKw q (keywordEach kws X.env)).any (·.1.isNone)) = false := by rfl) : PS X (.Raise (some (.Call (.Name x p) [] kws q)) none pos) (tRsF C N (tPk sel ks.length tk) W) :=
  ps_raise hc tkW (pmk_Kk c (hr.mono hk) hg hkw pass0 hall hks hdb hpl)
end
end L3

namespace L3
open PySem PySem.Spec PyProof.Rows L2
abbrev tlV : List Value := [.type "ValueError", .type "Exception", .type "BaseException", .type "object"]
abbrev tlK : List Value := [.type "KeyError", .type "LookupError", .type "Exception", .type "BaseException", .type "object"]
theorem famV : XFam tlV "ValueError" "ValueError" "ValueError.__new__" "ValueError.__init__" := by
  have B := PySem.F.excBase_ValueError
  refine ⟨⟨_, _, B⟩, B.init.plain, B.initEntry, B.initSplit, B.initKind, B.initRow, B.noStar, ?_, ?_, ?_, ?_, ?_, rfl, fun self => PySem.F.store_ValueError.passes self⟩ <;> decide +kernel
theorem famK : XFam tlK "LookupError" "KeyError" "LookupError.__new__" "KeyError.__init__" := by
  refine ⟨⟨_, _, PySem.F.excBase_LookupError⟩, by decide +kernel, ?_, by kernel_rfl, by kernel_rfl, by kernel_rfl, by decide +kernel, by decide +kernel, by decide +kernel, by decide +kernel, by decide +kernel, by decide +kernel, rfl, fun self => ?_⟩
  · exact entryFor_alias (id' := "BaseException.__init__") (by rw [fastTable_eq_tree]; kernel_rfl) (by decide +kernel) (by decide +kernel) (by rw [fastTable_eq_tree]; kernel_rfl)
  · kernel_rfl
section
variable {P : Program} {w : World} {K : PySem.W.Frag} {mg : Str → Option Value} {base : Heap} {qual : Str} {st : Stmt} {f C : Addr} {fd : FuncData} {p1 p2 : Str} {g1 g2 m : Str} {iid : String}
theorem fnX_1 (F : Fun K "__init__" qual st f fd) (S : FnScope ["self", p1] ["self", p1] (defScope st)) (T : OxI K C iid) (h1 : PySem.W.findIn K (.ref C) g1 = some none)
    (hp : ∀ (cdv : Value) (A : Around) (outer : List Env) (s : Shared) (H : Hp) (E : XK), PSs (cxOf CX0 P w K mg base ["self", p1] qual (defScope st) f cdv A outer s H E).nox (defBody st) (tSeq (tDrop (tVeX K iid (tCons (tVar 0) (tCons (tC (.str m)) tNil)))) (tOsX K iid g1 (tVar 0) (tVar 1)))) :
    FnOk P w K mg base CX0 1 f fd ["self", p1] (spI C [g1]) := by
  obtain ⟨oc, od, kV, doc, pm, an, cdv, ct, osl, rfl, lk, hcd⟩ := F.ex
  refine fn_of lk hcd S (fun vs H Q E ⟨a, ws, e, hl, _⟩ => by rw [e, List.length_cons, hl]; rfl) fun A outer s H vs Q E _ h => ?_
  obtain ⟨a, ws, rfl, hl, ha, q⟩ := h
  match ws, hl, q with
  | [v], _, q => exact ⟨_, (hp _ A outer s H E).nox, exX_1 T h1 ha q⟩
theorem fnX_2 (F : Fun K "__init__" qual st f fd) (S : FnScope ["self", p1, p2] ["self", p1, p2] (defScope st)) (T : OxI K C iid) (h1 : PySem.W.findIn K (.ref C) g1 = some none) (h2 : PySem.W.findIn K (.ref C) g2 = some none)
    (hp : ∀ (cdv : Value) (A : Around) (outer : List Env) (s : Shared) (H : Hp) (E : XK), PSs (cxOf CX0 P w K mg base ["self", p1, p2] qual (defScope st) f cdv A outer s H E).nox (defBody st) (tSeq (tDrop (tVeX K iid (tCons (tVar 0) (tCons (tC (.str m)) tNil)))) (tSeq (tOsX K iid g1 (tVar 0) (tVar 1)) (tOsX K iid g2 (tVar 0) (tVar 2))))) :
    FnOk P w K mg base CX0 1 f fd ["self", p1, p2] (spI C [g1, g2]) := by
  obtain ⟨oc, od, kV, doc, pm, an, cdv, ct, osl, rfl, lk, hcd⟩ := F.ex
  refine fn_of lk hcd S (fun vs H Q E ⟨a, ws, e, hl, _⟩ => by rw [e, List.length_cons, hl]; rfl) fun A outer s H vs Q E _ h => ?_
  obtain ⟨a, ws, rfl, hl, ha, q⟩ := h
  match ws, hl, q with
  | [v, u], _, q => exact ⟨_, (hp _ A outer s H E).nox, exX_2 T h1 h2 ha q⟩
end
end L3

namespace L3
open PySem PySem.Spec PyProof.Rows L2 L2H
structure FnP (P : Program) (w : World) (K : PySem.W.Frag) (mg : Str → Option Value) (base : Heap) (p : Addr × Obj) (k : Nat) (f : Addr) (fd : FuncData) (ps : List Str) (sp : Sp) : Prop where
  len : ∀ vs H Q E, sp vs H Q E → vs.length = ps.length
  run : ∀ (A : Around) (outer : List Env) (s : Shared) (H : Hp) (args : Args) (us : List Value) (vs : List V) (Q : VK) (E : XK), RoomH k A → PinOk outer H s p → Env0 P w K mg base A outer s H → BindsTo s fd args (ps.zip us) → Vals vs us → sp vs H Q E →
    codeAny (model P w) A (.call (.ref f) args) (CR CX0 outer P w H s Q E) s
section
variable {P : Program} {w : World} {K : PySem.W.Frag} {mg : Str → Option Value} {base : Heap} {p : Addr × Obj}
theorem FnP.mono {j k : Nat} {f : Addr} {fd : FuncData} {ps : List Str} {sp : Sp} (F : FnP P w K mg base p j f fd ps sp) (h : j ≤ k) : FnP P w K mg base p k f fd ps sp :=
  ⟨F.len, fun A outer s H args us vs Q E hr => F.run A outer s H args us vs Q E (hr.mono h)⟩
theorem fnP_of {k : Nat} {x qual : Str} {st : Stmt} {f : Addr} {fd : FuncData} {N ps : List Str} {sp : Sp} (F : Fun K x qual st f fd) (S : FnScope N ps (defScope st)) (hlen : ∀ vs H Q E, sp vs H Q E → vs.length = ps.length)
    (hbody : ∀ (cdv : Value) (A : Around) (outer : List Env) (s : Shared) (H : Hp) (vs : List V) (Q : VK) (E : XK), RoomH k (A.deeper (envOfC qual (defScope st) s.heap.objs.size f cdv)) → sp vs H Q E →
      ∃ t, PSs (cxH CX0 P w K mg base N qual (defScope st) f cdv A outer s H E p) (defBody st) t ∧ t { nx := fun _ H1 => Q .non H1, rt := Q } (L2.start N vs) H) : FnP P w K mg base p (k + 1) f fd ps sp := by
  obtain ⟨oc, od, kV, doc, pm, an, cdv, ct, osl, rfl, lk, hcd⟩ := F.ex
  refine ⟨hlen, fun A outer s H args us vs Q E hr hp e0 hb r hsp => ?_⟩
  have ik : K.In s.heap := e0.mod.kin.keeps fun b u q => (e0.bs b u q).1
  have nl : s.heap.NoLimit := e0.mod.nolimit.keeps fun b u q => (e0.bs b u q).1
  have hk : ∀ y ∈ ps.zip us, (defScope st).names.lookup y.1 = some .local ∨ ((defScope st).names.lookup y.1 = some .cell ∧ ((cellsFrom (s.heap.objs.size + 1) (defScope st).names []).lookup y.1).isSome = true) := by
    rintro ⟨n, v⟩ hy
    cases S.par n (List.of_mem_zip hy).1 with
    | inl z => exact .inl z
    | inr z => exact .inr ⟨z, PySem.W.cellsFrom_some _ _ _ (.inl z)⟩
  refine codeAny_call_function hr.depth (ik _ _ lk) rfl S.co S.gen rfl (PySem.W.codeRec_of ik hcd) (hb _ _ _ _ (wpAny_newFunctionEnv_cells S.kind hk fun env henv s1 inc => ?_))
  subst henv
  obtain ⟨t, ht, hq⟩ := hbody cdv A outer s H vs Q E (hr.deeper _) hsp
  have I : Inv (cxH CX0 P w K mg base N qual (defScope st) f cdv A outer s H E p) [] (L2.start N vs) H s1 := inv_startH S hp e0 (hlen _ _ _ _ hsp) r inc
  refine ⟨nl.keeps inc.toInCall.keep, codeAny_func (wpAny_mono (ht.run [] s1 (L2.start N vs) H _ I hq) (fun fl s2 hs => ?_) fun _ _ z => z)⟩
  match fl, hs with
  | .ret u, ⟨v, τ, H1, J, rv, q⟩ => exact ⟨v, H1, J.os, J.bare, J.base, J.hok, rv, q⟩
  | .next, ⟨τ, H1, J, q⟩ => exact ⟨V.non, H1, J.os, J.bare, J.base, J.hok, rfl, q⟩
  | .brk, ⟨_, _, _, q⟩ => exact q.elim
  | .cont, ⟨_, _, _, q⟩ => exact q.elim
end
structure CgP (P : Program) (w : World) (K : PySem.W.Frag) (mg : Str → Option Value) (base : Heap) (k : Nat) (x : Str) (sp : Addr → Option Addr → Addr → Sp) : Prop where
  ex : ∃ (f : Addr) (fd : FuncData) (ps : List Str), mg x = some (.ref f) ∧ PySem.W.keepIn K (.ref f) = true ∧ Binds K fd ps [] ∧
    ∀ (a C : Addr) (oe : Obj) (d : Option Addr), Zc (.ref C) d oe → (∃ vs, oe.data = .fields vs) → FnP P w K mg base (a, oe) k f fd ps (sp a d C)
def tCgP (sp : Addr → Option Addr → Addr → Sp) (a : Addr) (cls : Value) (d : Option Addr) (t : TA) : TE := fun σ H Q => t σ H fun vs H1 => ∃ C, cls = .ref C ∧ sp a d C vs H1 Q fun _ _ _ => False
section
variable {X : Cx} {j k : Nat} {a : Addr} {oe : Obj} {cls : Value} {d : Option Addr} {pn : List (Addr × Obj)} {x : Str} {p pos : Pos} {e : Expr} {es : List Expr} {t : TA} {sp : Addr → Option Addr → Addr → Sp}
theorem pe_cgP (c : CgP X.prog X.w X.K X.mg X.base k x sp) (hz : Zc cls d oe) (hf : ∃ vs, oe.data = .fields vs) (hr : Room j X.A) (hk : k ≤ j) (hg : Gl X x) (ha : PA (X.suite a ((a, oe) :: pn)) (e :: es) t)
    (hdb : (x == ("__debug__" : Str)) = false := by decide) (he : starEach (e :: es) X.env = (false, eval e X.env) :: starEach es X.env := by rfl) (hpl : (backTo pos (starEach es X.env)).any (·.1) = false := by rfl)
    (hst : X.stack = X.env :: X.outer := by rfl) (hfr : X.env.frame = some X.env.locals := by rfl) :
    PE (X.suite a ((a, oe) :: pn)) (.Call (.Name x p) (e :: es) [] pos) (tCgP sp a cls d t) := by
  obtain ⟨f, fd, ps, hm, kp, b, F⟩ := c.ex
  refine ⟨fun pins s σ H Q I h => Call_ (ld_glob (X := X.suite a ((a, oe) :: pn)) I hg hm ?_ hdb)⟩
  refine PySem.W.callWith_K (h₀ := X.base) I.ok.mod.kin kp (thn (ha.run pos pins s σ H _ I h) fun us s1 out => ?_) he hpl
  obtain ⟨vs, H1, I1, rv, C, rfl, q⟩ := out
  refine ⟨I1.kIn, ?_⟩
  have Fp := F a C oe d hz hf
  have hb := b s1 us I1.kIn (by rw [List.append_nil, ← rv.length]; exact Fp.len _ _ _ _ q)
  rw [List.append_nil] at hb
  obtain ⟨p1, p2, p3, p4, p5⟩ := I1.pin (a, oe) (List.mem_append_left _ List.mem_cons_self)
  have hp : PinOk X.stack H1 s1 (a, oe) := ⟨p1, p2, fun hm => by
    rw [hst] at hm
    unfold frs at hm
    rw [List.filterMap_cons, hfr] at hm
    rcases List.mem_cons.mp hm with z | z
    · exact p3 z
    · exact p4 z, p5⟩
  refine wpAny_call (codeAny_mono (Fp.run (X.A.mark (some (.ref a))) X.stack s1 H1 ⟨us, []⟩ us vs Q _ ⟨(hr.mono hk).dp, (hr.mono hk).un⟩ hp I1.env0 hb rv q) fun r2 s2 hq => ?_)
  match r2, hq with
  | .error e, hq => exact pass0 pins σ H1 s1 e s2 I1 hq
  | .ok (.ret u), hq => exact I1.after hq
  | .ok .next, hq => exact hq.elim
  | .ok .brk, hq => exact hq.elim
  | .ok .cont, hq => exact hq.elim
end
theorem call_isP {X : Cx} {a : Addr} {oe : Obj} {cls : Value} {d : Option Addr} (hp : (a, oe) ∈ X.pn) (hz : Zc cls d oe) (hf : ∃ vs, oe.data = .fields vs) : CallR X (.builtin "isinstance") (rIsX X.K a cls d) := by
  intro pins s σ H xs us Q I r h
  obtain ⟨c, b, C, rfl, rfl, hC, hd, ia, q⟩ := h
  obtain ⟨u1, u2, rfl, rx, rt⟩ := vals2 r
  cases rx
  have at_ := (I.pin (a, oe) (List.mem_append_left _ hp)).1
  obtain ⟨vs, hv⟩ := hf
  have nc : PySem.W.notCls oe := by unfold PySem.W.notCls; rw [hv] <;> rfl
  obtain ⟨od, J⟩ : ∃ od, PySem.W.InstAt s.heap a oe C od := by
    rcases hd with rfl | ⟨dd, fs, rfl, hx⟩
    · exact ⟨none, at_, hz.1, nc, by rw [hz.2]; trivial⟩
    · obtain ⟨mA, hns, _⟩ := (show ObjOk X.prog X.w H s.heap dd (.xd fs) from I.hok dd _ hx)
      obtain ⟨o2, ho, _⟩ := lookIn_ns hns
      exact ⟨some o2, at_, hz.1, nc, by rw [hz.2]; exact ho⟩
  obtain ⟨cd, hcd, _⟩ := PySem.W.any_some hC.hd
  have Z : PySem.W.KitX X.K (.ref a) (.ref C) (fun h => PySem.W.InstAt h a oe C od) := PySem.W.kitx_exc (by rw [hcd]; rfl) hC.hg hC.hk hC.hs hC.ha hC.hn hC.ht hC.hm
  have out : ∀ tk, EP X pins σ Q (.bool b) { s with toks := tk } := fun tk => ⟨.bl b, H, I.kept (t' := tk) fun _ _ z => z, rfl, q⟩
  cases ia with
  | one hcv e =>
    have ec := hcv _ rt
    subst ec
    exact PySem.W.kia_one Z I.kIn J e (fun z => nomatch z) out
  | tup hq e =>
    cases rt
    obtain ⟨its, rv, ⟨⟨cl, dt, da, sl⟩, ho, hc, n, hs⟩, _⟩ := I.tuple hq
    cases (show cl = .type "tuple" from hc)
    cases (show da = .seq its.toArray n from hs)
    exact PySem.W.kia_tup Z I.kIn J ho (e its rv) (fun z => nomatch z) out
theorem kIsP {X : Cx} {K : PySem.W.Frag} {a : Addr} {oe : Obj} {cls : Value} {d : Option Addr} (hp : (a, oe) ∈ X.pn) (hz : Zc cls d oe) (hf : ∃ vs, oe.data = .fields vs) (hK : X.K = K := by rfl) : CallR X (.builtin "isinstance") (rIsX K a cls d) := hK ▸ call_isP hp hz hf
theorem pe_xfP {X : Cx} {a C : Addr} {oe : Obj} {cls : Value} {d : Option Addr} {e : Expr} {te : TE} {pos : Pos} {n : Str} (T : XfC X.K C) (hno : PySem.W.findIn X.K (.ref C) n = some none) (hp : (a, oe) ∈ X.pn)
    (hz : Zc cls d oe) (hf : ∃ vs, oe.data = .fields vs) (he : PE X e te) (hb : attributeBase e n X.env (eval e X.env) = eval e X.env := by rfl) : PE X (.Attribute e n pos) (tXf a cls d C n te) := by
  refine ⟨fun pins s σ H Q I h => attr_of hb (thn (he.run pins s σ H _ I h) fun u s1 out => ?_)⟩
  obtain ⟨x, H1, I1, rx, rfl, rfl, dd, fs, v, rfl, ea, l, q⟩ := out
  obtain rfl : u = Value.ref a := rx
  obtain ⟨vs, hd⟩ := hf
  obtain ⟨mA, hns, hr⟩ := (show ObjOk X.prog X.w H1 s1.heap dd (.xd fs) from I1.hok dd _ ea)
  obtain ⟨od, ho, hl⟩ := lookIn_ns hns
  obtain ⟨u, hu, ru⟩ := RelO.some_of (v := v) (o := mA n) (by rw [← l]; exact hr n)
  have J : PySem.W.InstAt s1.heap a oe C (some od) := ⟨(I1.pin (a, oe) (List.mem_append_left _ hp)).1, hz.1, by unfold PySem.W.notCls; rw [hd] <;> rfl, by rw [hz.2]; exact ho⟩
  exact PySem.HandSPX.exc_get I1.kIn J T.ga T.gg T.exC (PySem.W.findObj_own T.hdC hno rfl (by rw [hl, hu])) (handed_of ru) ⟨v, H1, I1.tok _, ru, q⟩
end L3
namespace L5
open PySem PySem.Spec PyProof.Rows L2 L3 L2H
theorem kEqBU {X : Cx} {K : PySem.W.Frag} {k : Nat} (hr : RoomH k X.A) (hK : X.K = K := by rfl) : OpR X (compareOp .Eq) (rEqB K) := hK ▸ (op_eq.or (op_eqD (by have := hr.un; omega))).or op_eqBI
section
variable {K : PySem.W.Frag} {ta : TA} {fa : ATA} {a C : Addr} {cls : Value} {d : Option Addr} {g : Addr → Option Addr → Addr → AL}
theorem se_cgP (hc : cls = .ref C) (ha : SA K ta fa) : SE K (tCgP (fun a d C => cSp K (g a d C)) a cls d ta) (aCB (g a d C) fa) := ⟨fun {W S σ ρ H Q P} I E h c =>
  ha.run I E h fun W1 S1 xs ps H1 l1 I1 r1 h1 => ⟨C, hc, W1, S1, ps, P, I1, r1, h1, c.up l1⟩⟩
end
def aPk (sel : List Nat) (n : Nat) (f : ATA) : ATA := fun ρ S R => f ρ S fun ps S1 => ps.length = n ∧ R (pickL sel ps) S1
theorem sa_pk {K : PySem.W.Frag} {t : TA} {f : ATA} {sel : List Nat} {n : Nat} (h : SA K t f) : SA K (tPk sel n t) (aPk sel n f) := ⟨fun I E k c =>
  h.run I E k fun W1 S1 vs ps H1 l1 I1 r1 ⟨hn, h1⟩ => ⟨by rw [r1.length]; exact hn, c _ _ _ _ _ l1 I1 (r1.pick sel) h1⟩⟩
end L5

namespace L3
open PySem PySem.Spec PyProof.Rows L2
open PySem.W (kdx_alive)
theorem en_no_len : typeLookup (.type "enumerate") "__len__" = pure none := am_miss_of_fast (by decide +kernel)
theorem en_no_hint : typeLookup (.type "enumerate") "__length_hint__" = pure none := am_miss_of_fast (by decide +kernel)
structure EPos (S e it l : Addr) (xs : Array Value) (i : Nat) (h : Heap) : Prop where
  pos : h.IsListIter it l i
  ls : h.IsList l xs
  out : (∃ old, IsEnum h e it i old) ∨ ∃ old t f ot, IsEnumHeld h e it i old t f ∧ h.get? t = some ot ∧ S < t
structure ELow (S e it l : Addr) : Prop where
  le : e < S
  li : it < S
  ll : l < S
  n1 : e ≠ it
  n2 : l ≠ e
  n3 : l ≠ it
theorem EPos.keep {S e it l : Addr} {xs : Array Value} {i : Nat} {h h' : Heap} (z : EPos S e it l xs i h) (L : ELow S e it l) (k : ∀ d o, d ≠ S → h.get? d = some o → h'.get? d = some o) : EPos S e it l xs i h' := by
  obtain ⟨⟨o1, e1, r1⟩, ⟨o2, e2, r2⟩, z3⟩ := z
  refine ⟨⟨o1, k _ _ (Nat.ne_of_lt L.li) e1, r1⟩, ⟨o2, k _ _ (Nat.ne_of_lt L.ll) e2, r2⟩, ?_⟩
  rcases z3 with ⟨old, y⟩ | ⟨old, t, f, ot, y, et, lt⟩
  · exact .inl ⟨old, k _ _ (Nat.ne_of_lt L.le) y⟩
  · exact .inr ⟨old, t, f, ot, k _ _ (Nat.ne_of_lt L.le) y, k _ _ (Nat.ne_of_gt lt) et, lt⟩
def IsPr (h : Heap) (t : Addr) (i : Nat) (x : Value) : Prop := ∃ tk, h.get? t = some { cls := .type "tuple", data := .seq #[.int (i : Int) tk, x] }
section
variable {prog : Program} {w : World} {A : Around} {E : Value → Shared → Prop} {s : Shared} {S e it l : Addr} {xs : Array Value} {i : Nat}
theorem en_item {x : Value} {Q : Option Value → Shared → Prop} (L : ELow S e it l) (z : EPos S e it l xs i s.heap) (hS : S < s.heap.objs.size) (hx : xs[i]? = some x)
    (k : ∀ h', EPos S e it l xs (i + 1) h' → IsPr h' s.heap.objs.size i x → h'.objs.size = s.heap.objs.size + 1 → (∀ d o, d ≠ e → d ≠ it → s.heap.get? d = some o → h'.get? d = some o) → Q (some (.ref s.heap.objs.size)) { s with heap := h', toks := s.toks + 1 }) :
    wpAny (model prog w) A (pyNext (.ref e)) Q E s := by
  obtain ⟨z1, z2, z3⟩ := z
  have ec : ((i + 1 : Nat) : Int) = (i : Int) + 1 := by omega
  rcases z3 with ⟨old, y⟩ | ⟨old, t, f, ot, y, et, lt⟩
  · refine wpAny_pyNext_enum_item y z1 z2 hx L.n1 fun h' a1 a2 a3 a4 a5 => k h' ⟨a2, z2.at fun o q => a5 _ o L.n2 L.n3 q, .inr ⟨_, s.heap.objs.size, false, _, (by rw [ec]; exact a1), a3, hS⟩⟩ ⟨_, a3⟩ a4 a5
  · refine wpAny_pyNext_enum_item_held y et (Nat.ne_of_gt (Nat.lt_trans L.le lt)) (Nat.ne_of_gt (Nat.lt_trans L.li lt)) z1 z2 hx L.n1 fun h' a1 a2 a3 a4 a5 =>
      k h' ⟨a2, z2.at fun o q => a5 _ o L.n2 L.n3 q, .inr ⟨old, t, true, ot, (by rw [ec]; exact a1), a5 _ _ (Nat.ne_of_gt (Nat.lt_trans L.le lt)) (Nat.ne_of_gt (Nat.lt_trans L.li lt)) et, lt⟩⟩ ⟨_, a3⟩ a4 a5
theorem en_end {Q : Option Value → Shared → Prop} (hh : A.handled = none) (z : EPos S e it l xs i s.heap) (hx : xs[i]? = none)
    (k : ∀ h', (∀ d o, d ≠ e → d ≠ it → s.heap.get? d = some o → h'.get? d = some o) → Q none { s with heap := h' }) : wpAny (model prog w) A (pyNext (.ref e)) Q E s := by
  obtain ⟨z1, z2, z3⟩ := z
  rcases z3 with ⟨old, y⟩ | ⟨old, t, f, ot, y, et, lt⟩
  · exact wpAny_pyNext_enum_end hh y z1 z2 hx fun h' q => k h' fun d o _ n2 r => q d o n2 r
  · exact wpAny_pyNext_enum_end_held hh y z1 z2 hx fun h' q => k h' fun d o _ n2 r => q d o n2 r
structure EG (xs : Array Value) (lo : Addr) (h : Heap) (as : List Addr) : Prop where
  above : ∀ t ∈ as, lo < t
  pairs : ∀ (j : Nat) (t : Addr), as[j]? = some t → ∃ x, xs[j]? = some x ∧ IsPr h t j x
theorem en_loop {R : Result → Shared → Prop} (hh : A.handled = none) (L : ELow S e it l) (hn : xs.size ≤ sizeLine) (res : Value) {h₁ : Heap}
    (hR : ∀ h' tk acc m as, (∀ d o, d ≠ S → d ≠ e → d ≠ it → h₁.get? d = some o → h'.get? d = some o) → h'.get? S = some { cls := .type "list", dict := none, data := .seq acc m, slots := #[] } → as.length = xs.size → EG xs S h' as →
      acc.toList = as.map Value.ref → R (.ok (.ret res)) { s with heap := h', toks := tk }) :
    ∀ (k i : Nat) (h : Heap) (tk m : Nat) (acc : Array Value) (as : List Addr), xs.size - i = k → i ≤ xs.size → EPos S e it l xs i h → (∀ d o, d ≠ S → d ≠ e → d ≠ it → h₁.get? d = some o → h.get? d = some o) →
      h.get? S = some { cls := .type "list", dict := none, data := .seq acc m, slots := #[] } → acc.toList = as.map Value.ref → as.length = i → EG xs S h as →
      codeAny (model prog w) A (.builtin "list.extend.loop" ⟨[.ref S, .ref e, res], []⟩) R { s with heap := h, toks := tk } := by
  intro k
  induction k with
  | zero =>
    intro i h tk m acc as hk hi hst kp hS hacc hal hG
    refine codeAny_builtin PySem.F.entry_extend_loop ?_
    rw [Around.under_plainId PySem.F.plain_extend_loop _]
    show wpAny _ A.in1 (pyNext (.ref e) >>= _) _ _ _
    refine wpAny_bind (en_end (s := { s with heap := h, toks := tk }) (A := A.in1) hh hst (Array.getElem?_eq_none (by omega)) fun h' q => ?_)
    refine wpAny_pure (hR h' tk acc m as (fun d o n1 n2 n3 r => q d o n2 n3 (kp d o n1 n2 n3 r)) (q S _ (Nat.ne_of_gt L.le) (Nat.ne_of_gt L.li) hS) (by omega) ⟨hG.above, fun j t hj => ?_⟩ hacc)
    obtain ⟨x, e1, tk2, e2⟩ := hG.pairs j t hj
    have g := hG.above t (List.mem_of_getElem? hj)
    exact ⟨x, e1, tk2, q t _ (Nat.ne_of_gt (Nat.lt_trans L.le g)) (Nat.ne_of_gt (Nat.lt_trans L.li g)) e2⟩
  | succ k ih =>
    intro i h tk m acc as hk hi hst kp hS hacc hal hG
    have hlt : i < xs.size := by omega
    have hsz : acc.size = i := by rw [← Array.length_toList, hacc, List.length_map, hal]
    have hSl : S < h.objs.size := Heap.lt_size hS
    refine codeAny_builtin PySem.F.entry_extend_loop ?_
    rw [Around.under_plainId PySem.F.plain_extend_loop _]
    show wpAny _ A.in1 (pyNext (.ref e) >>= _) _ _ _
    refine wpAny_bind (en_item (s := { s with heap := h, toks := tk }) (x := xs[i]) L hst hSl (Array.getElem?_eq_getElem hlt) fun h' hst' ht _ kq => ?_)
    dsimp only at ht kq ⊢
    have hS' := kq S _ (Nat.ne_of_gt L.le) (Nat.ne_of_gt L.li) hS
    have up : ∀ d o, d ≠ S → h'.get? d = some o → (h'.update S (Obj.mapSeq (·.push (Value.ref h.objs.size)))).get? d = some o := fun d o nd r => (Heap.get?_update_other _ _ (Ne.symm nd)).trans r
    show wpAny _ A.in1 (updateSeq S (·.push (Value.ref h.objs.size)) >>= _) _ _ _
    refine wpAny_bind (wpAny_updateSeq hS' rfl (wpAny_pure ⟨plainId_quiet PySem.F.plain_extend_loop _, ih (i + 1) _ (tk + 1) _ (acc.push (Value.ref h.objs.size)) (as ++ [h.objs.size]) (by omega) hlt (hst'.keep L up)
      (fun d o n1 n2 n3 r => up d o n1 (kq d o n2 n3 (kp d o n1 n2 n3 r))) (Heap.get?_update_self _ hS' rfl) (by rw [Array.toList_push, hacc, List.map_append]; rfl) (by rw [List.length_append, hal]; rfl) ⟨?_, ?_⟩⟩) (by rw [hsz]; omega) (by show (acc.push (Value.ref h.objs.size)).size ≤ _; rw [Array.size_push, hsz]; omega))
    · intro t ht1
      rcases List.mem_append.mp ht1 with q | q
      · exact hG.above t q
      · rw [List.mem_singleton.mp q]; exact hSl
    · intro j t hj
      rcases Nat.lt_trichotomy j as.length with g1 | g1 | g1
      · rw [List.getElem?_append_left g1] at hj
        obtain ⟨x, e1, tk2, e2⟩ := hG.pairs j t hj
        have q := hG.above t (List.mem_of_getElem? hj)
        exact ⟨x, e1, tk2, up t _ (Nat.ne_of_gt q) (kq t _ (Nat.ne_of_gt (Nat.lt_trans L.le q)) (Nat.ne_of_gt (Nat.lt_trans L.li q)) e2)⟩
      · subst g1
        have q : h.objs.size = t := by simpa using hj
        subst q
        subst hal
        obtain ⟨tk2, e2⟩ := ht
        exact ⟨_, Array.getElem?_eq_getElem hlt, tk2, up _ _ (Nat.ne_of_gt hSl) e2⟩
      · rw [List.getElem?_eq_none (by rw [List.length_append, List.length_singleton]; omega)] at hj
        cases hj
end
section
variable {prog : Program} {w : World} {A : Around} {E : Value → Shared → Prop} {s : Shared} {e it l : Addr} {xs : Array Value}
theorem en_call {Q : Value → Shared → Prop} (hh : A.handled = none) (L : ELow s.heap.objs.size e it l) (hz : EPos s.heap.objs.size e it l xs 0 s.heap) (h0 : ∃ old, IsEnum s.heap e it 0 old) (hn : xs.size ≤ sizeLine)
    (k : ∀ h' tk acc m as, (∀ d o, d ≠ e → d ≠ it → s.heap.get? d = some o → h'.get? d = some o) → h'.get? s.heap.objs.size = some { cls := .type "list", dict := none, data := .seq acc m, slots := #[] } → as.length = xs.size → EG xs s.heap.objs.size h' as →
      acc.toList = as.map Value.ref → Q (.ref s.heap.objs.size) { s with heap := h', toks := tk }) :
    wpAny (model prog w) A (call (.type "list") [.ref e]) Q E s := by
  refine callType_codes (Q₁ := fun o1 s₁ => o1 = .ref s.heap.objs.size ∧ s₁ = { s with heap := s.heap.push { cls := .type "list", data := .seq #[] } }) PySem.F.called_list (PySem.F.typeCall_list_1 _) PySem.F.entry_list_init (code_list_new _ ⟨rfl, rfl⟩) fun o1 s₁ q1 => ?_
  obtain ⟨rfl, rfl⟩ := q1
  have g0 : (s.heap.push { cls := .type "list", data := .seq #[] }).get? s.heap.objs.size = some { cls := .type "list", data := .seq #[] } := Heap.get?_push_size _ rfl
  refine ⟨⟨_, g0, rfl⟩, PySem.F.args_list_init_2 _ _, ?_⟩
  generalize hS : s.heap.objs.size = S at L hz k g0 ⊢
  have low : ∀ d o, s.heap.get? d = some o → d ≠ S := fun d o r q => by rw [← hS] at q; exact Nat.lt_irrefl _ (q ▸ Heap.lt_size r)
  have hz1 : EPos S e it l xs 0 (s.heap.push { cls := .type "list", data := .seq #[] }) := hz.keep L fun d o _ r => Heap.get?_push_of_some _ r
  have h01 : ∃ old, IsEnum (s.heap.push { cls := .type "list", data := .seq #[] }) e it 0 old := h0.imp fun _ r => Heap.get?_push_of_some _ r
  have kp1 : ∀ d o, s.heap.get? d = some o → (s.heap.push { cls := .type "list", data := .seq #[] }).get? d = some o := fun d o r => Heap.get?_push_of_some _ r
  generalize s.heap.push { cls := .type "list", data := .seq #[] } = h1 at g0 hz1 h01 kp1 ⊢
  show wpAny _ _ (do let old ← Builtin.List.listItems (.ref S); Builtin.List.listUpdate (.ref S) (fun _ => #[]); letGo old.toList.reverse; Builtin.List.listExtendWith (.ref S) (.ref e) .none) _ _ _
  refine wpAny_bind ?_
  unfold Builtin.List.listItems
  refine wpAny_bind (wpAny_seqItems g0 rfl (wpAny_pure ?_))
  show wpAny _ _ (updateSeq S (fun _ => #[]) >>= fun _ => letGo (#[] : Array Value).toList.reverse >>= fun _ => Builtin.List.listExtendWith (.ref S) (.ref e) .none) _ _ _
  refine wpAny_bind (wpAny_updateSeq g0 rfl (wpAny_bind (wpAny_letGo ?_)))
  have g2 := Heap.get?_update_self (Obj.mapSeq (fun _ => (#[] : Array Value))) g0 rfl
  have kp2 : ∀ d o, d ≠ S → h1.get? d = some o → (h1.update S (Obj.mapSeq (fun _ => (#[] : Array Value)))).get? d = some o := fun d o nd r => (Heap.get?_update_other _ _ (Ne.symm nd)).trans r
  have hz2 := hz1.keep L kp2
  have h02 : ∃ old, IsEnum (h1.update S (Obj.mapSeq (fun _ => (#[] : Array Value)))) e it 0 old := h01.imp fun _ r => kp2 _ _ (Nat.ne_of_lt L.le) r
  have kp3 : ∀ d o, s.heap.get? d = some o → (h1.update S (Obj.mapSeq (fun _ => (#[] : Array Value)))).get? d = some o := fun d o r => kp2 d o (low d o r) (kp1 d o r)
  generalize h1.update S (Obj.mapSeq (fun _ => (#[] : Array Value))) = h2 at g2 hz2 h02 kp3 ⊢
  obtain ⟨old, h02⟩ := h02
  have ty : Shared.TypeIs { s with heap := h2 } (.ref e) "enumerate" := ⟨_, h02, rfl⟩
  have fin : ∀ (h : Heap) (m tk : Nat), (∀ d o, d ≠ S → h2.get? d = some o → h.get? d = some o) → h.get? S = some { cls := .type "list", data := .seq #[] m } →
      codeAny (model prog w) A.in1 (.builtin "list.extend.loop" ⟨[.ref S, .ref e, .none], []⟩) (wants (fun r s₂ => r = .none ∧ Q (.ref S) s₂) E) { s with heap := h, toks := tk } := fun h m tk kq gq => by
    refine en_loop (A := A.in1) (s := s) (h₁ := s.heap) hh L hn .none (fun h' tk' acc m' as e1 e2 e3 e4 e5 => ⟨rfl, k h' tk' acc m' as (fun d o n2 n3 r => e1 d o (low d o r) n2 n3 r) e2 e3 e4 e5⟩) xs.size 0 h tk m #[] [] (Nat.sub_zero _) (Nat.zero_le _) (hz2.keep L kq) (fun d o n1 _ _ r => kq d o n1 (kp3 d o r)) gq rfl rfl ⟨(fun _ z => nomatch z), fun j t z => nomatch z⟩
  unfold Builtin.List.listExtendWith
  refine wpAny_bind (wpAny_typeOf ty ?_)
  simp only [show Builtin.List.listSameRef (.ref S) (.ref e) = false by simp [Builtin.List.listSameRef, Nat.ne_of_gt L.le], show (Value.type "enumerate" == Value.type "list") = false by decide, show (Value.type "enumerate" == Value.type "tuple") = false by decide, Bool.or_false, Bool.false_eq_true, if_false]
  refine wpAny_bind (wpAny_pyIter_enum h02 (wpAny_bind (wpAny_holding ?_)))
  unfold Builtin.List.listLengthHint
  refine wpAny_bind (wpAny_specialOf ty en_no_len ?_)
  show wpAny _ _ (specialOf (Value.ref e) (Str.ofString "__length_hint__") >>= _) _ _ _
  refine wpAny_bind (wpAny_specialOf ty en_no_hint (wpAny_pure ?_))
  show wpAny _ _ (rule "list.extend.makes-room" >>= fun _ => Builtin.List.listTouch (.ref S) >>= fun _ => again (.builtin "list.extend.loop" ⟨[.ref S, .ref e, .none], []⟩)) _ _ _
  refine wpAny_bind (wpAny_rule (wpAny_bind ?_))
  show wpAny _ _ (updateSeq S (·.push .none) >>= fun _ => updateSeq S (·.pop)) _ _ _
  refine wpAny_bind (wpAny_updateSeq g2 rfl ?_)
  have g3 := Heap.get?_update_self (Obj.mapSeq (·.push Value.none)) g2 rfl
  refine wpAny_updateSeq (hz := by seq_fits) g3 rfl (wpAny_pure ⟨plainId_quiet PySem.F.plain_extend_loop _, fin _ _ _ (fun d o nd r => ?_) (Heap.get?_update_self (Obj.mapSeq (·.pop)) g3 rfl)⟩)
  exact (Heap.get?_update_other _ _ (Ne.symm nd)).trans ((Heap.get?_update_other _ _ (Ne.symm nd)).trans r)
end
def enK : Nat → List V → List (Key × V)
  | _, [] => []
  | i, x :: r => (.inl (i : Int), x) :: enK (i + 1) r
theorem enK_len : ∀ (i : Nat) (xs : List V), (enK i xs).length = xs.length
  | _, [] => rfl
  | i, _ :: r => congrArg (· + 1) (enK_len (i + 1) r)
theorem enK_kv : ∀ (i : Nat) {xs : List V} {us : List Value}, Vals xs us → KV (enK i xs) ((us.zipIdx i).map fun p => ((.inl (p.2 : Int) : Key), p.1))
  | _, _, _, .nil => .nil
  | i, _, _, .cons r rs => .cons ⟨rfl, r⟩ (enK_kv (i + 1) rs)
def tDLE (K : PySem.W.Frag) (te : TE) : TE := fun σ H Q => te σ H fun x H1 => ∃ a xs, x = .ref a ∧ SqL K H1 a xs ∧ xs.length ≤ 1000 ∧ ∀ q, H1 q = none → Q (.ref q) (upd H1 q (.dK (enK 0 xs)))
section
variable {X : Cx}
theorem pe_dictLE {e : Expr} {te : TE} {p1 p2 p3 q1 q2 q3 : Pos} (hc : X.calm = true) (hg : Gl X "dict") (hm : X.mg "dict" = none) (hg2 : Gl X "list") (hm2 : X.mg "list" = none) (hg3 : Gl X "enumerate") (hm3 : X.mg "enumerate" = none) (he : PE X e te)
    (h3 : starEach [e] X.env = (false, eval e X.env) :: starEach [] X.env := by rfl)
    (h2 : starEach [.Call (.Name "enumerate" p3) [e] [] q3] X.env = (false, eval (.Call (.Name "enumerate" p3) [e] [] q3) X.env) :: starEach [] X.env := by rfl)
    (h1 : starEach [.Call (.Name "list" p2) [.Call (.Name "enumerate" p3) [e] [] q3] [] q2] X.env = (false, eval (.Call (.Name "list" p2) [.Call (.Name "enumerate" p3) [e] [] q3] [] q2) X.env) :: starEach [] X.env := by rfl) :
    PE X (.Call (.Name "dict" p1) [.Call (.Name "list" p2) [.Call (.Name "enumerate" p3) [e] [] q3] [] q2] [] q1) (tDLE X.K te) := by
  refine ⟨fun pins s σ H Q I h => ?_⟩
  refine Call_ (ld_blt I hg hm PyProof.Rows.boot_dict (PyProof.Rows.callWith_type1 (args_cons (Call_ (ld_blt I hg2 hm2 boot_list (PyProof.Rows.callWith_type1 (args_cons (Call_ (ld_blt I hg3 hm3 PyProof.Rows.boot_enumerate (PyProof.Rows.callWith_type1 (args_cons (thn (he.run pins s σ H _ I h) fun v s1 out => args_nil ?_) h3) h3 rfl))) h2) h2 rfl))) h1) h1 rfl))
  obtain ⟨x, H1, I1, r1, a, xs, rfl, hq, hl, q⟩ := out
  cases r1
  obtain ⟨its, rv, pl, _⟩ := I1.list hq
  have ll : its.length = xs.length := rv.length.symm
  have la : a < s1.heap.objs.size := by obtain ⟨o, n, g, _⟩ := id pl; exact Heap.lt_size g
  have isl : s1.heap.IsList a its.toArray := by obtain ⟨o, n, g, c1, c2, c3⟩ := id pl; exact ⟨o, g, c1, n, c3⟩
  refine call_enumerate_list isl fun h' he0 hit hsz hk => args_nil ?_
  have L0 : ∀ n a : Nat, a < n → ELow (n + 2) (n + 1) n a := fun n a h => ⟨by show n + 1 < n + 2; omega, by show n < n + 2; omega, by show a < n + 2; omega, by show n + 1 ≠ n; omega, by show a ≠ n + 1; omega, by show a ≠ n; omega⟩
  have L : ELow h'.objs.size (s1.heap.objs.size + 1) s1.heap.objs.size a := by rw [hsz]; exact L0 _ _ la
  refine en_call (s := { s1 with heap := h' }) (xs := its.toArray) (I1.ok.hd hc) L ⟨hit, isl.at fun o g => hk _ o g, .inl ⟨_, he0⟩⟩ ⟨_, he0⟩ (by rw [List.size_toArray, ll, sizeLine_eq]; omega) fun h2' tk acc m as e1 e2 e3 e4 e5 => args_nil ?_
  rw [List.size_toArray] at e3
  -- the pairs
  have pr : ∀ j, j < as.length → ∃ p : Value × Value, ∃ t tk x, as[j]? = some t ∧ its[j]? = some x ∧ p = (.int (j : Int) tk, x) ∧ h2'.get? t = some { cls := .type "tuple", data := .seq #[.int (j : Int) tk, x] } := fun j hj => by
    obtain ⟨x, g1, tk, g2⟩ := e4.pairs j as[j] (List.getElem?_eq_getElem hj)
    exact ⟨_, as[j], tk, x, List.getElem?_eq_getElem hj, by rw [← g1]; simp, rfl, g2⟩
  obtain ⟨ps, pl2, pp⟩ : ∃ ps : List (Value × Value), ps.length = as.length ∧ ∀ (j : Nat) (p : Value × Value), ps[j]? = some p → ∃ t tk x, as[j]? = some t ∧ its[j]? = some x ∧ p = (.int (j : Int) tk, x) ∧ h2'.get? t = some { cls := .type "tuple", data := .seq #[.int (j : Int) tk, x] } := by
    refine ⟨(List.range as.length).attach.map fun j => (pr j.1 (List.mem_range.mp j.2)).choose, by simp, fun j p hp => ?_⟩
    rw [List.getElem?_map] at hp
    obtain ⟨⟨j2, hj2⟩, g1, g2⟩ := Option.map_eq_some_iff.mp hp
    have ej : j2 = j := by
      have := congrArg (Option.map Subtype.val) g1
      rw [← List.getElem?_map, List.attach_map_subtype_val] at this
      obtain ⟨_, z⟩ := List.getElem?_eq_some_iff.mp this
      simpa using z.symm
    subst ej
    rw [← g2]
    exact (pr j2 (List.mem_range.mp hj2)).choose_spec
  have pz : h2'.objs.size > h'.objs.size := Heap.lt_size e2
  refine call_dict_pairs (s := { s1 with heap := h2', toks := tk }) (knd := mixKind X.prog X.w) (kvs := (its.zipIdx 0).map fun p => ((.inl (p.2 : Int) : Key), p.1)) (PairArg.list h'.objs.size acc (fun j => (as[j]?).getD 0) ps) (I1.ok.hd hc)
    ⟨⟨_, _, e2, rfl, rfl, rfl⟩, ?_, fun j k v g => ?_⟩ ⟨by rw [List.length_map, List.length_zipIdx, pl2]; omega, fun i key v g => ?_⟩ (by rw [pl2, e3, ll, sizeLine_eq]; omega) fun h3' tk3 hD hk3 => ?_
  · show acc.size = _
    rw [← Array.length_toList, e5, List.length_map, pl2]
  · obtain ⟨t, tk2, x, g1, g2, g3, g4⟩ := pp j (k, v) g
    cases g3
    refine ⟨?_, ?_⟩
    · show acc[j]? = some (.ref ((as[j]?).getD 0))
      rw [← Array.getElem?_toList, e5, List.getElem?_map, g1]
      rfl
    · show PairAt h2' ((as[j]?).getD 0) _ _
      rw [g1]
      exact .inl ⟨_, g4, rfl, _, rfl⟩
  · obtain ⟨t, tk2, x, g1, g2, g3, g4⟩ := pp i (key, v) g
    cases g3
    refine ⟨.inl (i : Int), ?_, by simp [mixKind, keyIs, Value.isInt]⟩
    rw [List.getElem?_map, List.getElem?_zipIdx, g2]
    simp
  · have nd : (((its.zipIdx 0).map fun p => ((.inl (p.2 : Int) : Key), p.1)).map (·.1)).Nodup := by
      rw [List.map_map]
      have : (its.zipIdx 0).map ((·.1) ∘ fun p : Value × Nat => ((.inl (p.2 : Int) : Key), p.1)) = (List.range its.length).map fun j : Nat => (.inl (j : Int) : Key) := by
        rw [show ((·.1) ∘ fun p : Value × Nat => ((.inl (p.2 : Int) : Key), p.1)) = (fun j : Nat => (.inl (j : Int) : Key)) ∘ Prod.snd from rfl, ← List.map_map, List.zipIdx_map_snd, List.range_eq_range']
      rw [this]
      exact List.Pairwise.map _ (fun a b (hab : a ≠ b) z => hab (by injection z with z; exact Int.ofNat.inj z)) List.nodup_range
    rw [merged_nil_of_nodup _ nd] at hD
    have up : ∀ b o, s1.heap.get? b = some o → h3'.get? b = some o := fun b o g => by
      have lb := Heap.lt_size g
      exact hk3 b o List.not_mem_nil (e1 b o (Nat.ne_of_lt (Nat.lt_succ_of_lt lb)) (Nat.ne_of_lt lb) (hk b o g))
    have le : s1.heap.objs.size ≤ h2'.objs.size := by
      have z : s1.heap.objs.size ≤ h'.objs.size := by rw [hsz]; exact Nat.le_add_right _ _
      exact Nat.le_trans z (Nat.le_of_lt pz)
    refine ⟨.ref h2'.objs.size, _, I1.laid (t' := tk3) (a := h2'.objs.size) (o := .dK (enK 0 xs)) (h' := h3') up le ⟨by rw [enK_len, sizeLine_eq]; omega, ?_, _, enK_kv 0 rv, hD⟩, rfl, q _ (I1.hok.fresh le)⟩
    exact beq_eq_false_iff_ne.mpr (Ne.symm (Nat.ne_of_lt (Nat.lt_of_lt_of_le I1.big le)))
end
end L3
namespace L5
open PySem PySem.Spec PyProof.Rows L2 L3
def rgK (i n : Nat) : List Key := (List.range n).map fun j => .inl ((i + j : Nat) : Int)
theorem rgK_enK : ∀ (i : Nat) (xs : List V), (enK i xs).map Prod.fst = rgK i xs.length
  | _, [] => rfl
  | i, x :: r => by
    rw [enK, List.map_cons, rgK_enK (i + 1) r]
    unfold rgK
    rw [List.length_cons, List.range_succ_eq_map, List.map_cons, List.map_map]
    refine congr (congrArg _ rfl) (List.map_congr_left fun j _ => ?_)
    show (Sum.inl ((i + 1 + j : Nat) : Int) : Key) = .inl ((i + (j + 1) : Nat) : Int)
    rw [show i + 1 + j = i + (j + 1) by omega]
theorem enK_snd : ∀ (i : Nat) (xs : List V), (enK i xs).map Prod.snd = xs
  | _, [] => rfl
  | i, x :: r => congrArg (x :: ·) (enK_snd (i + 1) r)
theorem rgK_nodup (i n : Nat) : (rgK i n).Nodup :=
  List.Pairwise.map _ (fun a b (h : a ≠ b) z => h (by
    have e : (((i + a : Nat) : Int)) = ((i + b : Nat) : Int) := Sum.inl.inj z
    omega)) List.nodup_range
section
variable {K : PySem.W.Frag} {te : TE} {fe : ATE}
def aDLE (fe : ATE) : ATE := fun ρ S P => fe ρ S fun p S1 => ∃ xs, lv p S1 = some xs ∧ xs.length ≤ 1000 ∧ P (.dct (rgK 0 xs.length) xs) S1
theorem se_dictLE (he : SE K te fe) : SE K (tDLE K te) (aDLE fe) := ⟨fun {W S σ ρ H Q P} I E h c =>
  he.run I E h fun W1 S1 v p H1 l1 I1 r1 ⟨xs, e, hl, h1⟩ => by
    obtain ⟨a, us, ev, hq, rs⟩ := r1.lv I1 e
    refine ⟨a, us, ev, hq, by rw [rs.length]; exact hl, fun q hn => ?_⟩
    obtain ⟨I2, l2⟩ := I1.keep1 (o := .dK (enK 0 us)) hn
    refine c _ _ _ _ _ (l1.trans l2) I2 (.dct (kvs := enK 0 us) upd_same (by rw [rgK_enK, rs.length]) (rgK_nodup 0 _) ?_) h1
    rw [enK_snd]
    exact rs.up l2.toLo⟩
end
end L5

namespace L5
open PySem PySem.Spec PyProof.Rows L2 L3 L2H
theorem okAP {P : Program} {w : World} {K : PySem.W.Frag} {mg : Str → Option Value} {base : Heap} {p : Addr × Obj} {x qual : Str} {st : Stmt} {f : Addr} {fd : FuncData} {N ps : List Str} {k : Nat} {asp : AL} {t : TS} {fs : ATS} (F : Fun K x qual st f fd) (Sc : FnScope N ps (defScope st))
    (hp : ∀ (cdv : Value) (A : Around) (outer : List Env) (s : Shared) (H : Hp) (E : XK), RoomH k (A.deeper (envOfC qual (defScope st) s.heap.objs.size f cdv)) → PSs (cxH CX0 P w K mg base N qual (defScope st) f cdv A outer s H E p) (defBody st) t)
    (hs : SS K t fs) (hN : ps.length ≤ N.length) (hlen : ∀ vs S R, asp vs S R → vs.length = ps.length) (h : ∀ vs S R, asp vs S R → fs { nx := fun _ S => R .non S, rt := R } (startA N vs) S) : FnP P w K mg base p (k + 1) f fd ps (cSp K asp) := by
  refine fnP_of F Sc (fun vs H Q E h => ?_) (fun cdv A outer s H vs Q E hr h2 => ⟨t, hp cdv A outer s H E hr, ?_⟩)
  · obtain ⟨W, S, qs, R, _, r, h3, _⟩ := h
    rw [r.length]
    exact hlen _ _ _ h3
  · obtain ⟨W, S, qs, R, I, r, h3, c⟩ := h2
    exact hs.run I (ER.start r (by rw [r.length, hlen _ _ _ h3]; exact hN)) (h _ _ _ h3) ⟨fun W' S' σ ρ H' l I' _ k => c _ _ _ _ _ l I' .non k, c, fun _ _ _ _ _ _ _ _ k => k.elim, fun _ _ _ _ _ _ _ _ k => k.elim⟩
theorem pe_dictLEK {X : Cx} {K : PySem.W.Frag} {e : Expr} {te : TE} {p1 p2 p3 q1 q2 q3 : Pos} (hc : X.calm = true) (hg : Gl X "dict") (hm : X.mg "dict" = none) (hg2 : Gl X "list") (hm2 : X.mg "list" = none) (hg3 : Gl X "enumerate") (hm3 : X.mg "enumerate" = none) (he : PE X e te)
    (hK : X.K = K := by rfl) (h3 : starEach [e] X.env = (false, eval e X.env) :: starEach [] X.env := by rfl)
    (h2 : starEach [.Call (.Name "enumerate" p3) [e] [] q3] X.env = (false, eval (.Call (.Name "enumerate" p3) [e] [] q3) X.env) :: starEach [] X.env := by rfl)
    (h1 : starEach [.Call (.Name "list" p2) [.Call (.Name "enumerate" p3) [e] [] q3] [] q2] X.env = (false, eval (.Call (.Name "list" p2) [.Call (.Name "enumerate" p3) [e] [] q3] [] q2) X.env) :: starEach [] X.env := by rfl) :
    PE X (.Call (.Name "dict" p1) [.Call (.Name "list" p2) [.Call (.Name "enumerate" p3) [e] [] q3] [] q2] [] q1) (tDLE K te) := hK ▸ pe_dictLE hc hg hm hg2 hm2 hg3 hm3 he h3 h2 h1
end L5

namespace K01
open PySem PySem.Spec PyProof.Rows L2 L3 L5
theorem sc__law_source : FnScope ["_law_script", "_law_cells", "_law_mixed", "_law_cell"] ["_law_script"] (defScope st__law_source) := ⟨rfl, rfl, rfl, by decide +kernel, rfl, by decide +kernel, by decide +kernel⟩
theorem sc__law_draw : FnScope ["_law_source_here", "_law_bound", "_law_at", "_law_number", "_law_cell"] ["_law_source_here", "_law_bound"] (defScope st__law_draw) := ⟨rfl, rfl, rfl, by decide +kernel, rfl, by decide +kernel, by decide +kernel⟩
theorem sc__law_pick : FnScope ["_law_source_here", "_law_items"] ["_law_source_here", "_law_items"] (defScope st__law_pick) := ⟨rfl, rfl, rfl, by decide +kernel, rfl, by decide +kernel, by decide +kernel⟩
theorem sc__law_thing : FnScope ["_law_source_here", "_law_depth", "_law_mode", "_law_some", "_law_inner", "_law_k"] ["_law_source_here", "_law_depth"] (defScope st__law_thing) := ⟨rfl, rfl, rfl, by decide +kernel, rfl, by decide +kernel, by decide +kernel⟩
theorem sc__law_raise_plain : FnScope ["_law_number"] ["_law_number"] (defScope st__law_raise_plain) := ⟨rfl, rfl, rfl, by decide +kernel, rfl, by decide +kernel, by decide +kernel⟩
theorem sc__law_raise : FnScope ["_law_number", "_law_one", "_law_other"] ["_law_number", "_law_one", "_law_other"] (defScope st__law_raise) := ⟨rfl, rfl, rfl, by decide +kernel, rfl, by decide +kernel, by decide +kernel⟩
theorem sc__law_raise_named : FnScope ["_law_number", "_law_one", "_law_other"] ["_law_number", "_law_one", "_law_other"] (defScope st__law_raise_named) := ⟨rfl, rfl, rfl, by decide +kernel, rfl, by decide +kernel, by decide +kernel⟩
theorem sc__law_marks : FnScope ["_law_e", "_law_found"] ["_law_e"] (defScope st__law_marks) := ⟨rfl, rfl, rfl, by decide +kernel, rfl, by decide +kernel, by decide +kernel⟩
theorem sc__law_wire_fields : FnScope ["_law_e", "_law_number"] ["_law_e", "_law_number"] (defScope st__law_wire_fields) := ⟨rfl, rfl, rfl, by decide +kernel, rfl, by decide +kernel, by decide +kernel⟩
theorem sc__law_unknown_fields : FnScope ["_law_e", "_law_number"] ["_law_e", "_law_number"] (defScope st__law_unknown_fields) := ⟨rfl, rfl, rfl, by decide +kernel, rfl, by decide +kernel, by decide +kernel⟩
theorem sc__law_caught : FnScope ["_law_number", "_law_one", "_law_other", "_law_is_named", "_law_found", "_law_e"] ["_law_number", "_law_one", "_law_other", "_law_is_named"] (defScope st__law_caught) := ⟨rfl, rfl, rfl, by decide +kernel, rfl, by decide +kernel, by decide +kernel⟩
theorem sc__law_expected : FnScope ["_law_number", "_law_one", "_law_other", "_law_marks_here", "_law_is_wire", "_law_fields", "_law_k"] ["_law_number", "_law_one", "_law_other"] (defScope st__law_expected) := ⟨rfl, rfl, rfl, by decide +kernel, rfl, by decide +kernel, by decide +kernel⟩
theorem sc_law : FnScope ["_law_script", "_law_source_here", "_law_number", "_law_one", "_law_other", "_law_kept", "_law_is_named"] ["_law_script"] (defScope st_law) := ⟨rfl, rfl, rfl, by decide +kernel, rfl, by decide +kernel, by decide +kernel⟩
theorem sc_InvalidChange___init__ : FnScope ["self", "change"] ["self", "change"] (defScope st_InvalidChange___init__) := ⟨rfl, rfl, rfl, by decide +kernel, rfl, by decide +kernel, by decide +kernel⟩
theorem sc_NameTaken___init__ : FnScope ["self", "name"] ["self", "name"] (defScope st_NameTaken___init__) := ⟨rfl, rfl, rfl, by decide +kernel, rfl, by decide +kernel, by decide +kernel⟩
theorem sc_NotItsTurn___init__ : FnScope ["self", "station"] ["self", "station"] (defScope st_NotItsTurn___init__) := ⟨rfl, rfl, rfl, by decide +kernel, rfl, by decide +kernel, by decide +kernel⟩
theorem sc_PurseExceeded___init__ : FnScope ["self", "count"] ["self", "count"] (defScope st_PurseExceeded___init__) := ⟨rfl, rfl, rfl, by decide +kernel, rfl, by decide +kernel, by decide +kernel⟩
theorem sc_TooAlike___init__ : FnScope ["self", "first", "second"] ["self", "first", "second"] (defScope st_TooAlike___init__) := ⟨rfl, rfl, rfl, by decide +kernel, rfl, by decide +kernel, by decide +kernel⟩
theorem sc_TooManyRounds___init__ : FnScope ["self", "rounds"] ["self", "rounds"] (defScope st_TooManyRounds___init__) := ⟨rfl, rfl, rfl, by decide +kernel, rfl, by decide +kernel, by decide +kernel⟩
theorem sc_UnknownName___init__ : FnScope ["self", "name"] ["self", "name"] (defScope st_UnknownName___init__) := ⟨rfl, rfl, rfl, by decide +kernel, rfl, by decide +kernel, by decide +kernel⟩
theorem sc_UnknownStation___init__ : FnScope ["self", "station"] ["self", "station"] (defScope st_UnknownStation___init__) := ⟨rfl, rfl, rfl, by decide +kernel, rfl, by decide +kernel, by decide +kernel⟩
theorem sc_UnknownTalk___init__ : FnScope ["self", "talk"] ["self", "talk"] (defScope st_UnknownTalk___init__) := ⟨rfl, rfl, rfl, by decide +kernel, rfl, by decide +kernel, by decide +kernel⟩
structure Ad where
  Finished : Addr
  Impossible : Addr
  InvalidChange : Addr
  InvalidCommand : Addr
  InvalidLink : Addr
  InvalidTable : Addr
  InvalidText : Addr
  NameTaken : Addr
  NotItsTurn : Addr
  PurseExceeded : Addr
  TooAlike : Addr
  TooManyRounds : Addr
  Unknown : Addr
  UnknownName : Addr
  UnknownStation : Addr
  UnknownTalk : Addr
  WireError : Addr
def xr (D : Ad) (C : Addr) : Prop := C = D.Finished ∨ C = D.Impossible ∨ C = D.InvalidChange ∨ C = D.InvalidCommand ∨ C = D.InvalidLink ∨ C = D.InvalidTable ∨ C = D.InvalidText ∨ C = D.NameTaken ∨ C = D.NotItsTurn ∨ C = D.PurseExceeded ∨ C = D.TooAlike ∨ C = D.TooManyRounds ∨ C = D.UnknownName ∨ C = D.UnknownStation ∨ C = D.UnknownTalk
def sub_Finished (D : Ad) (C : Addr) (b : Bool) : Prop := (C = D.Finished ∧ b = true) ∨ (C = D.Impossible ∧ b = false) ∨ (C = D.InvalidChange ∧ b = false) ∨ (C = D.InvalidCommand ∧ b = false) ∨ (C = D.InvalidLink ∧ b = false) ∨ (C = D.InvalidTable ∧ b = false) ∨ (C = D.InvalidText ∧ b = false) ∨ (C = D.NameTaken ∧ b = false) ∨ (C = D.NotItsTurn ∧ b = false) ∨ (C = D.PurseExceeded ∧ b = false) ∨ (C = D.TooAlike ∧ b = false) ∨ (C = D.TooManyRounds ∧ b = false) ∨ (C = D.UnknownName ∧ b = false) ∨ (C = D.UnknownStation ∧ b = false) ∨ (C = D.UnknownTalk ∧ b = false)
def sub_Impossible (D : Ad) (C : Addr) (b : Bool) : Prop := (C = D.Finished ∧ b = false) ∨ (C = D.Impossible ∧ b = true) ∨ (C = D.InvalidChange ∧ b = false) ∨ (C = D.InvalidCommand ∧ b = false) ∨ (C = D.InvalidLink ∧ b = false) ∨ (C = D.InvalidTable ∧ b = false) ∨ (C = D.InvalidText ∧ b = false) ∨ (C = D.NameTaken ∧ b = false) ∨ (C = D.NotItsTurn ∧ b = false) ∨ (C = D.PurseExceeded ∧ b = false) ∨ (C = D.TooAlike ∧ b = false) ∨ (C = D.TooManyRounds ∧ b = false) ∨ (C = D.UnknownName ∧ b = false) ∨ (C = D.UnknownStation ∧ b = false) ∨ (C = D.UnknownTalk ∧ b = false)
def sub_IndexError (D : Ad) (C : Addr) (b : Bool) : Prop := (C = D.Finished ∧ b = false) ∨ (C = D.Impossible ∧ b = false) ∨ (C = D.InvalidChange ∧ b = false) ∨ (C = D.InvalidCommand ∧ b = false) ∨ (C = D.InvalidLink ∧ b = false) ∨ (C = D.InvalidTable ∧ b = false) ∨ (C = D.InvalidText ∧ b = false) ∨ (C = D.NameTaken ∧ b = false) ∨ (C = D.NotItsTurn ∧ b = false) ∨ (C = D.PurseExceeded ∧ b = false) ∨ (C = D.TooAlike ∧ b = false) ∨ (C = D.TooManyRounds ∧ b = false) ∨ (C = D.UnknownName ∧ b = false) ∨ (C = D.UnknownStation ∧ b = false) ∨ (C = D.UnknownTalk ∧ b = false)
def sub_InvalidChange (D : Ad) (C : Addr) (b : Bool) : Prop := (C = D.Finished ∧ b = false) ∨ (C = D.Impossible ∧ b = false) ∨ (C = D.InvalidChange ∧ b = true) ∨ (C = D.InvalidCommand ∧ b = false) ∨ (C = D.InvalidLink ∧ b = false) ∨ (C = D.InvalidTable ∧ b = false) ∨ (C = D.InvalidText ∧ b = false) ∨ (C = D.NameTaken ∧ b = false) ∨ (C = D.NotItsTurn ∧ b = false) ∨ (C = D.PurseExceeded ∧ b = false) ∨ (C = D.TooAlike ∧ b = false) ∨ (C = D.TooManyRounds ∧ b = false) ∨ (C = D.UnknownName ∧ b = false) ∨ (C = D.UnknownStation ∧ b = false) ∨ (C = D.UnknownTalk ∧ b = false)
def sub_InvalidCommand (D : Ad) (C : Addr) (b : Bool) : Prop := (C = D.Finished ∧ b = false) ∨ (C = D.Impossible ∧ b = false) ∨ (C = D.InvalidChange ∧ b = false) ∨ (C = D.InvalidCommand ∧ b = true) ∨ (C = D.InvalidLink ∧ b = false) ∨ (C = D.InvalidTable ∧ b = false) ∨ (C = D.InvalidText ∧ b = false) ∨ (C = D.NameTaken ∧ b = false) ∨ (C = D.NotItsTurn ∧ b = false) ∨ (C = D.PurseExceeded ∧ b = false) ∨ (C = D.TooAlike ∧ b = false) ∨ (C = D.TooManyRounds ∧ b = false) ∨ (C = D.UnknownName ∧ b = false) ∨ (C = D.UnknownStation ∧ b = false) ∨ (C = D.UnknownTalk ∧ b = false)
def sub_InvalidLink (D : Ad) (C : Addr) (b : Bool) : Prop := (C = D.Finished ∧ b = false) ∨ (C = D.Impossible ∧ b = false) ∨ (C = D.InvalidChange ∧ b = false) ∨ (C = D.InvalidCommand ∧ b = false) ∨ (C = D.InvalidLink ∧ b = true) ∨ (C = D.InvalidTable ∧ b = false) ∨ (C = D.InvalidText ∧ b = false) ∨ (C = D.NameTaken ∧ b = false) ∨ (C = D.NotItsTurn ∧ b = false) ∨ (C = D.PurseExceeded ∧ b = false) ∨ (C = D.TooAlike ∧ b = false) ∨ (C = D.TooManyRounds ∧ b = false) ∨ (C = D.UnknownName ∧ b = false) ∨ (C = D.UnknownStation ∧ b = false) ∨ (C = D.UnknownTalk ∧ b = false)
def sub_InvalidTable (D : Ad) (C : Addr) (b : Bool) : Prop := (C = D.Finished ∧ b = false) ∨ (C = D.Impossible ∧ b = false) ∨ (C = D.InvalidChange ∧ b = false) ∨ (C = D.InvalidCommand ∧ b = false) ∨ (C = D.InvalidLink ∧ b = false) ∨ (C = D.InvalidTable ∧ b = true) ∨ (C = D.InvalidText ∧ b = false) ∨ (C = D.NameTaken ∧ b = false) ∨ (C = D.NotItsTurn ∧ b = false) ∨ (C = D.PurseExceeded ∧ b = false) ∨ (C = D.TooAlike ∧ b = false) ∨ (C = D.TooManyRounds ∧ b = false) ∨ (C = D.UnknownName ∧ b = false) ∨ (C = D.UnknownStation ∧ b = false) ∨ (C = D.UnknownTalk ∧ b = false)
def sub_InvalidText (D : Ad) (C : Addr) (b : Bool) : Prop := (C = D.Finished ∧ b = false) ∨ (C = D.Impossible ∧ b = false) ∨ (C = D.InvalidChange ∧ b = false) ∨ (C = D.InvalidCommand ∧ b = false) ∨ (C = D.InvalidLink ∧ b = false) ∨ (C = D.InvalidTable ∧ b = false) ∨ (C = D.InvalidText ∧ b = true) ∨ (C = D.NameTaken ∧ b = false) ∨ (C = D.NotItsTurn ∧ b = false) ∨ (C = D.PurseExceeded ∧ b = false) ∨ (C = D.TooAlike ∧ b = false) ∨ (C = D.TooManyRounds ∧ b = false) ∨ (C = D.UnknownName ∧ b = false) ∨ (C = D.UnknownStation ∧ b = false) ∨ (C = D.UnknownTalk ∧ b = false)
def sub_KeyError (D : Ad) (C : Addr) (b : Bool) : Prop := (C = D.Finished ∧ b = false) ∨ (C = D.Impossible ∧ b = false) ∨ (C = D.InvalidChange ∧ b = false) ∨ (C = D.InvalidCommand ∧ b = false) ∨ (C = D.InvalidLink ∧ b = false) ∨ (C = D.InvalidTable ∧ b = false) ∨ (C = D.InvalidText ∧ b = false) ∨ (C = D.NameTaken ∧ b = false) ∨ (C = D.NotItsTurn ∧ b = false) ∨ (C = D.PurseExceeded ∧ b = false) ∨ (C = D.TooAlike ∧ b = false) ∨ (C = D.TooManyRounds ∧ b = false) ∨ (C = D.UnknownName ∧ b = true) ∨ (C = D.UnknownStation ∧ b = true) ∨ (C = D.UnknownTalk ∧ b = true)
def sub_NameTaken (D : Ad) (C : Addr) (b : Bool) : Prop := (C = D.Finished ∧ b = false) ∨ (C = D.Impossible ∧ b = false) ∨ (C = D.InvalidChange ∧ b = false) ∨ (C = D.InvalidCommand ∧ b = false) ∨ (C = D.InvalidLink ∧ b = false) ∨ (C = D.InvalidTable ∧ b = false) ∨ (C = D.InvalidText ∧ b = false) ∨ (C = D.NameTaken ∧ b = true) ∨ (C = D.NotItsTurn ∧ b = false) ∨ (C = D.PurseExceeded ∧ b = false) ∨ (C = D.TooAlike ∧ b = false) ∨ (C = D.TooManyRounds ∧ b = false) ∨ (C = D.UnknownName ∧ b = false) ∨ (C = D.UnknownStation ∧ b = false) ∨ (C = D.UnknownTalk ∧ b = false)
def sub_NotItsTurn (D : Ad) (C : Addr) (b : Bool) : Prop := (C = D.Finished ∧ b = false) ∨ (C = D.Impossible ∧ b = false) ∨ (C = D.InvalidChange ∧ b = false) ∨ (C = D.InvalidCommand ∧ b = false) ∨ (C = D.InvalidLink ∧ b = false) ∨ (C = D.InvalidTable ∧ b = false) ∨ (C = D.InvalidText ∧ b = false) ∨ (C = D.NameTaken ∧ b = false) ∨ (C = D.NotItsTurn ∧ b = true) ∨ (C = D.PurseExceeded ∧ b = false) ∨ (C = D.TooAlike ∧ b = false) ∨ (C = D.TooManyRounds ∧ b = false) ∨ (C = D.UnknownName ∧ b = false) ∨ (C = D.UnknownStation ∧ b = false) ∨ (C = D.UnknownTalk ∧ b = false)
def sub_PurseExceeded (D : Ad) (C : Addr) (b : Bool) : Prop := (C = D.Finished ∧ b = false) ∨ (C = D.Impossible ∧ b = false) ∨ (C = D.InvalidChange ∧ b = false) ∨ (C = D.InvalidCommand ∧ b = false) ∨ (C = D.InvalidLink ∧ b = false) ∨ (C = D.InvalidTable ∧ b = false) ∨ (C = D.InvalidText ∧ b = false) ∨ (C = D.NameTaken ∧ b = false) ∨ (C = D.NotItsTurn ∧ b = false) ∨ (C = D.PurseExceeded ∧ b = true) ∨ (C = D.TooAlike ∧ b = false) ∨ (C = D.TooManyRounds ∧ b = false) ∨ (C = D.UnknownName ∧ b = false) ∨ (C = D.UnknownStation ∧ b = false) ∨ (C = D.UnknownTalk ∧ b = false)
def sub_TooAlike (D : Ad) (C : Addr) (b : Bool) : Prop := (C = D.Finished ∧ b = false) ∨ (C = D.Impossible ∧ b = false) ∨ (C = D.InvalidChange ∧ b = false) ∨ (C = D.InvalidCommand ∧ b = false) ∨ (C = D.InvalidLink ∧ b = false) ∨ (C = D.InvalidTable ∧ b = false) ∨ (C = D.InvalidText ∧ b = false) ∨ (C = D.NameTaken ∧ b = false) ∨ (C = D.NotItsTurn ∧ b = false) ∨ (C = D.PurseExceeded ∧ b = false) ∨ (C = D.TooAlike ∧ b = true) ∨ (C = D.TooManyRounds ∧ b = false) ∨ (C = D.UnknownName ∧ b = false) ∨ (C = D.UnknownStation ∧ b = false) ∨ (C = D.UnknownTalk ∧ b = false)
def sub_TooManyRounds (D : Ad) (C : Addr) (b : Bool) : Prop := (C = D.Finished ∧ b = false) ∨ (C = D.Impossible ∧ b = false) ∨ (C = D.InvalidChange ∧ b = false) ∨ (C = D.InvalidCommand ∧ b = false) ∨ (C = D.InvalidLink ∧ b = false) ∨ (C = D.InvalidTable ∧ b = false) ∨ (C = D.InvalidText ∧ b = false) ∨ (C = D.NameTaken ∧ b = false) ∨ (C = D.NotItsTurn ∧ b = false) ∨ (C = D.PurseExceeded ∧ b = false) ∨ (C = D.TooAlike ∧ b = false) ∨ (C = D.TooManyRounds ∧ b = true) ∨ (C = D.UnknownName ∧ b = false) ∨ (C = D.UnknownStation ∧ b = false) ∨ (C = D.UnknownTalk ∧ b = false)
def sub_Unknown (D : Ad) (C : Addr) (b : Bool) : Prop := (C = D.Finished ∧ b = false) ∨ (C = D.Impossible ∧ b = false) ∨ (C = D.InvalidChange ∧ b = false) ∨ (C = D.InvalidCommand ∧ b = false) ∨ (C = D.InvalidLink ∧ b = false) ∨ (C = D.InvalidTable ∧ b = false) ∨ (C = D.InvalidText ∧ b = false) ∨ (C = D.NameTaken ∧ b = false) ∨ (C = D.NotItsTurn ∧ b = false) ∨ (C = D.PurseExceeded ∧ b = false) ∨ (C = D.TooAlike ∧ b = false) ∨ (C = D.TooManyRounds ∧ b = false) ∨ (C = D.UnknownName ∧ b = true) ∨ (C = D.UnknownStation ∧ b = true) ∨ (C = D.UnknownTalk ∧ b = true)
def sub_UnknownName (D : Ad) (C : Addr) (b : Bool) : Prop := (C = D.Finished ∧ b = false) ∨ (C = D.Impossible ∧ b = false) ∨ (C = D.InvalidChange ∧ b = false) ∨ (C = D.InvalidCommand ∧ b = false) ∨ (C = D.InvalidLink ∧ b = false) ∨ (C = D.InvalidTable ∧ b = false) ∨ (C = D.InvalidText ∧ b = false) ∨ (C = D.NameTaken ∧ b = false) ∨ (C = D.NotItsTurn ∧ b = false) ∨ (C = D.PurseExceeded ∧ b = false) ∨ (C = D.TooAlike ∧ b = false) ∨ (C = D.TooManyRounds ∧ b = false) ∨ (C = D.UnknownName ∧ b = true) ∨ (C = D.UnknownStation ∧ b = false) ∨ (C = D.UnknownTalk ∧ b = false)
def sub_UnknownStation (D : Ad) (C : Addr) (b : Bool) : Prop := (C = D.Finished ∧ b = false) ∨ (C = D.Impossible ∧ b = false) ∨ (C = D.InvalidChange ∧ b = false) ∨ (C = D.InvalidCommand ∧ b = false) ∨ (C = D.InvalidLink ∧ b = false) ∨ (C = D.InvalidTable ∧ b = false) ∨ (C = D.InvalidText ∧ b = false) ∨ (C = D.NameTaken ∧ b = false) ∨ (C = D.NotItsTurn ∧ b = false) ∨ (C = D.PurseExceeded ∧ b = false) ∨ (C = D.TooAlike ∧ b = false) ∨ (C = D.TooManyRounds ∧ b = false) ∨ (C = D.UnknownName ∧ b = false) ∨ (C = D.UnknownStation ∧ b = true) ∨ (C = D.UnknownTalk ∧ b = false)
def sub_UnknownTalk (D : Ad) (C : Addr) (b : Bool) : Prop := (C = D.Finished ∧ b = false) ∨ (C = D.Impossible ∧ b = false) ∨ (C = D.InvalidChange ∧ b = false) ∨ (C = D.InvalidCommand ∧ b = false) ∨ (C = D.InvalidLink ∧ b = false) ∨ (C = D.InvalidTable ∧ b = false) ∨ (C = D.InvalidText ∧ b = false) ∨ (C = D.NameTaken ∧ b = false) ∨ (C = D.NotItsTurn ∧ b = false) ∨ (C = D.PurseExceeded ∧ b = false) ∨ (C = D.TooAlike ∧ b = false) ∨ (C = D.TooManyRounds ∧ b = false) ∨ (C = D.UnknownName ∧ b = false) ∨ (C = D.UnknownStation ∧ b = false) ∨ (C = D.UnknownTalk ∧ b = true)
def sub_ValueError (D : Ad) (C : Addr) (b : Bool) : Prop := (C = D.Finished ∧ b = true) ∨ (C = D.Impossible ∧ b = true) ∨ (C = D.InvalidChange ∧ b = true) ∨ (C = D.InvalidCommand ∧ b = true) ∨ (C = D.InvalidLink ∧ b = true) ∨ (C = D.InvalidTable ∧ b = true) ∨ (C = D.InvalidText ∧ b = true) ∨ (C = D.NameTaken ∧ b = true) ∨ (C = D.NotItsTurn ∧ b = true) ∨ (C = D.PurseExceeded ∧ b = true) ∨ (C = D.TooAlike ∧ b = true) ∨ (C = D.TooManyRounds ∧ b = true) ∨ (C = D.UnknownName ∧ b = false) ∨ (C = D.UnknownStation ∧ b = false) ∨ (C = D.UnknownTalk ∧ b = false)
def sub_WireError (D : Ad) (C : Addr) (b : Bool) : Prop := (C = D.Finished ∧ b = true) ∨ (C = D.Impossible ∧ b = true) ∨ (C = D.InvalidChange ∧ b = true) ∨ (C = D.InvalidCommand ∧ b = true) ∨ (C = D.InvalidLink ∧ b = true) ∨ (C = D.InvalidTable ∧ b = true) ∨ (C = D.InvalidText ∧ b = true) ∨ (C = D.NameTaken ∧ b = true) ∨ (C = D.NotItsTurn ∧ b = true) ∨ (C = D.PurseExceeded ∧ b = true) ∨ (C = D.TooAlike ∧ b = true) ∨ (C = D.TooManyRounds ∧ b = true) ∨ (C = D.UnknownName ∧ b = false) ∨ (C = D.UnknownStation ∧ b = false) ∨ (C = D.UnknownTalk ∧ b = false)
structure Txt (K : PySem.W.Frag) (mg : Str → Option Value) (D : Ad) : Prop where
  b_IndexError : mg "IndexError" = none
  b_KeyError : mg "KeyError" = none
  b_ValueError : mg "ValueError" = none
  b_dict : mg "dict" = none
  b_enumerate : mg "enumerate" = none
  b_int : mg "int" = none
  b_isinstance : mg "isinstance" = none
  b_len : mg "len" = none
  b_list : mg "list" = none
  b_range : mg "range" = none
  b_repr : mg "repr" = none
  b_tuple : mg "tuple" = none
  g_Finished : mg "Finished" = some (.ref D.Finished)
  g_Impossible : mg "Impossible" = some (.ref D.Impossible)
  g_InvalidChange : mg "InvalidChange" = some (.ref D.InvalidChange)
  g_InvalidCommand : mg "InvalidCommand" = some (.ref D.InvalidCommand)
  g_InvalidLink : mg "InvalidLink" = some (.ref D.InvalidLink)
  g_InvalidTable : mg "InvalidTable" = some (.ref D.InvalidTable)
  g_InvalidText : mg "InvalidText" = some (.ref D.InvalidText)
  g_NameTaken : mg "NameTaken" = some (.ref D.NameTaken)
  g_NotItsTurn : mg "NotItsTurn" = some (.ref D.NotItsTurn)
  g_PurseExceeded : mg "PurseExceeded" = some (.ref D.PurseExceeded)
  g_TooAlike : mg "TooAlike" = some (.ref D.TooAlike)
  g_TooManyRounds : mg "TooManyRounds" = some (.ref D.TooManyRounds)
  g_Unknown : mg "Unknown" = some (.ref D.Unknown)
  g_UnknownName : mg "UnknownName" = some (.ref D.UnknownName)
  g_UnknownStation : mg "UnknownStation" = some (.ref D.UnknownStation)
  g_UnknownTalk : mg "UnknownTalk" = some (.ref D.UnknownTalk)
  g_WireError : mg "WireError" = some (.ref D.WireError)
  x0_Finished : CE0 K mg "Finished" D.Finished
  x0_Impossible : CE0 K mg "Impossible" D.Impossible
  x0_InvalidCommand : CE0 K mg "InvalidCommand" D.InvalidCommand
  x0_InvalidLink : CE0 K mg "InvalidLink" D.InvalidLink
  x0_InvalidTable : CE0 K mg "InvalidTable" D.InvalidTable
  x0_InvalidText : CE0 K mg "InvalidText" D.InvalidText
  ec : ∀ C, xr D C → ExcC K C
  ek_Finished : ∀ C b, sub_Finished D C b → PySem.W.kitOne K (.ref C) (.ref D.Finished) = some b
  ek_Impossible : ∀ C b, sub_Impossible D C b → PySem.W.kitOne K (.ref C) (.ref D.Impossible) = some b
  ek_IndexError : ∀ C b, sub_IndexError D C b → PySem.W.kitOne K (.ref C) (.type "IndexError") = some b
  ek_InvalidChange : ∀ C b, sub_InvalidChange D C b → PySem.W.kitOne K (.ref C) (.ref D.InvalidChange) = some b
  ek_InvalidCommand : ∀ C b, sub_InvalidCommand D C b → PySem.W.kitOne K (.ref C) (.ref D.InvalidCommand) = some b
  ek_InvalidLink : ∀ C b, sub_InvalidLink D C b → PySem.W.kitOne K (.ref C) (.ref D.InvalidLink) = some b
  ek_InvalidTable : ∀ C b, sub_InvalidTable D C b → PySem.W.kitOne K (.ref C) (.ref D.InvalidTable) = some b
  ek_InvalidText : ∀ C b, sub_InvalidText D C b → PySem.W.kitOne K (.ref C) (.ref D.InvalidText) = some b
  ek_KeyError : ∀ C b, sub_KeyError D C b → PySem.W.kitOne K (.ref C) (.type "KeyError") = some b
  ek_NameTaken : ∀ C b, sub_NameTaken D C b → PySem.W.kitOne K (.ref C) (.ref D.NameTaken) = some b
  ek_NotItsTurn : ∀ C b, sub_NotItsTurn D C b → PySem.W.kitOne K (.ref C) (.ref D.NotItsTurn) = some b
  ek_PurseExceeded : ∀ C b, sub_PurseExceeded D C b → PySem.W.kitOne K (.ref C) (.ref D.PurseExceeded) = some b
  ek_TooAlike : ∀ C b, sub_TooAlike D C b → PySem.W.kitOne K (.ref C) (.ref D.TooAlike) = some b
  ek_TooManyRounds : ∀ C b, sub_TooManyRounds D C b → PySem.W.kitOne K (.ref C) (.ref D.TooManyRounds) = some b
  em_Unknown : ∀ C b, sub_Unknown D C b → PySem.W.exmOne K (.ref C) (.ref D.Unknown) = some b
  ek_Unknown : ∀ C b, sub_Unknown D C b → PySem.W.kitOne K (.ref C) (.ref D.Unknown) = some b
  ek_UnknownName : ∀ C b, sub_UnknownName D C b → PySem.W.kitOne K (.ref C) (.ref D.UnknownName) = some b
  ek_UnknownStation : ∀ C b, sub_UnknownStation D C b → PySem.W.kitOne K (.ref C) (.ref D.UnknownStation) = some b
  ek_UnknownTalk : ∀ C b, sub_UnknownTalk D C b → PySem.W.kitOne K (.ref C) (.ref D.UnknownTalk) = some b
  ek_ValueError : ∀ C b, sub_ValueError D C b → PySem.W.kitOne K (.ref C) (.type "ValueError") = some b
  em_WireError : ∀ C b, sub_WireError D C b → PySem.W.exmOne K (.ref C) (.ref D.WireError) = some b
  ek_WireError : ∀ C b, sub_WireError D C b → PySem.W.kitOne K (.ref C) (.ref D.WireError) = some b
  xf_InvalidChange : XfC K D.InvalidChange
  xf_NameTaken : XfC K D.NameTaken
  xf_NotItsTurn : XfC K D.NotItsTurn
  xf_PurseExceeded : XfC K D.PurseExceeded
  xf_TooAlike : XfC K D.TooAlike
  xf_TooManyRounds : XfC K D.TooManyRounds
  xf_UnknownName : XfC K D.UnknownName
  xf_UnknownStation : XfC K D.UnknownStation
  xf_UnknownTalk : XfC K D.UnknownTalk
  xn_InvalidChange_change : PySem.W.findIn K (.ref D.InvalidChange) "change" = some none
  xn_NameTaken_name : PySem.W.findIn K (.ref D.NameTaken) "name" = some none
  xn_NotItsTurn_station : PySem.W.findIn K (.ref D.NotItsTurn) "station" = some none
  xn_PurseExceeded_count : PySem.W.findIn K (.ref D.PurseExceeded) "count" = some none
  xn_TooAlike_first : PySem.W.findIn K (.ref D.TooAlike) "first" = some none
  xn_TooAlike_second : PySem.W.findIn K (.ref D.TooAlike) "second" = some none
  xn_TooManyRounds_rounds : PySem.W.findIn K (.ref D.TooManyRounds) "rounds" = some none
  xn_UnknownName_name : PySem.W.findIn K (.ref D.UnknownName) "name" = some none
  xn_UnknownStation_station : PySem.W.findIn K (.ref D.UnknownStation) "station" = some none
  xn_UnknownTalk_talk : PySem.W.findIn K (.ref D.UnknownTalk) "talk" = some none
section
variable {P : Program} {w : World} {K : PySem.W.Frag} {mg : Str → Option Value} {base : Heap} {D : Ad}
theorem xi_InvalidChange {mc : Value} {iid : String} {f : Addr} {fd : FuncData} (F : Fun K "__init__" "InvalidChange.__init__" st_InvalidChange___init__ f fd) (T : OxI K D.InvalidChange iid) (hw : WInX K D.WireError mc iid) (hm : mg "WireError" = some (.ref D.WireError)) (h1 : PySem.W.findIn K (.ref D.InvalidChange) "change" = some none) : FnOk P w K mg base CX0 1 f fd ["self", "change"] (spI D.InvalidChange ["change"]) :=
  fnX_1 F sc_InvalidChange___init__ T h1 fun cdv A outer s H E => (pss_cons (ps_expr (pe_winX hw (by rfl) hm (pa_cons (pv 0) (pa_cons pe_str pa_nil)))) (pss_one (ps_osX (pv 0) (pv 1))))
theorem xi_NameTaken {mc : Value} {iid : String} {f : Addr} {fd : FuncData} (F : Fun K "__init__" "NameTaken.__init__" st_NameTaken___init__ f fd) (T : OxI K D.NameTaken iid) (hw : WInX K D.WireError mc iid) (hm : mg "WireError" = some (.ref D.WireError)) (h1 : PySem.W.findIn K (.ref D.NameTaken) "name" = some none) : FnOk P w K mg base CX0 1 f fd ["self", "name"] (spI D.NameTaken ["name"]) :=
  fnX_1 F sc_NameTaken___init__ T h1 fun cdv A outer s H E => (pss_cons (ps_expr (pe_winX hw (by rfl) hm (pa_cons (pv 0) (pa_cons pe_str pa_nil)))) (pss_one (ps_osX (pv 0) (pv 1))))
theorem xi_NotItsTurn {mc : Value} {iid : String} {f : Addr} {fd : FuncData} (F : Fun K "__init__" "NotItsTurn.__init__" st_NotItsTurn___init__ f fd) (T : OxI K D.NotItsTurn iid) (hw : WInX K D.WireError mc iid) (hm : mg "WireError" = some (.ref D.WireError)) (h1 : PySem.W.findIn K (.ref D.NotItsTurn) "station" = some none) : FnOk P w K mg base CX0 1 f fd ["self", "station"] (spI D.NotItsTurn ["station"]) :=
  fnX_1 F sc_NotItsTurn___init__ T h1 fun cdv A outer s H E => (pss_cons (ps_expr (pe_winX hw (by rfl) hm (pa_cons (pv 0) (pa_cons pe_str pa_nil)))) (pss_one (ps_osX (pv 0) (pv 1))))
theorem xi_PurseExceeded {mc : Value} {iid : String} {f : Addr} {fd : FuncData} (F : Fun K "__init__" "PurseExceeded.__init__" st_PurseExceeded___init__ f fd) (T : OxI K D.PurseExceeded iid) (hw : WInX K D.WireError mc iid) (hm : mg "WireError" = some (.ref D.WireError)) (h1 : PySem.W.findIn K (.ref D.PurseExceeded) "count" = some none) : FnOk P w K mg base CX0 1 f fd ["self", "count"] (spI D.PurseExceeded ["count"]) :=
  fnX_1 F sc_PurseExceeded___init__ T h1 fun cdv A outer s H E => (pss_cons (ps_expr (pe_winX hw (by rfl) hm (pa_cons (pv 0) (pa_cons pe_str pa_nil)))) (pss_one (ps_osX (pv 0) (pv 1))))
theorem xi_TooAlike {mc : Value} {iid : String} {f : Addr} {fd : FuncData} (F : Fun K "__init__" "TooAlike.__init__" st_TooAlike___init__ f fd) (T : OxI K D.TooAlike iid) (hw : WInX K D.WireError mc iid) (hm : mg "WireError" = some (.ref D.WireError)) (h1 : PySem.W.findIn K (.ref D.TooAlike) "first" = some none) (h2 : PySem.W.findIn K (.ref D.TooAlike) "second" = some none) : FnOk P w K mg base CX0 1 f fd ["self", "first", "second"] (spI D.TooAlike ["first", "second"]) :=
  fnX_2 F sc_TooAlike___init__ T h1 h2 fun cdv A outer s H E => (pss_cons (ps_expr (pe_winX hw (by rfl) hm (pa_cons (pv 0) (pa_cons pe_str pa_nil)))) (pss_cons (ps_osX (pv 0) (pv 1)) (pss_one (ps_osX (pv 0) (pv 2)))))
theorem xi_TooManyRounds {mc : Value} {iid : String} {f : Addr} {fd : FuncData} (F : Fun K "__init__" "TooManyRounds.__init__" st_TooManyRounds___init__ f fd) (T : OxI K D.TooManyRounds iid) (hw : WInX K D.WireError mc iid) (hm : mg "WireError" = some (.ref D.WireError)) (h1 : PySem.W.findIn K (.ref D.TooManyRounds) "rounds" = some none) : FnOk P w K mg base CX0 1 f fd ["self", "rounds"] (spI D.TooManyRounds ["rounds"]) :=
  fnX_1 F sc_TooManyRounds___init__ T h1 fun cdv A outer s H E => (pss_cons (ps_expr (pe_winX hw (by rfl) hm (pa_cons (pv 0) (pa_cons pe_str pa_nil)))) (pss_one (ps_osX (pv 0) (pv 1))))
theorem xi_UnknownName {mc : Value} {iid : String} {f : Addr} {fd : FuncData} (F : Fun K "__init__" "UnknownName.__init__" st_UnknownName___init__ f fd) (T : OxI K D.UnknownName iid) (hw : WInX K D.Unknown mc iid) (hm : mg "Unknown" = some (.ref D.Unknown)) (h1 : PySem.W.findIn K (.ref D.UnknownName) "name" = some none) : FnOk P w K mg base CX0 1 f fd ["self", "name"] (spI D.UnknownName ["name"]) :=
  fnX_1 F sc_UnknownName___init__ T h1 fun cdv A outer s H E => (pss_cons (ps_expr (pe_winX hw (by rfl) hm (pa_cons (pv 0) (pa_cons pe_str pa_nil)))) (pss_one (ps_osX (pv 0) (pv 1))))
theorem xi_UnknownStation {mc : Value} {iid : String} {f : Addr} {fd : FuncData} (F : Fun K "__init__" "UnknownStation.__init__" st_UnknownStation___init__ f fd) (T : OxI K D.UnknownStation iid) (hw : WInX K D.Unknown mc iid) (hm : mg "Unknown" = some (.ref D.Unknown)) (h1 : PySem.W.findIn K (.ref D.UnknownStation) "station" = some none) : FnOk P w K mg base CX0 1 f fd ["self", "station"] (spI D.UnknownStation ["station"]) :=
  fnX_1 F sc_UnknownStation___init__ T h1 fun cdv A outer s H E => (pss_cons (ps_expr (pe_winX hw (by rfl) hm (pa_cons (pv 0) (pa_cons pe_str pa_nil)))) (pss_one (ps_osX (pv 0) (pv 1))))
theorem xi_UnknownTalk {mc : Value} {iid : String} {f : Addr} {fd : FuncData} (F : Fun K "__init__" "UnknownTalk.__init__" st_UnknownTalk___init__ f fd) (T : OxI K D.UnknownTalk iid) (hw : WInX K D.Unknown mc iid) (hm : mg "Unknown" = some (.ref D.Unknown)) (h1 : PySem.W.findIn K (.ref D.UnknownTalk) "talk" = some none) : FnOk P w K mg base CX0 1 f fd ["self", "talk"] (spI D.UnknownTalk ["talk"]) :=
  fnX_1 F sc_UnknownTalk___init__ T h1 fun cdv A outer s H E => (pss_cons (ps_expr (pe_winX hw (by rfl) hm (pa_cons (pv 0) (pa_cons pe_str pa_nil)))) (pss_one (ps_osX (pv 0) (pv 1))))
noncomputable def dv__law_source {n : Nat} (T : Txt K mg D) {f : Addr} {cdv : Value} {A : Around} {outer : List Env} {s : Shared} {H : Hp} {E : XK} (hgd : (A.deeper (envOfC "_law_source" (defScope st__law_source) s.heap.objs.size f cdv)).guards = some []) (hr : Room (n + 0) (A.deeper (envOfC "_law_source" (defScope st__law_source) s.heap.objs.size f cdv))) :
    {t : TS // PSs (cxOf CX0 P w K mg base ["_law_script", "_law_cells", "_law_mixed", "_law_cell"] "_law_source" (defScope st__law_source) f cdv A outer s H E).nox (defBody st__law_source) t} := ⟨_, (pss_cons (ps_par (i := 1) (j := 2) rfl sc__law_source.nd rfl rfl (by decide) rfl rfl (pa_cons (pe_callTy (kList (K := K)) (by rfl) T.b_list (by decide +kernel) (pa_cons (pe_slice (kSlG (K := K)) (pv 0) po_none (po_some pe_int)) pa_nil)) (pa_cons pe_int pa_nil)) (by rfl))
    (pss_cons (ps_for PassesOwn.never rfl (pi_seqK (K := K) (pv 1)) (pg_name (i := 3) sc__law_source.nd rfl (Or.inl rfl)) (pss_one (ps_set (i := 2) sc__law_source.nd rfl (Or.inl rfl) (pe_op oMod (pe_op (kAddB (K := K)) (pe_op (kAddB (K := K)) (pe_op (kMulG (K := K)) (pv 2) pe_int) (pe_op oMod (pv 3) pe_int)) pe_int) pe_int))))
    (pss_one (ps_ret (pe_disp (pps_cons pe_str (pe_revK (K := K) (pv 1)) (pps_cons pe_str (pv 2) (pps_cons pe_str pe_int pps_nil))) rfl rfl (by decide) (by decide))))))⟩
def sv__law_source (hT : Txt K mg D) : {tf : TS × ATS // SS K tf.1 tf.2} := pk (ss_cons (ss_par (i := 1) (j := 2) (sa_cons (se_cb sl_list (sa_cons (se_sl sl_any (se_var (i := 0)) sp_no (sp_part (se_int (i := 63)))) sa_nil)) (sa_cons (se_int (i := 71003)) sa_nil)))
    (ss_cons (ss_for (si_seq (se_var (i := 1))) (sg_name (i := 3)) (ss_asg (se_op so_mod (se_op so_addB (se_op so_addB (se_op so_mul (se_var (i := 2)) (se_int (i := 69621))) (se_op so_mod (se_var (i := 3)) (se_int (i := 2147483587)))) (se_int (i := 13))) (se_int (i := 2147483629))) (sg_name (i := 2))))
    (ss_ret (se_dispO (sps_cons (se_str (i := "cells")) (se_revO (se_var (i := 1))) (sps_cons (se_str (i := "mixed")) (se_var (i := 2)) (sps_cons (se_str (i := "count")) (se_int (i := 0)) sps_nil)))))))
theorem oa__law_source {n : Nat} (T : Txt K mg D) {f : Addr} {fd : FuncData} (F : Fun K "_law_source" "_law_source" st__law_source f fd) {asp : AL} (hlen : ∀ vs S R, asp vs S R → vs.length = 1)
    (h : ∀ vs S R, asp vs S R → (sv__law_source T).1.2 { nx := fun _ S => R .non S, rt := R } (startA ["_law_script", "_law_cells", "_law_mixed", "_law_cell"] vs) S) : FnG P w K mg base CX0 (n + 1) f fd ["_law_script"] (cSp K asp) :=
  okA F sc__law_source (fun cdv A outer s H E hgd hr => (dv__law_source T hgd hr).2) (sv__law_source T).2 (by decide) hlen h
noncomputable def dv__law_draw {n : Nat} (T : Txt K mg D) {f : Addr} {cdv : Value} {A : Around} {outer : List Env} {s : Shared} {H : Hp} {E : XK} (hgd : (A.deeper (envOfC "_law_draw" (defScope st__law_draw) s.heap.objs.size f cdv)).guards = some []) (hr : Room (n + 0) (A.deeper (envOfC "_law_draw" (defScope st__law_draw) s.heap.objs.size f cdv))) :
    {t : TS // PSs (cxOf CX0 P w K mg base ["_law_source_here", "_law_bound", "_law_at", "_law_number", "_law_cell"] "_law_draw" (defScope st__law_draw) f cdv A outer s H E).nox (defBody st__law_draw) t} := ⟨_, (pss_cons (ps_dput (room_1 hr) (pv 0) pe_str (pe_op (kAddB (K := K)) (pe_dget (room_1 hr) (pv 0) pe_str (fun _ _ => rfl)) pe_int) rfl)
    (pss_cons (ps_par (i := 2) (j := 3) rfl sc__law_draw.nd rfl rfl (by decide) rfl rfl (pa_cons (pe_dget (room_1 hr) (pv 0) pe_str (fun _ _ => rfl)) (pa_cons (pe_dget (room_1 hr) (pv 0) pe_str (fun _ _ => rfl)) pa_nil)) (by rfl))
    (pss_join (ps_if (pt_cmpR (kNeNil (K := K) hr) (pe_dget (room_1 hr) (pv 0) pe_str (fun _ _ => rfl)) (pe_lst pa_nil) (by first | exact nomark _ | rfl)) (pss_cons (ps_set (i := 4) sc__law_draw.nd rfl (Or.inl rfl) (bm0K (K := K) (pe_bm0 PySem.F.plainAttrs_list PySem.F.slot_list_pop PySem.F.type_list_pop mt_pop (pe_dget (room_1 hr) (pv 0) pe_str (fun _ _ => rfl)))))
    (pss_cons (ps_if (pt_cmpR oGe (pv 4) (pe_op oPow pe_int pe_int) (by first | exact nomark _ | rfl)) (pss_cons (ps_expr (bmK (K := K) (pe_bm PySem.F.plainAttrs_list PySem.F.slot_list_append PySem.F.type_list_append mt_append (pe_dget (room_1 hr) (pv 0) pe_str (fun _ _ => rfl)) (pa_cons (pe_op op_fdivW (pv 4) (pv 1)) pa_nil))))
    (pss_one (ps_ret (pe_op oMod (pv 4) (pv 1))))) pss_nil)
    (pss_one (ps_set (i := 3) sc__law_draw.nd rfl (Or.inl rfl) (pe_op (kAddB (K := K)) (pv 3) (pe_op oMod (pv 4) pe_int)))))) pss_nil)
    (pss_cons (ps_set (i := 3) sc__law_draw.nd rfl (Or.inl rfl) (pe_op oMod (pe_op (kMulG (K := K)) (pe_op (kAddB (K := K)) (pe_op (kAddB (K := K)) (pv 3) (pe_op (kMulG (K := K)) (pe_op (kMulG (K := K)) pe_int (pv 2)) (pv 2))) pe_int) pe_int) pe_int))
    (pss_cons (ps_set (i := 3) sc__law_draw.nd rfl (Or.inl rfl) (pe_op oMod (pe_op (kAddB (K := K)) (pe_op (kAddB (K := K)) (pe_op (kMulG (K := K)) (pv 3) (pv 3)) (pe_op (kMulG (K := K)) pe_int (pv 2))) pe_int) pe_int))
    (pss_one (ps_ret (pe_op oMod (pe_op op_fdivW (pe_op oMod (pe_op (kMulG (K := K)) (pv 3) (pe_op (kAddB (K := K)) (pe_op op_fdivW (pv 3) pe_int) pe_int)) pe_int) pe_int) (pv 1)))))))))⟩
def sv__law_draw (hT : Txt K mg D) : {tf : TS × ATS // SS K tf.1 tf.2} := pk (ss_cons (ss_dput (se_var (i := 0)) (se_str (i := "count")) (se_op so_addB (se_dget (se_var (i := 0)) (se_str (i := "count"))) (se_int (i := 1))))
    (ss_cons (ss_par (i := 2) (j := 3) (sa_cons (se_dget (se_var (i := 0)) (se_str (i := "count"))) (sa_cons (se_dget (se_var (i := 0)) (se_str (i := "mixed"))) sa_nil)))
    (ss_join (ss_if (st_test (se_op so_neNil (se_dget (se_var (i := 0)) (se_str (i := "cells"))) (se_lst sa_nil))) (ss_cons (ss_asg (se_bm0 sm_pop (se_dget (se_var (i := 0)) (se_str (i := "cells")))) (sg_name (i := 4)))
    (ss_cons (ss_if (st_test (se_op so_ge (se_var (i := 4)) (se_op so_pow (se_int (i := 10)) (se_int (i := 18))))) (ss_cons (ss_expr (se_bm sm_append (se_dget (se_var (i := 0)) (se_str (i := "cells"))) (sa_cons (se_op so_fdivW (se_var (i := 4)) (se_var (i := 1))) sa_nil)))
    (ss_ret (se_op so_mod (se_var (i := 4)) (se_var (i := 1))))) ss_nil)
    (ss_asg (se_op so_addB (se_var (i := 3)) (se_op so_mod (se_var (i := 4)) (se_int (i := 2147483587)))) (sg_name (i := 3))))) ss_nil)
    (ss_cons (ss_asg (se_op so_mod (se_op so_mul (se_op so_addB (se_op so_addB (se_var (i := 3)) (se_op so_mul (se_op so_mul (se_int (i := 60493)) (se_var (i := 2))) (se_var (i := 2)))) (se_int (i := 41))) (se_int (i := 39373))) (se_int (i := 2147483647))) (sg_name (i := 3)))
    (ss_cons (ss_asg (se_op so_mod (se_op so_addB (se_op so_addB (se_op so_mul (se_var (i := 3)) (se_var (i := 3))) (se_op so_mul (se_int (i := 28411)) (se_var (i := 2)))) (se_int (i := 9))) (se_int (i := 2147483563))) (sg_name (i := 3)))
    (ss_ret (se_op so_mod (se_op so_fdivW (se_op so_mod (se_op so_mul (se_var (i := 3)) (se_op so_addB (se_op so_fdivW (se_var (i := 3)) (se_int (i := 5))) (se_int (i := 48271)))) (se_int (i := 2147483579))) (se_int (i := 32))) (se_var (i := 1)))))))))
theorem oa__law_draw {n : Nat} (T : Txt K mg D) {f : Addr} {fd : FuncData} (F : Fun K "_law_draw" "_law_draw" st__law_draw f fd) {asp : AL} (hlen : ∀ vs S R, asp vs S R → vs.length = 2)
    (h : ∀ vs S R, asp vs S R → (sv__law_draw T).1.2 { nx := fun _ S => R .non S, rt := R } (startA ["_law_source_here", "_law_bound", "_law_at", "_law_number", "_law_cell"] vs) S) : FnG P w K mg base CX0 (n + 1) f fd ["_law_source_here", "_law_bound"] (cSp K asp) :=
  okA F sc__law_draw (fun cdv A outer s H E hgd hr => (dv__law_draw T hgd hr).2) (sv__law_draw T).2 (by decide) hlen h
noncomputable def dv__law_pick {n : Nat} (T : Txt K mg D) {asp__law_draw : AL} (cg__law_draw : Cg P w K mg base CX0 n "_law_draw" (cSp K asp__law_draw)) {f : Addr} {cdv : Value} {A : Around} {outer : List Env} {s : Shared} {H : Hp} {E : XK} (hgd : (A.deeper (envOfC "_law_pick" (defScope st__law_pick) s.heap.objs.size f cdv)).guards = some []) (hr : Room (n + 0) (A.deeper (envOfC "_law_pick" (defScope st__law_pick) s.heap.objs.size f cdv))) :
    {t : TS // PSs (cxOf CX0 P w K mg base ["_law_source_here", "_law_items"] "_law_pick" (defScope st__law_pick) f cdv A outer s H E).nox (defBody st__law_pick) t} := ⟨_, (pss_one (ps_ret (pe_ix (kIx (K := K)) (pv 1) (pe_cg cg__law_draw hgd hr (Nat.le_add_right n _) (by rfl) pass0 (pa_cons (pv 0) (pa_cons (pe_callB (kLen (K := K)) (by rfl) T.b_len (by decide +kernel) (pa_cons (pv 1) pa_nil)) pa_nil))) (fun _ _ => rfl))))⟩
def sv__law_pick (hT : Txt K mg D) {asp__law_draw : AL} : {tf : TS × ATS // SS K tf.1 tf.2} := pk (ss_ret (se_op so_ix (se_var (i := 1)) (se_call (g := asp__law_draw) (sa_cons (se_var (i := 0)) (sa_cons (se_cb sl_len (sa_cons (se_var (i := 1)) sa_nil)) sa_nil)))))
theorem oa__law_pick {n : Nat} (T : Txt K mg D) {asp__law_draw : AL} (cg__law_draw : Cg P w K mg base CX0 n "_law_draw" (cSp K asp__law_draw)) {f : Addr} {fd : FuncData} (F : Fun K "_law_pick" "_law_pick" st__law_pick f fd) {asp : AL} (hlen : ∀ vs S R, asp vs S R → vs.length = 2)
    (h : ∀ vs S R, asp vs S R → (sv__law_pick T (asp__law_draw := asp__law_draw)).1.2 { nx := fun _ S => R .non S, rt := R } (startA ["_law_source_here", "_law_items"] vs) S) : FnG P w K mg base CX0 (n + 1) f fd ["_law_source_here", "_law_items"] (cSp K asp) :=
  okA F sc__law_pick (fun cdv A outer s H E hgd hr => (dv__law_pick T cg__law_draw hgd hr).2) (sv__law_pick T (asp__law_draw := asp__law_draw)).2 (by decide) hlen h
noncomputable def dv__law_thing {n : Nat} (T : Txt K mg D) {asp__law_draw : AL} {asp__law_pick : AL} {asp__law_thing : AL} (cg__law_draw : Cg P w K mg base CX0 n "_law_draw" (cSp K asp__law_draw)) (cg__law_pick : Cg P w K mg base CX0 n "_law_pick" (cSp K asp__law_pick)) (cg__law_thing : Cg P w K mg base CX0 n "_law_thing" (cSp K asp__law_thing)) {f : Addr} {cdv : Value} {A : Around} {outer : List Env} {s : Shared} {H : Hp} {E : XK} (hgd : (A.deeper (envOfC "_law_thing" (defScope st__law_thing) s.heap.objs.size f cdv)).guards = some []) (hr : Room (n + 0) (A.deeper (envOfC "_law_thing" (defScope st__law_thing) s.heap.objs.size f cdv))) :
    {t : TS // PSs (cxOf CX0 P w K mg base ["_law_source_here", "_law_depth", "_law_mode", "_law_some", "_law_inner", "_law_k"] "_law_thing" (defScope st__law_thing) f cdv A outer s H E).nox (defBody st__law_thing) t} := ⟨_, (pss_cons (ps_set (i := 2) sc__law_thing.nd rfl (Or.inl rfl) (pe_cg cg__law_draw hgd hr (Nat.le_add_right n _) (by rfl) pass0 (pa_cons (pv 0) (pa_cons pe_int pa_nil))))
    (pss_cons (ps_if (PW.pt (pw_or (pt_cmpR oLt (pv 2) pe_int (by first | exact nomark _ | rfl)) (pw_or1 (pt_cmpR (kEqB (K := K) hr) (pv 1) pe_int (by first | exact nomark _ | rfl))))) (pss_cons (ps_set (i := 3) sc__law_thing.nd rfl (Or.inl rfl) (pe_lst (pa_cons pe_int (pa_cons pe_int (pa_cons (pe_un un_neg pe_int) (pa_cons (pe_op oPow pe_int pe_int) (pa_cons pe_bl (pa_cons pe_bl (pa_cons pe_non (pa_cons pe_str (pa_cons pe_str (pa_cons pe_str (pa_cons pe_str (pa_cons (pe_tupF pa_nil) (pa_cons (pe_lst pa_nil) (pa_cons pe_dnewK pa_nil))))))))))))))))
    (pss_one (ps_ret (pe_cg cg__law_pick hgd hr (Nat.le_add_right n _) (by rfl) pass0 (pa_cons (pv 0) (pa_cons (pv 3) pa_nil)))))) pss_nil)
    (pss_cons (ps_setLc (i := 4) (own := [("_law_k", 5)]) rfl sc__law_thing.nd rfl rfl (sw_true rfl rfl rfl (by decide +kernel)) (pi_range1 (by rfl) T.b_range (pa_cons (pe_cg cg__law_draw hgd hr (Nat.le_add_right n _) (by rfl) pass0 (pa_cons (pv 0) (pa_cons pe_int pa_nil))) pa_nil)) (blkOk_by (N := ["_law_source_here", "_law_depth", "_law_mode", "_law_some", "_law_inner", "_law_k"]) (sc := defScope st__law_thing) (by decide +kernel)) (fun _ _ _ _ _ => (pg_name (i := 5) sc__law_thing.nd rfl (Or.inl rfl))) (fun _ _ _ _ _ => pts_nil) (fun _ _ _ _ _ => (pe_cg cg__law_thing hgd hr (Nat.le_add_right n _) (by rfl) pass0 (pa_cons (pv 0) (pa_cons (pe_op kSubB (pv 1) pe_int) pa_nil)))))
    (pss_one (ps_ret (pe_ix (kIx (K := K)) (pe_lst (pa_cons (pv 4) (pa_cons (pe_callTy (kTupleF (K := K)) (by rfl) T.b_tuple (by decide +kernel) (pa_cons (pv 4) pa_nil)) (pa_cons (pe_disp (pps_cons pe_str (pv 4) pps_nil) rfl rfl (by decide) (by decide)) (pa_cons (pe_dictLEK (K := K) rfl (by rfl) T.b_dict (by rfl) T.b_list (by rfl) T.b_enumerate (pv 4)) pa_nil))))) (pe_op kSubB (pv 2) pe_int) (fun _ _ => rfl)))))))⟩
def sv__law_thing (hT : Txt K mg D) {asp__law_draw : AL} {asp__law_pick : AL} {asp__law_thing : AL} : {tf : TS × ATS // SS K tf.1 tf.2} := pk (ss_cons (ss_asg (se_call (g := asp__law_draw) (sa_cons (se_var (i := 0)) (sa_cons (se_int (i := 9)) sa_nil))) (sg_name (i := 2)))
    (ss_cons (ss_if (st_or (st_test (se_op so_lt (se_var (i := 2)) (se_int (i := 5)))) (st_test (se_op so_eqB (se_var (i := 1)) (se_int (i := 0))))) (ss_cons (ss_asg (se_lst (sa_cons (se_int (i := 0)) (sa_cons (se_int (i := 1)) (sa_cons (se_un s1_neg1 (se_int (i := 1))) (sa_cons (se_op so_pow (se_int (i := 10)) (se_int (i := 39))) (sa_cons (se_bl (i := true)) (sa_cons (se_bl (i := false)) (sa_cons se_non (sa_cons (se_str (i := "")) (sa_cons (se_str (i := "a")) (sa_cons (se_str (i := "first\nsecond")) (sa_cons (se_str (i := "~")) (sa_cons (se_tup sa_nil) (sa_cons (se_lst sa_nil) (sa_cons se_newDF sa_nil))))))))))))))) (sg_name (i := 3)))
    (ss_ret (se_call (g := asp__law_pick) (sa_cons (se_var (i := 0)) (sa_cons (se_var (i := 3)) sa_nil))))) ss_nil)
    (ss_cons (ss_asg (se_lc (vs := [5]) (si_rng1 (sa_cons (se_call (g := asp__law_draw) (sa_cons (se_var (i := 0)) (sa_cons (se_int (i := 4)) sa_nil))) sa_nil)) (sg_name (i := 5)) (by decide) st_yes (se_call (g := asp__law_thing) (sa_cons (se_var (i := 0)) (sa_cons (se_op so_subB (se_var (i := 1)) (se_int (i := 1))) sa_nil)))) (sg_name (i := 4)))
    (ss_ret (se_op so_ix (se_lst (sa_cons (se_var (i := 4)) (sa_cons (se_cb sl_tuple (sa_cons (se_var (i := 4)) sa_nil)) (sa_cons (se_disp (sps_cons (se_str (i := "k")) (se_var (i := 4)) sps_nil)) (sa_cons (se_dictLE (se_var (i := 4))) sa_nil))))) (se_op so_subB (se_var (i := 2)) (se_int (i := 5))))))))
theorem oa__law_thing {n : Nat} (T : Txt K mg D) {asp__law_draw : AL} {asp__law_pick : AL} {asp__law_thing : AL} (cg__law_draw : Cg P w K mg base CX0 n "_law_draw" (cSp K asp__law_draw)) (cg__law_pick : Cg P w K mg base CX0 n "_law_pick" (cSp K asp__law_pick)) (cg__law_thing : Cg P w K mg base CX0 n "_law_thing" (cSp K asp__law_thing)) {f : Addr} {fd : FuncData} (F : Fun K "_law_thing" "_law_thing" st__law_thing f fd) {asp : AL} (hlen : ∀ vs S R, asp vs S R → vs.length = 2)
    (h : ∀ vs S R, asp vs S R → (sv__law_thing T (asp__law_draw := asp__law_draw) (asp__law_pick := asp__law_pick) (asp__law_thing := asp__law_thing)).1.2 { nx := fun _ S => R .non S, rt := R } (startA ["_law_source_here", "_law_depth", "_law_mode", "_law_some", "_law_inner", "_law_k"] vs) S) : FnG P w K mg base CX0 (n + 1) f fd ["_law_source_here", "_law_depth"] (cSp K asp) :=
  okA F sc__law_thing (fun cdv A outer s H E hgd hr => (dv__law_thing T cg__law_draw cg__law_pick cg__law_thing hgd hr).2) (sv__law_thing T (asp__law_draw := asp__law_draw) (asp__law_pick := asp__law_pick) (asp__law_thing := asp__law_thing)).2 (by decide) hlen h
noncomputable def dv__law_raise_plain {n : Nat} (T : Txt K mg D) {f : Addr} {cdv : Value} {A : Around} {outer : List Env} {s : Shared} {H : Hp} {E : XK} (hgd : (A.deeper (envOfC "_law_raise_plain" (defScope st__law_raise_plain) s.heap.objs.size f cdv)).guards = some []) (hr : Room (n + 0) (A.deeper (envOfC "_law_raise_plain" (defScope st__law_raise_plain) s.heap.objs.size f cdv))) :
    {t : WX → TS // ∀ Wx, Takes (cxOf (L2.CX P w) P w K mg base ["_law_number"] "_law_raise_plain" (defScope st__law_raise_plain) f cdv A outer s H E) Wx → PSs (cxOf (L2.CX P w) P w K mg base ["_law_number"] "_law_raise_plain" (defScope st__law_raise_plain) f cdv A outer s H E) (defBody st__law_raise_plain) (t Wx)} := ⟨_, fun Wx tkW => (pss_cons (ps_if (pt_cmpR (kEqB (K := K) hr) (pv 0) pe_int (by first | exact nomark _ | rfl)) (pss_one (ps_rs0 tkW T.x0_InvalidText (by rfl))) pss_nil)
    (pss_cons (ps_if (pt_cmpR (kEqB (K := K) hr) (pv 0) pe_int (by first | exact nomark _ | rfl)) (pss_one (ps_rs0 tkW T.x0_InvalidCommand (by rfl))) pss_nil)
    (pss_cons (ps_if (pt_cmpR (kEqB (K := K) hr) (pv 0) pe_int (by first | exact nomark _ | rfl)) (pss_one (ps_rs0 tkW T.x0_InvalidTable (by rfl))) pss_nil)
    (pss_cons (ps_if (pt_cmpR (kEqB (K := K) hr) (pv 0) pe_int (by first | exact nomark _ | rfl)) (pss_one (ps_rs0 tkW T.x0_InvalidLink (by rfl))) pss_nil)
    (pss_cons (ps_if (pt_cmpR (kEqB (K := K) hr) (pv 0) pe_int (by first | exact nomark _ | rfl)) (pss_one (ps_rs0 tkW T.x0_Impossible (by rfl))) pss_nil)
    (pss_one (ps_rs0 tkW T.x0_Finished (by rfl))))))))⟩
def sv__law_raise_plain (hT : Txt K mg D) : {tf : (WX → TS) × (AX → ATS) // SSX K tf.1 tf.2} := pkX (ssx_cons (ssx_if (st_test (se_op so_eqB (se_var (i := 0)) (se_int (i := 0)))) (ssx_raise0 (C := D.InvalidText)) (ssx_p ss_nil))
    (ssx_cons (ssx_if (st_test (se_op so_eqB (se_var (i := 0)) (se_int (i := 1)))) (ssx_raise0 (C := D.InvalidCommand)) (ssx_p ss_nil))
    (ssx_cons (ssx_if (st_test (se_op so_eqB (se_var (i := 0)) (se_int (i := 2)))) (ssx_raise0 (C := D.InvalidTable)) (ssx_p ss_nil))
    (ssx_cons (ssx_if (st_test (se_op so_eqB (se_var (i := 0)) (se_int (i := 3)))) (ssx_raise0 (C := D.InvalidLink)) (ssx_p ss_nil))
    (ssx_cons (ssx_if (st_test (se_op so_eqB (se_var (i := 0)) (se_int (i := 4)))) (ssx_raise0 (C := D.Impossible)) (ssx_p ss_nil))
    (ssx_raise0 (C := D.Finished)))))))
theorem oa__law_raise_plain {n : Nat} (T : Txt K mg D) {f : Addr} {fd : FuncData} (F : Fun K "_law_raise_plain" "_law_raise_plain" st__law_raise_plain f fd) {asp : ALX} (hlen : ∀ vs S R B, asp vs S R B → vs.length = 1)
    (h : ∀ vs S R B, asp vs S R B → (sv__law_raise_plain T).1.2 (fun C M xs _ S => B C M xs S) { nx := fun _ S => R .non S, rt := R } (startA ["_law_number"] vs) S) : FnG P w K mg base (L2.CX P w) (n + 1) f fd ["_law_number"] (cSpX K asp) :=
  okX F sc__law_raise_plain (fun cdv A outer s H E hgd hr => (dv__law_raise_plain T hgd hr).2) (sv__law_raise_plain T).2 (by decide) hlen h
noncomputable def dv__law_raise {n : Nat} (T : Txt K mg D) {asp__law_raise_plain : ALX} (cg__law_raise_plain : Cg P w K mg base (L2.CX P w) n "_law_raise_plain" (cSpX K asp__law_raise_plain)) (xf_UnknownName : CEK P w K mg base n "UnknownName" D.UnknownName ["name"] ["name"] [0]) (xf_InvalidChange : CEK P w K mg base n "InvalidChange" D.InvalidChange ["change"] ["change"] [0]) (xf_PurseExceeded : CEK P w K mg base n "PurseExceeded" D.PurseExceeded ["count"] ["count"] [0]) (xf_TooAlike : CEK P w K mg base n "TooAlike" D.TooAlike ["first", "second"] ["second", "first"] [1, 0]) (xf_TooManyRounds : CEK P w K mg base n "TooManyRounds" D.TooManyRounds ["rounds"] ["rounds"] [0]) (xf_NotItsTurn : CEK P w K mg base n "NotItsTurn" D.NotItsTurn ["station"] ["station"] [0]) (xf_NameTaken : CEK P w K mg base n "NameTaken" D.NameTaken ["name"] ["name"] [0]) (xf_UnknownStation : CEK P w K mg base n "UnknownStation" D.UnknownStation ["station"] ["station"] [0]) (xf_UnknownTalk : CEK P w K mg base n "UnknownTalk" D.UnknownTalk ["talk"] ["talk"] [0]) {f : Addr} {cdv : Value} {A : Around} {outer : List Env} {s : Shared} {H : Hp} {E : XK} (hgd : (A.deeper (envOfC "_law_raise" (defScope st__law_raise) s.heap.objs.size f cdv)).guards = some []) (hr : Room (n + 1) (A.deeper (envOfC "_law_raise" (defScope st__law_raise) s.heap.objs.size f cdv))) :
    {t : WX → TS // ∀ Wx, Takes (cxOf (L2.CX P w) P w K mg base ["_law_number", "_law_one", "_law_other"] "_law_raise" (defScope st__law_raise) f cdv A outer s H E) Wx → PSs (cxOf (L2.CX P w) P w K mg base ["_law_number", "_law_one", "_law_other"] "_law_raise" (defScope st__law_raise) f cdv A outer s H E) (defBody st__law_raise) (t Wx)} := ⟨_, fun Wx tkW => (pss_join (ps_if (pt_cmpR oLt (pv 0) pe_int (by first | exact nomark _ | rfl)) (pss_one (ps_expr (pe_cgX cg__law_raise_plain tkW hgd hr (Nat.le_add_right n _) (by rfl) (pa_cons (pv 0) pa_nil)))) pss_nil)
    (pss_cons (ps_if (pt_cmpR (kEqB (K := K) hr) (pv 0) pe_int (by first | exact nomark _ | rfl)) (pss_one (ps_rsK tkW xf_InvalidChange hr (Nat.le_refl _) (by rfl) (pa_cons (pv 1) pa_nil))) pss_nil)
    (pss_cons (ps_if (pt_cmpR (kEqB (K := K) hr) (pv 0) pe_int (by first | exact nomark _ | rfl)) (pss_one (ps_rsK tkW xf_PurseExceeded hr (Nat.le_refl _) (by rfl) (pa_cons (pv 1) pa_nil))) pss_nil)
    (pss_cons (ps_if (pt_cmpR (kEqB (K := K) hr) (pv 0) pe_int (by first | exact nomark _ | rfl)) (pss_one (ps_rsK tkW xf_TooAlike hr (Nat.le_refl _) (by rfl) (pa_cons (pv 1) (pa_cons (pv 2) pa_nil)))) pss_nil)
    (pss_cons (ps_if (pt_cmpR (kEqB (K := K) hr) (pv 0) pe_int (by first | exact nomark _ | rfl)) (pss_one (ps_rsK tkW xf_TooManyRounds hr (Nat.le_refl _) (by rfl) (pa_cons (pv 1) pa_nil))) pss_nil)
    (pss_cons (ps_if (pt_cmpR (kEqB (K := K) hr) (pv 0) pe_int (by first | exact nomark _ | rfl)) (pss_one (ps_rsK tkW xf_NotItsTurn hr (Nat.le_refl _) (by rfl) (pa_cons (pv 1) pa_nil))) pss_nil)
    (pss_cons (ps_if (pt_cmpR (kEqB (K := K) hr) (pv 0) pe_int (by first | exact nomark _ | rfl)) (pss_one (ps_rsK tkW xf_NameTaken hr (Nat.le_refl _) (by rfl) (pa_cons (pv 1) pa_nil))) pss_nil)
    (pss_cons (ps_if (pt_cmpR (kEqB (K := K) hr) (pv 0) pe_int (by first | exact nomark _ | rfl)) (pss_one (ps_rsK tkW xf_UnknownStation hr (Nat.le_refl _) (by rfl) (pa_cons (pv 1) pa_nil))) pss_nil)
    (pss_cons (ps_if (pt_cmpR (kEqB (K := K) hr) (pv 0) pe_int (by first | exact nomark _ | rfl)) (pss_one (ps_rsK tkW xf_UnknownTalk hr (Nat.le_refl _) (by rfl) (pa_cons (pv 1) pa_nil))) pss_nil)
    (pss_one (ps_rsK tkW xf_UnknownName hr (Nat.le_refl _) (by rfl) (pa_cons (pv 1) pa_nil))))))))))))⟩
def sv__law_raise (hT : Txt K mg D) {asp__law_raise_plain : ALX} : {tf : (WX → TS) × (AX → ATS) // SSX K tf.1 tf.2} := pkX (ssx_join (ssx_if (st_test (se_op so_lt (se_var (i := 0)) (se_int (i := 6)))) (ssx_expr (sex_call (q := asp__law_raise_plain) (sa_cons (se_var (i := 0)) sa_nil))) (ssx_p ss_nil))
    (ssx_cons (ssx_if (st_test (se_op so_eqB (se_var (i := 0)) (se_int (i := 6)))) (ssx_raise (C := D.InvalidChange) (N := ["change"]) (by decide) (by decide) (sa_cons (se_var (i := 1)) sa_nil)) (ssx_p ss_nil))
    (ssx_cons (ssx_if (st_test (se_op so_eqB (se_var (i := 0)) (se_int (i := 7)))) (ssx_raise (C := D.PurseExceeded) (N := ["count"]) (by decide) (by decide) (sa_cons (se_var (i := 1)) sa_nil)) (ssx_p ss_nil))
    (ssx_cons (ssx_if (st_test (se_op so_eqB (se_var (i := 0)) (se_int (i := 8)))) (ssx_raise (C := D.TooAlike) (N := ["first", "second"]) (by decide) (by decide) (sa_cons (se_var (i := 1)) (sa_cons (se_var (i := 2)) sa_nil))) (ssx_p ss_nil))
    (ssx_cons (ssx_if (st_test (se_op so_eqB (se_var (i := 0)) (se_int (i := 9)))) (ssx_raise (C := D.TooManyRounds) (N := ["rounds"]) (by decide) (by decide) (sa_cons (se_var (i := 1)) sa_nil)) (ssx_p ss_nil))
    (ssx_cons (ssx_if (st_test (se_op so_eqB (se_var (i := 0)) (se_int (i := 10)))) (ssx_raise (C := D.NotItsTurn) (N := ["station"]) (by decide) (by decide) (sa_cons (se_var (i := 1)) sa_nil)) (ssx_p ss_nil))
    (ssx_cons (ssx_if (st_test (se_op so_eqB (se_var (i := 0)) (se_int (i := 11)))) (ssx_raise (C := D.NameTaken) (N := ["name"]) (by decide) (by decide) (sa_cons (se_var (i := 1)) sa_nil)) (ssx_p ss_nil))
    (ssx_cons (ssx_if (st_test (se_op so_eqB (se_var (i := 0)) (se_int (i := 12)))) (ssx_raise (C := D.UnknownStation) (N := ["station"]) (by decide) (by decide) (sa_cons (se_var (i := 1)) sa_nil)) (ssx_p ss_nil))
    (ssx_cons (ssx_if (st_test (se_op so_eqB (se_var (i := 0)) (se_int (i := 13)))) (ssx_raise (C := D.UnknownTalk) (N := ["talk"]) (by decide) (by decide) (sa_cons (se_var (i := 1)) sa_nil)) (ssx_p ss_nil))
    (ssx_raise (C := D.UnknownName) (N := ["name"]) (by decide) (by decide) (sa_cons (se_var (i := 1)) sa_nil)))))))))))
theorem oa__law_raise {n : Nat} (T : Txt K mg D) {asp__law_raise_plain : ALX} (cg__law_raise_plain : Cg P w K mg base (L2.CX P w) n "_law_raise_plain" (cSpX K asp__law_raise_plain)) (xf_UnknownName : CEK P w K mg base n "UnknownName" D.UnknownName ["name"] ["name"] [0]) (xf_InvalidChange : CEK P w K mg base n "InvalidChange" D.InvalidChange ["change"] ["change"] [0]) (xf_PurseExceeded : CEK P w K mg base n "PurseExceeded" D.PurseExceeded ["count"] ["count"] [0]) (xf_TooAlike : CEK P w K mg base n "TooAlike" D.TooAlike ["first", "second"] ["second", "first"] [1, 0]) (xf_TooManyRounds : CEK P w K mg base n "TooManyRounds" D.TooManyRounds ["rounds"] ["rounds"] [0]) (xf_NotItsTurn : CEK P w K mg base n "NotItsTurn" D.NotItsTurn ["station"] ["station"] [0]) (xf_NameTaken : CEK P w K mg base n "NameTaken" D.NameTaken ["name"] ["name"] [0]) (xf_UnknownStation : CEK P w K mg base n "UnknownStation" D.UnknownStation ["station"] ["station"] [0]) (xf_UnknownTalk : CEK P w K mg base n "UnknownTalk" D.UnknownTalk ["talk"] ["talk"] [0]) {f : Addr} {fd : FuncData} (F : Fun K "_law_raise" "_law_raise" st__law_raise f fd) {asp : ALX} (hlen : ∀ vs S R B, asp vs S R B → vs.length = 3)
    (h : ∀ vs S R B, asp vs S R B → (sv__law_raise T (asp__law_raise_plain := asp__law_raise_plain)).1.2 (fun C M xs _ S => B C M xs S) { nx := fun _ S => R .non S, rt := R } (startA ["_law_number", "_law_one", "_law_other"] vs) S) : FnG P w K mg base (L2.CX P w) (n + 2) f fd ["_law_number", "_law_one", "_law_other"] (cSpX K asp) :=
  okX F sc__law_raise (fun cdv A outer s H E hgd hr => (dv__law_raise T cg__law_raise_plain xf_UnknownName xf_InvalidChange xf_PurseExceeded xf_TooAlike xf_TooManyRounds xf_NotItsTurn xf_NameTaken xf_UnknownStation xf_UnknownTalk hgd hr).2) (sv__law_raise T (asp__law_raise_plain := asp__law_raise_plain)).2 (by decide) hlen h
noncomputable def dv__law_raise_named {n : Nat} (T : Txt K mg D) {asp__law_raise : ALX} (cg__law_raise : Cg P w K mg base (L2.CX P w) n "_law_raise" (cSpX K asp__law_raise)) (xf_InvalidChange : CEK P w K mg base n "InvalidChange" D.InvalidChange ["change"] ["change"] [0]) (xf_PurseExceeded : CEK P w K mg base n "PurseExceeded" D.PurseExceeded ["count"] ["count"] [0]) (xf_TooAlike : CEK P w K mg base n "TooAlike" D.TooAlike ["first", "second"] ["second", "first"] [1, 0]) (xf_TooManyRounds : CEK P w K mg base n "TooManyRounds" D.TooManyRounds ["rounds"] ["rounds"] [0]) (xf_NotItsTurn : CEK P w K mg base n "NotItsTurn" D.NotItsTurn ["station"] ["station"] [0]) (xf_NameTaken : CEK P w K mg base n "NameTaken" D.NameTaken ["name"] ["name"] [0]) (xf_UnknownStation : CEK P w K mg base n "UnknownStation" D.UnknownStation ["station"] ["station"] [0]) (xf_UnknownTalk : CEK P w K mg base n "UnknownTalk" D.UnknownTalk ["talk"] ["talk"] [0]) (xf_UnknownName : CEK P w K mg base n "UnknownName" D.UnknownName ["name"] ["name"] [0]) {f : Addr} {cdv : Value} {A : Around} {outer : List Env} {s : Shared} {H : Hp} {E : XK} (hgd : (A.deeper (envOfC "_law_raise_named" (defScope st__law_raise_named) s.heap.objs.size f cdv)).guards = some []) (hr : Room (n + 1) (A.deeper (envOfC "_law_raise_named" (defScope st__law_raise_named) s.heap.objs.size f cdv))) :
    {t : WX → TS // ∀ Wx, Takes (cxOf (L2.CX P w) P w K mg base ["_law_number", "_law_one", "_law_other"] "_law_raise_named" (defScope st__law_raise_named) f cdv A outer s H E) Wx → PSs (cxOf (L2.CX P w) P w K mg base ["_law_number", "_law_one", "_law_other"] "_law_raise_named" (defScope st__law_raise_named) f cdv A outer s H E) (defBody st__law_raise_named) (t Wx)} := ⟨_, fun Wx tkW => (pss_cons (ps_if (pt_cmpR (kEqB (K := K) hr) (pv 0) pe_int (by first | exact nomark _ | rfl)) (pss_one (ps_rsKk tkW xf_InvalidChange hr (Nat.le_refl _) (by rfl) (pk_cons (pv 1) pk_nil))) pss_nil)
    (pss_cons (ps_if (pt_cmpR (kEqB (K := K) hr) (pv 0) pe_int (by first | exact nomark _ | rfl)) (pss_one (ps_rsKk tkW xf_PurseExceeded hr (Nat.le_refl _) (by rfl) (pk_cons (pv 1) pk_nil))) pss_nil)
    (pss_cons (ps_if (pt_cmpR (kEqB (K := K) hr) (pv 0) pe_int (by first | exact nomark _ | rfl)) (pss_one (ps_rsKk tkW xf_TooAlike hr (Nat.le_refl _) (by rfl) (pk_cons (pv 2) (pk_cons (pv 1) pk_nil)))) pss_nil)
    (pss_cons (ps_if (pt_cmpR (kEqB (K := K) hr) (pv 0) pe_int (by first | exact nomark _ | rfl)) (pss_one (ps_rsKk tkW xf_TooManyRounds hr (Nat.le_refl _) (by rfl) (pk_cons (pv 1) pk_nil))) pss_nil)
    (pss_cons (ps_if (pt_cmpR (kEqB (K := K) hr) (pv 0) pe_int (by first | exact nomark _ | rfl)) (pss_one (ps_rsKk tkW xf_NotItsTurn hr (Nat.le_refl _) (by rfl) (pk_cons (pv 1) pk_nil))) pss_nil)
    (pss_cons (ps_if (pt_cmpR (kEqB (K := K) hr) (pv 0) pe_int (by first | exact nomark _ | rfl)) (pss_one (ps_rsKk tkW xf_NameTaken hr (Nat.le_refl _) (by rfl) (pk_cons (pv 1) pk_nil))) pss_nil)
    (pss_cons (ps_if (pt_cmpR (kEqB (K := K) hr) (pv 0) pe_int (by first | exact nomark _ | rfl)) (pss_one (ps_rsKk tkW xf_UnknownStation hr (Nat.le_refl _) (by rfl) (pk_cons (pv 1) pk_nil))) pss_nil)
    (pss_cons (ps_if (pt_cmpR (kEqB (K := K) hr) (pv 0) pe_int (by first | exact nomark _ | rfl)) (pss_one (ps_rsKk tkW xf_UnknownTalk hr (Nat.le_refl _) (by rfl) (pk_cons (pv 1) pk_nil))) pss_nil)
    (pss_cons (ps_if (pt_cmpR (kEqB (K := K) hr) (pv 0) pe_int (by first | exact nomark _ | rfl)) (pss_one (ps_rsKk tkW xf_UnknownName hr (Nat.le_refl _) (by rfl) (pk_cons (pv 1) pk_nil))) pss_nil)
    (pss_one (ps_expr (pe_cgX cg__law_raise tkW hgd hr (Nat.le_add_right n _) (by rfl) (pa_cons (pv 0) (pa_cons (pv 1) (pa_cons (pv 2) pa_nil)))))))))))))))⟩
def sv__law_raise_named (hT : Txt K mg D) {asp__law_raise : ALX} : {tf : (WX → TS) × (AX → ATS) // SSX K tf.1 tf.2} := pkX (ssx_cons (ssx_if (st_test (se_op so_eqB (se_var (i := 0)) (se_int (i := 6)))) (ssx_raise (C := D.InvalidChange) (N := ["change"]) (by decide) (by decide) (sa_pk (sel := [0]) (n := 1) (sa_cons (se_var (i := 1)) sa_nil))) (ssx_p ss_nil))
    (ssx_cons (ssx_if (st_test (se_op so_eqB (se_var (i := 0)) (se_int (i := 7)))) (ssx_raise (C := D.PurseExceeded) (N := ["count"]) (by decide) (by decide) (sa_pk (sel := [0]) (n := 1) (sa_cons (se_var (i := 1)) sa_nil))) (ssx_p ss_nil))
    (ssx_cons (ssx_if (st_test (se_op so_eqB (se_var (i := 0)) (se_int (i := 8)))) (ssx_raise (C := D.TooAlike) (N := ["first", "second"]) (by decide) (by decide) (sa_pk (sel := [1, 0]) (n := 2) (sa_cons (se_var (i := 2)) (sa_cons (se_var (i := 1)) sa_nil)))) (ssx_p ss_nil))
    (ssx_cons (ssx_if (st_test (se_op so_eqB (se_var (i := 0)) (se_int (i := 9)))) (ssx_raise (C := D.TooManyRounds) (N := ["rounds"]) (by decide) (by decide) (sa_pk (sel := [0]) (n := 1) (sa_cons (se_var (i := 1)) sa_nil))) (ssx_p ss_nil))
    (ssx_cons (ssx_if (st_test (se_op so_eqB (se_var (i := 0)) (se_int (i := 10)))) (ssx_raise (C := D.NotItsTurn) (N := ["station"]) (by decide) (by decide) (sa_pk (sel := [0]) (n := 1) (sa_cons (se_var (i := 1)) sa_nil))) (ssx_p ss_nil))
    (ssx_cons (ssx_if (st_test (se_op so_eqB (se_var (i := 0)) (se_int (i := 11)))) (ssx_raise (C := D.NameTaken) (N := ["name"]) (by decide) (by decide) (sa_pk (sel := [0]) (n := 1) (sa_cons (se_var (i := 1)) sa_nil))) (ssx_p ss_nil))
    (ssx_cons (ssx_if (st_test (se_op so_eqB (se_var (i := 0)) (se_int (i := 12)))) (ssx_raise (C := D.UnknownStation) (N := ["station"]) (by decide) (by decide) (sa_pk (sel := [0]) (n := 1) (sa_cons (se_var (i := 1)) sa_nil))) (ssx_p ss_nil))
    (ssx_cons (ssx_if (st_test (se_op so_eqB (se_var (i := 0)) (se_int (i := 13)))) (ssx_raise (C := D.UnknownTalk) (N := ["talk"]) (by decide) (by decide) (sa_pk (sel := [0]) (n := 1) (sa_cons (se_var (i := 1)) sa_nil))) (ssx_p ss_nil))
    (ssx_cons (ssx_if (st_test (se_op so_eqB (se_var (i := 0)) (se_int (i := 14)))) (ssx_raise (C := D.UnknownName) (N := ["name"]) (by decide) (by decide) (sa_pk (sel := [0]) (n := 1) (sa_cons (se_var (i := 1)) sa_nil))) (ssx_p ss_nil))
    (ssx_expr (sex_call (q := asp__law_raise) (sa_cons (se_var (i := 0)) (sa_cons (se_var (i := 1)) (sa_cons (se_var (i := 2)) sa_nil))))))))))))))
theorem oa__law_raise_named {n : Nat} (T : Txt K mg D) {asp__law_raise : ALX} (cg__law_raise : Cg P w K mg base (L2.CX P w) n "_law_raise" (cSpX K asp__law_raise)) (xf_InvalidChange : CEK P w K mg base n "InvalidChange" D.InvalidChange ["change"] ["change"] [0]) (xf_PurseExceeded : CEK P w K mg base n "PurseExceeded" D.PurseExceeded ["count"] ["count"] [0]) (xf_TooAlike : CEK P w K mg base n "TooAlike" D.TooAlike ["first", "second"] ["second", "first"] [1, 0]) (xf_TooManyRounds : CEK P w K mg base n "TooManyRounds" D.TooManyRounds ["rounds"] ["rounds"] [0]) (xf_NotItsTurn : CEK P w K mg base n "NotItsTurn" D.NotItsTurn ["station"] ["station"] [0]) (xf_NameTaken : CEK P w K mg base n "NameTaken" D.NameTaken ["name"] ["name"] [0]) (xf_UnknownStation : CEK P w K mg base n "UnknownStation" D.UnknownStation ["station"] ["station"] [0]) (xf_UnknownTalk : CEK P w K mg base n "UnknownTalk" D.UnknownTalk ["talk"] ["talk"] [0]) (xf_UnknownName : CEK P w K mg base n "UnknownName" D.UnknownName ["name"] ["name"] [0]) {f : Addr} {fd : FuncData} (F : Fun K "_law_raise_named" "_law_raise_named" st__law_raise_named f fd) {asp : ALX} (hlen : ∀ vs S R B, asp vs S R B → vs.length = 3)
    (h : ∀ vs S R B, asp vs S R B → (sv__law_raise_named T (asp__law_raise := asp__law_raise)).1.2 (fun C M xs _ S => B C M xs S) { nx := fun _ S => R .non S, rt := R } (startA ["_law_number", "_law_one", "_law_other"] vs) S) : FnG P w K mg base (L2.CX P w) (n + 2) f fd ["_law_number", "_law_one", "_law_other"] (cSpX K asp) :=
  okX F sc__law_raise_named (fun cdv A outer s H E hgd hr => (dv__law_raise_named T cg__law_raise xf_InvalidChange xf_PurseExceeded xf_TooAlike xf_TooManyRounds xf_NotItsTurn xf_NameTaken xf_UnknownStation xf_UnknownTalk xf_UnknownName hgd hr).2) (sv__law_raise_named T (asp__law_raise := asp__law_raise)).2 (by decide) hlen h
noncomputable def dv__law_marks {n : Nat} (T : Txt K mg D) {f : Addr} {cdv : Value} {A : Around} {outer : List Env} {s : Shared} {H : Hp} {E : XK} {a : Addr} {oe : Obj} {cls : Value} {d : Option Addr} (hz : Zc cls d oe) (hf : ∃ vs, oe.data = .fields vs) (hr : L2H.RoomH (n + 0) (A.deeper (envOfC "_law_marks" (defScope st__law_marks) s.heap.objs.size f cdv))) :
    {t : TS // PSs (L2H.cxH CX0 P w K mg base ["_law_e", "_law_found"] "_law_marks" (defScope st__law_marks) f cdv A outer s H E (a, oe)) (defBody st__law_marks) t} := ⟨_, (pss_cons (ps_set (i := 1) sc__law_marks.nd rfl (Or.inl rfl) (pe_lst (pa_cons (pe_callB (kIsP (K := K) List.mem_cons_self hz hf) (by rfl) T.b_isinstance (by decide +kernel) (pa_cons (pv 0) (pa_cons (pe_glob (v := .ref D.InvalidText) (by rfl) T.g_InvalidText rfl) pa_nil))) (pa_cons (pe_callB (kIsP (K := K) List.mem_cons_self hz hf) (by rfl) T.b_isinstance (by decide +kernel) (pa_cons (pv 0) (pa_cons (pe_glob (v := .ref D.InvalidCommand) (by rfl) T.g_InvalidCommand rfl) pa_nil))) (pa_cons (pe_callB (kIsP (K := K) List.mem_cons_self hz hf) (by rfl) T.b_isinstance (by decide +kernel) (pa_cons (pv 0) (pa_cons (pe_glob (v := .ref D.InvalidTable) (by rfl) T.g_InvalidTable rfl) pa_nil))) pa_nil)))))
    (pss_cons (ps_set (i := 1) sc__law_marks.nd rfl (Or.inl rfl) (pe_op (kAddB (K := K)) (pv 1) (pe_lst (pa_cons (pe_callB (kIsP (K := K) List.mem_cons_self hz hf) (by rfl) T.b_isinstance (by decide +kernel) (pa_cons (pv 0) (pa_cons (pe_glob (v := .ref D.InvalidLink) (by rfl) T.g_InvalidLink rfl) pa_nil))) (pa_cons (pe_callB (kIsP (K := K) List.mem_cons_self hz hf) (by rfl) T.b_isinstance (by decide +kernel) (pa_cons (pv 0) (pa_cons (pe_glob (v := .ref D.Impossible) (by rfl) T.g_Impossible rfl) pa_nil))) (pa_cons (pe_callB (kIsP (K := K) List.mem_cons_self hz hf) (by rfl) T.b_isinstance (by decide +kernel) (pa_cons (pv 0) (pa_cons (pe_glob (v := .ref D.Finished) (by rfl) T.g_Finished rfl) pa_nil))) pa_nil))))))
    (pss_cons (ps_set (i := 1) sc__law_marks.nd rfl (Or.inl rfl) (pe_op (kAddB (K := K)) (pv 1) (pe_lst (pa_cons (pe_callB (kIsP (K := K) List.mem_cons_self hz hf) (by rfl) T.b_isinstance (by decide +kernel) (pa_cons (pv 0) (pa_cons (pe_glob (v := .ref D.InvalidChange) (by rfl) T.g_InvalidChange rfl) pa_nil))) (pa_cons (pe_callB (kIsP (K := K) List.mem_cons_self hz hf) (by rfl) T.b_isinstance (by decide +kernel) (pa_cons (pv 0) (pa_cons (pe_glob (v := .ref D.PurseExceeded) (by rfl) T.g_PurseExceeded rfl) pa_nil))) (pa_cons (pe_callB (kIsP (K := K) List.mem_cons_self hz hf) (by rfl) T.b_isinstance (by decide +kernel) (pa_cons (pv 0) (pa_cons (pe_glob (v := .ref D.TooAlike) (by rfl) T.g_TooAlike rfl) pa_nil))) pa_nil))))))
    (pss_cons (ps_set (i := 1) sc__law_marks.nd rfl (Or.inl rfl) (pe_op (kAddB (K := K)) (pv 1) (pe_lst (pa_cons (pe_callB (kIsP (K := K) List.mem_cons_self hz hf) (by rfl) T.b_isinstance (by decide +kernel) (pa_cons (pv 0) (pa_cons (pe_glob (v := .ref D.TooManyRounds) (by rfl) T.g_TooManyRounds rfl) pa_nil))) (pa_cons (pe_callB (kIsP (K := K) List.mem_cons_self hz hf) (by rfl) T.b_isinstance (by decide +kernel) (pa_cons (pv 0) (pa_cons (pe_glob (v := .ref D.NotItsTurn) (by rfl) T.g_NotItsTurn rfl) pa_nil))) (pa_cons (pe_callB (kIsP (K := K) List.mem_cons_self hz hf) (by rfl) T.b_isinstance (by decide +kernel) (pa_cons (pv 0) (pa_cons (pe_glob (v := .ref D.NameTaken) (by rfl) T.g_NameTaken rfl) pa_nil))) pa_nil))))))
    (pss_cons (ps_set (i := 1) sc__law_marks.nd rfl (Or.inl rfl) (pe_op (kAddB (K := K)) (pv 1) (pe_lst (pa_cons (pe_callB (kIsP (K := K) List.mem_cons_self hz hf) (by rfl) T.b_isinstance (by decide +kernel) (pa_cons (pv 0) (pa_cons (pe_glob (v := .ref D.UnknownStation) (by rfl) T.g_UnknownStation rfl) pa_nil))) (pa_cons (pe_callB (kIsP (K := K) List.mem_cons_self hz hf) (by rfl) T.b_isinstance (by decide +kernel) (pa_cons (pv 0) (pa_cons (pe_glob (v := .ref D.UnknownTalk) (by rfl) T.g_UnknownTalk rfl) pa_nil))) (pa_cons (pe_callB (kIsP (K := K) List.mem_cons_self hz hf) (by rfl) T.b_isinstance (by decide +kernel) (pa_cons (pv 0) (pa_cons (pe_glob (v := .ref D.UnknownName) (by rfl) T.g_UnknownName rfl) pa_nil))) pa_nil))))))
    (pss_cons (ps_set (i := 1) sc__law_marks.nd rfl (Or.inl rfl) (pe_op (kAddB (K := K)) (pv 1) (pe_lst (pa_cons (pe_callB (kIsP (K := K) List.mem_cons_self hz hf) (by rfl) T.b_isinstance (by decide +kernel) (pa_cons (pv 0) (pa_cons (pe_glob (v := .ref D.WireError) (by rfl) T.g_WireError rfl) pa_nil))) (pa_cons (pe_callB (kIsP (K := K) List.mem_cons_self hz hf) (by rfl) T.b_isinstance (by decide +kernel) (pa_cons (pv 0) (pa_cons (pe_bltn (v := .ty "ValueError") (by rfl) T.b_ValueError (by decide +kernel) rfl) pa_nil))) (pa_cons (pe_callB (kIsP (K := K) List.mem_cons_self hz hf) (by rfl) T.b_isinstance (by decide +kernel) (pa_cons (pv 0) (pa_cons (pe_glob (v := .ref D.Unknown) (by rfl) T.g_Unknown rfl) pa_nil))) pa_nil))))))
    (pss_one (ps_ret (pe_op (kAddB (K := K)) (pv 1) (pe_lst (pa_cons (pe_callB (kIsP (K := K) List.mem_cons_self hz hf) (by rfl) T.b_isinstance (by decide +kernel) (pa_cons (pv 0) (pa_cons (pe_bltn (v := .ty "KeyError") (by rfl) T.b_KeyError (by decide +kernel) rfl) pa_nil))) (pa_cons (pe_callB (kIsP (K := K) List.mem_cons_self hz hf) (by rfl) T.b_isinstance (by decide +kernel) (pa_cons (pv 0) (pa_cons (pe_bltn (v := .ty "IndexError") (by rfl) T.b_IndexError (by decide +kernel) rfl) pa_nil))) pa_nil))))))))))))⟩
def sv__law_marks (hT : Txt K mg D) {a C : Addr} {cls : Value} {d : Option Addr} (hc : cls = .ref C) : {tf : TS × ATS // SS K tf.1 tf.2} := pk (ss_cons (ss_asg (se_lst (sa_cons (se_isXo (a := a) (d := d) (D := D.InvalidText) (tab := sub_InvalidText D) hc hT.ec hT.ek_InvalidText (se_var (i := 0))) (sa_cons (se_isXo (a := a) (d := d) (D := D.InvalidCommand) (tab := sub_InvalidCommand D) hc hT.ec hT.ek_InvalidCommand (se_var (i := 0))) (sa_cons (se_isXo (a := a) (d := d) (D := D.InvalidTable) (tab := sub_InvalidTable D) hc hT.ec hT.ek_InvalidTable (se_var (i := 0))) sa_nil)))) (sg_name (i := 1)))
    (ss_cons (ss_asg (se_op so_addB (se_var (i := 1)) (se_lst (sa_cons (se_isXo (a := a) (d := d) (D := D.InvalidLink) (tab := sub_InvalidLink D) hc hT.ec hT.ek_InvalidLink (se_var (i := 0))) (sa_cons (se_isXo (a := a) (d := d) (D := D.Impossible) (tab := sub_Impossible D) hc hT.ec hT.ek_Impossible (se_var (i := 0))) (sa_cons (se_isXo (a := a) (d := d) (D := D.Finished) (tab := sub_Finished D) hc hT.ec hT.ek_Finished (se_var (i := 0))) sa_nil))))) (sg_name (i := 1)))
    (ss_cons (ss_asg (se_op so_addB (se_var (i := 1)) (se_lst (sa_cons (se_isXo (a := a) (d := d) (D := D.InvalidChange) (tab := sub_InvalidChange D) hc hT.ec hT.ek_InvalidChange (se_var (i := 0))) (sa_cons (se_isXo (a := a) (d := d) (D := D.PurseExceeded) (tab := sub_PurseExceeded D) hc hT.ec hT.ek_PurseExceeded (se_var (i := 0))) (sa_cons (se_isXo (a := a) (d := d) (D := D.TooAlike) (tab := sub_TooAlike D) hc hT.ec hT.ek_TooAlike (se_var (i := 0))) sa_nil))))) (sg_name (i := 1)))
    (ss_cons (ss_asg (se_op so_addB (se_var (i := 1)) (se_lst (sa_cons (se_isXo (a := a) (d := d) (D := D.TooManyRounds) (tab := sub_TooManyRounds D) hc hT.ec hT.ek_TooManyRounds (se_var (i := 0))) (sa_cons (se_isXo (a := a) (d := d) (D := D.NotItsTurn) (tab := sub_NotItsTurn D) hc hT.ec hT.ek_NotItsTurn (se_var (i := 0))) (sa_cons (se_isXo (a := a) (d := d) (D := D.NameTaken) (tab := sub_NameTaken D) hc hT.ec hT.ek_NameTaken (se_var (i := 0))) sa_nil))))) (sg_name (i := 1)))
    (ss_cons (ss_asg (se_op so_addB (se_var (i := 1)) (se_lst (sa_cons (se_isXo (a := a) (d := d) (D := D.UnknownStation) (tab := sub_UnknownStation D) hc hT.ec hT.ek_UnknownStation (se_var (i := 0))) (sa_cons (se_isXo (a := a) (d := d) (D := D.UnknownTalk) (tab := sub_UnknownTalk D) hc hT.ec hT.ek_UnknownTalk (se_var (i := 0))) (sa_cons (se_isXo (a := a) (d := d) (D := D.UnknownName) (tab := sub_UnknownName D) hc hT.ec hT.ek_UnknownName (se_var (i := 0))) sa_nil))))) (sg_name (i := 1)))
    (ss_cons (ss_asg (se_op so_addB (se_var (i := 1)) (se_lst (sa_cons (se_isXo (a := a) (d := d) (D := D.WireError) (tab := sub_WireError D) hc hT.ec hT.ek_WireError (se_var (i := 0))) (sa_cons (se_isXb (a := a) (d := d) (n := "ValueError") (tab := sub_ValueError D) hc hT.ec hT.ek_ValueError (se_var (i := 0))) (sa_cons (se_isXo (a := a) (d := d) (D := D.Unknown) (tab := sub_Unknown D) hc hT.ec hT.ek_Unknown (se_var (i := 0))) sa_nil))))) (sg_name (i := 1)))
    (ss_ret (se_op so_addB (se_var (i := 1)) (se_lst (sa_cons (se_isXb (a := a) (d := d) (n := "KeyError") (tab := sub_KeyError D) hc hT.ec hT.ek_KeyError (se_var (i := 0))) (sa_cons (se_isXb (a := a) (d := d) (n := "IndexError") (tab := sub_IndexError D) hc hT.ec hT.ek_IndexError (se_var (i := 0))) sa_nil)))))))))))
theorem oa__law_marks {n : Nat} (T : Txt K mg D) {f : Addr} {fd : FuncData} {a C : Addr} {oe : Obj} {d : Option Addr} (hz : Zc (.ref C) d oe) (hf : ∃ vs, oe.data = .fields vs) (F : Fun K "_law_marks" "_law_marks" st__law_marks f fd) {asp : AL} (hlen : ∀ vs S R, asp vs S R → vs.length = 1)
    (h : ∀ vs S R, asp vs S R → (sv__law_marks T (a := a) (C := C) (cls := .ref C) (d := d) rfl).1.2 { nx := fun _ S => R .non S, rt := R } (startA ["_law_e", "_law_found"] vs) S) : FnP P w K mg base (a, oe) (n + 1) f fd ["_law_e"] (cSp K asp) :=
  okAP F sc__law_marks (fun cdv A outer s H E hr => (dv__law_marks T hz hf hr).2) (sv__law_marks T (a := a) (C := C) (cls := .ref C) (d := d) rfl).2 (by decide) hlen h
noncomputable def dv__law_wire_fields {n : Nat} (T : Txt K mg D) {f : Addr} {cdv : Value} {A : Around} {outer : List Env} {s : Shared} {H : Hp} {E : XK} {a : Addr} {oe : Obj} {cls : Value} {d : Option Addr} (hz : Zc cls d oe) (hf : ∃ vs, oe.data = .fields vs) (hr : L2H.RoomH (n + 0) (A.deeper (envOfC "_law_wire_fields" (defScope st__law_wire_fields) s.heap.objs.size f cdv))) :
    {t : TS // PSs (L2H.cxH CX0 P w K mg base ["_law_e", "_law_number"] "_law_wire_fields" (defScope st__law_wire_fields) f cdv A outer s H E (a, oe)) (defBody st__law_wire_fields) t} := ⟨_, (pss_cons (ps_if (pt_cmpR (kEqBU (K := K) hr) (pv 1) pe_int (by first | exact nomark _ | rfl)) (pss_one (ps_ret (pe_lst (pa_cons (pe_xfP T.xf_InvalidChange T.xn_InvalidChange_change List.mem_cons_self hz hf (pv 0)) pa_nil)))) pss_nil)
    (pss_cons (ps_if (pt_cmpR (kEqBU (K := K) hr) (pv 1) pe_int (by first | exact nomark _ | rfl)) (pss_one (ps_ret (pe_lst (pa_cons (pe_xfP T.xf_PurseExceeded T.xn_PurseExceeded_count List.mem_cons_self hz hf (pv 0)) pa_nil)))) pss_nil)
    (pss_cons (ps_if (pt_cmpR (kEqBU (K := K) hr) (pv 1) pe_int (by first | exact nomark _ | rfl)) (pss_one (ps_ret (pe_lst (pa_cons (pe_xfP T.xf_TooAlike T.xn_TooAlike_first List.mem_cons_self hz hf (pv 0)) (pa_cons (pe_xfP T.xf_TooAlike T.xn_TooAlike_second List.mem_cons_self hz hf (pv 0)) pa_nil))))) pss_nil)
    (pss_cons (ps_if (pt_cmpR (kEqBU (K := K) hr) (pv 1) pe_int (by first | exact nomark _ | rfl)) (pss_one (ps_ret (pe_lst (pa_cons (pe_xfP T.xf_TooManyRounds T.xn_TooManyRounds_rounds List.mem_cons_self hz hf (pv 0)) pa_nil)))) pss_nil)
    (pss_cons (ps_if (pt_cmpR (kEqBU (K := K) hr) (pv 1) pe_int (by first | exact nomark _ | rfl)) (pss_one (ps_ret (pe_lst (pa_cons (pe_xfP T.xf_NotItsTurn T.xn_NotItsTurn_station List.mem_cons_self hz hf (pv 0)) pa_nil)))) pss_nil)
    (pss_one (ps_ret (pe_ifExp (pt_cmpR (kEqBU (K := K) hr) (pv 1) pe_int (by first | exact nomark _ | rfl)) (pe_lst (pa_cons (pe_xfP T.xf_NameTaken T.xn_NameTaken_name List.mem_cons_self hz hf (pv 0)) pa_nil)) (pe_lst pa_nil)))))))))⟩
def sv__law_wire_fields (hT : Txt K mg D) {a C : Addr} {cls : Value} {d : Option Addr} (hc : cls = .ref C) : {tf : TS × ATS // SS K tf.1 tf.2} := pk (ss_cons (ss_if (st_test (se_op so_eqB (se_var (i := 1)) (se_int (i := 6)))) (ss_ret (se_lst (sa_cons (se_xf (a := a) (d := d) (C0 := D.InvalidChange) (n := "change") hc (se_var (i := 0))) sa_nil))) ss_nil)
    (ss_cons (ss_if (st_test (se_op so_eqB (se_var (i := 1)) (se_int (i := 7)))) (ss_ret (se_lst (sa_cons (se_xf (a := a) (d := d) (C0 := D.PurseExceeded) (n := "count") hc (se_var (i := 0))) sa_nil))) ss_nil)
    (ss_cons (ss_if (st_test (se_op so_eqB (se_var (i := 1)) (se_int (i := 8)))) (ss_ret (se_lst (sa_cons (se_xf (a := a) (d := d) (C0 := D.TooAlike) (n := "first") hc (se_var (i := 0))) (sa_cons (se_xf (a := a) (d := d) (C0 := D.TooAlike) (n := "second") hc (se_var (i := 0))) sa_nil)))) ss_nil)
    (ss_cons (ss_if (st_test (se_op so_eqB (se_var (i := 1)) (se_int (i := 9)))) (ss_ret (se_lst (sa_cons (se_xf (a := a) (d := d) (C0 := D.TooManyRounds) (n := "rounds") hc (se_var (i := 0))) sa_nil))) ss_nil)
    (ss_cons (ss_if (st_test (se_op so_eqB (se_var (i := 1)) (se_int (i := 10)))) (ss_ret (se_lst (sa_cons (se_xf (a := a) (d := d) (C0 := D.NotItsTurn) (n := "station") hc (se_var (i := 0))) sa_nil))) ss_nil)
    (ss_ret (se_if (st_test (se_op so_eqB (se_var (i := 1)) (se_int (i := 11)))) (se_lst (sa_cons (se_xf (a := a) (d := d) (C0 := D.NameTaken) (n := "name") hc (se_var (i := 0))) sa_nil)) (se_lst sa_nil))))))))
theorem oa__law_wire_fields {n : Nat} (T : Txt K mg D) {f : Addr} {fd : FuncData} {a C : Addr} {oe : Obj} {d : Option Addr} (hz : Zc (.ref C) d oe) (hf : ∃ vs, oe.data = .fields vs) (F : Fun K "_law_wire_fields" "_law_wire_fields" st__law_wire_fields f fd) {asp : AL} (hlen : ∀ vs S R, asp vs S R → vs.length = 2)
    (h : ∀ vs S R, asp vs S R → (sv__law_wire_fields T (a := a) (C := C) (cls := .ref C) (d := d) rfl).1.2 { nx := fun _ S => R .non S, rt := R } (startA ["_law_e", "_law_number"] vs) S) : FnP P w K mg base (a, oe) (n + 1) f fd ["_law_e", "_law_number"] (cSp K asp) :=
  okAP F sc__law_wire_fields (fun cdv A outer s H E hr => (dv__law_wire_fields T hz hf hr).2) (sv__law_wire_fields T (a := a) (C := C) (cls := .ref C) (d := d) rfl).2 (by decide) hlen h
noncomputable def dv__law_unknown_fields {n : Nat} (T : Txt K mg D) {f : Addr} {cdv : Value} {A : Around} {outer : List Env} {s : Shared} {H : Hp} {E : XK} {a : Addr} {oe : Obj} {cls : Value} {d : Option Addr} (hz : Zc cls d oe) (hf : ∃ vs, oe.data = .fields vs) (hr : L2H.RoomH (n + 0) (A.deeper (envOfC "_law_unknown_fields" (defScope st__law_unknown_fields) s.heap.objs.size f cdv))) :
    {t : TS // PSs (L2H.cxH CX0 P w K mg base ["_law_e", "_law_number"] "_law_unknown_fields" (defScope st__law_unknown_fields) f cdv A outer s H E (a, oe)) (defBody st__law_unknown_fields) t} := ⟨_, (pss_cons (ps_if (pt_cmpR (kEqBU (K := K) hr) (pv 1) pe_int (by first | exact nomark _ | rfl)) (pss_one (ps_ret (pe_lst (pa_cons (pe_xfP T.xf_UnknownStation T.xn_UnknownStation_station List.mem_cons_self hz hf (pv 0)) pa_nil)))) pss_nil)
    (pss_one (ps_ret (pe_ifExp (pt_cmpR (kEqBU (K := K) hr) (pv 1) pe_int (by first | exact nomark _ | rfl)) (pe_lst (pa_cons (pe_xfP T.xf_UnknownTalk T.xn_UnknownTalk_talk List.mem_cons_self hz hf (pv 0)) pa_nil)) (pe_lst (pa_cons (pe_xfP T.xf_UnknownName T.xn_UnknownName_name List.mem_cons_self hz hf (pv 0)) pa_nil))))))⟩
def sv__law_unknown_fields (hT : Txt K mg D) {a C : Addr} {cls : Value} {d : Option Addr} (hc : cls = .ref C) : {tf : TS × ATS // SS K tf.1 tf.2} := pk (ss_cons (ss_if (st_test (se_op so_eqB (se_var (i := 1)) (se_int (i := 12)))) (ss_ret (se_lst (sa_cons (se_xf (a := a) (d := d) (C0 := D.UnknownStation) (n := "station") hc (se_var (i := 0))) sa_nil))) ss_nil)
    (ss_ret (se_if (st_test (se_op so_eqB (se_var (i := 1)) (se_int (i := 13)))) (se_lst (sa_cons (se_xf (a := a) (d := d) (C0 := D.UnknownTalk) (n := "talk") hc (se_var (i := 0))) sa_nil)) (se_lst (sa_cons (se_xf (a := a) (d := d) (C0 := D.UnknownName) (n := "name") hc (se_var (i := 0))) sa_nil)))))
theorem oa__law_unknown_fields {n : Nat} (T : Txt K mg D) {f : Addr} {fd : FuncData} {a C : Addr} {oe : Obj} {d : Option Addr} (hz : Zc (.ref C) d oe) (hf : ∃ vs, oe.data = .fields vs) (F : Fun K "_law_unknown_fields" "_law_unknown_fields" st__law_unknown_fields f fd) {asp : AL} (hlen : ∀ vs S R, asp vs S R → vs.length = 2)
    (h : ∀ vs S R, asp vs S R → (sv__law_unknown_fields T (a := a) (C := C) (cls := .ref C) (d := d) rfl).1.2 { nx := fun _ S => R .non S, rt := R } (startA ["_law_e", "_law_number"] vs) S) : FnP P w K mg base (a, oe) (n + 1) f fd ["_law_e", "_law_number"] (cSp K asp) :=
  okAP F sc__law_unknown_fields (fun cdv A outer s H E hr => (dv__law_unknown_fields T hz hf hr).2) (sv__law_unknown_fields T (a := a) (C := C) (cls := .ref C) (d := d) rfl).2 (by decide) hlen h
noncomputable def dv__law_caught {n : Nat} (T : Txt K mg D) {asp__law_raise_named : ALX} {asp__law_raise : ALX} {asp__law_marks : Addr → Option Addr → Addr → AL} {asp__law_wire_fields : Addr → Option Addr → Addr → AL} {asp__law_unknown_fields : Addr → Option Addr → Addr → AL} (cg__law_raise_named : Cg P w K mg base (L2.CX P w) n "_law_raise_named" (cSpX K asp__law_raise_named)) (cg__law_raise : Cg P w K mg base (L2.CX P w) n "_law_raise" (cSpX K asp__law_raise)) (cp__law_marks : CgP P w K mg base n "_law_marks" (fun a d C => cSp K (asp__law_marks a d C))) (cp__law_wire_fields : CgP P w K mg base n "_law_wire_fields" (fun a d C => cSp K (asp__law_wire_fields a d C))) (cp__law_unknown_fields : CgP P w K mg base n "_law_unknown_fields" (fun a d C => cSp K (asp__law_unknown_fields a d C))) {f : Addr} {cdv : Value} {A : Around} {outer : List Env} {s : Shared} {H : Hp} {E : XK} (hgd : (A.deeper (envOfC "_law_caught" (defScope st__law_caught) s.heap.objs.size f cdv)).guards = some []) (hr : Room (n + 0) (A.deeper (envOfC "_law_caught" (defScope st__law_caught) s.heap.objs.size f cdv))) :
    {t : TS // PSs (cxOf CX0 P w K mg base ["_law_number", "_law_one", "_law_other", "_law_is_named", "_law_found", "_law_e"] "_law_caught" (defScope st__law_caught) f cdv A outer s H E).nox (defBody st__law_caught) t} := ⟨_, (pss_cons (ps_set (i := 4) sc__law_caught.nd rfl (Or.inl rfl) pe_non)
    (pss_cons (ps_tryXK (K := K) rfl rfl sc__law_caught.nd takes_none5 (fun W pn xe tkW po => (pss_one (ps_if (pt_truthK (K := K) (pv 3) (fun _ => rfl)) (pss_one (ps_expr (pe_cgX cg__law_raise_named tkW hgd hr (Nat.le_add_right n _) (by rfl) (pa_cons (pv 0) (pa_cons (pv 1) (pa_cons (pv 2) pa_nil)))))) (pss_one (ps_expr (pe_cgX cg__law_raise tkW hgd hr (Nat.le_add_right n _) (by rfl) (pa_cons (pv 0) (pa_cons (pv 1) (pa_cons (pv 2) pa_nil))))))))) (HdX.named (i := 5) ⟨by rfl, by decide, .inl T.g_WireError⟩ rfl rfl (fun a oe cls d pn hz hf => (pss_one (ps_set (i := 4) sc__law_caught.nd rfl (Or.inl rfl) (pe_tupF (pa_cons (pe_cgP cp__law_marks hz hf hr (Nat.le_add_right n _) (by rfl) (pa_cons (pv 5) pa_nil)) (pa_cons (pe_cgP cp__law_wire_fields hz hf hr (Nat.le_add_right n _) (by rfl) (pa_cons (pv 5) (pa_cons (pv 0) pa_nil))) pa_nil)))))) (HdX.named (i := 5) ⟨by rfl, by decide, .inl T.g_Unknown⟩ rfl rfl (fun a oe cls d pn hz hf => (pss_one (ps_set (i := 4) sc__law_caught.nd rfl (Or.inl rfl) (pe_tupF (pa_cons (pe_cgP cp__law_marks hz hf hr (Nat.le_add_right n _) (by rfl) (pa_cons (pv 5) pa_nil)) (pa_cons (pe_cgP cp__law_unknown_fields hz hf hr (Nat.le_add_right n _) (by rfl) (pa_cons (pv 5) (pa_cons (pv 0) pa_nil))) pa_nil)))))) HdX.nil)))
    (pss_one (ps_ret (pv 4)))))⟩
def sv__law_caught (hT : Txt K mg D) {asp__law_raise_named : ALX} {asp__law_raise : ALX} {asp__law_marks : Addr → Option Addr → Addr → AL} {asp__law_wire_fields : Addr → Option Addr → Addr → AL} {asp__law_unknown_fields : Addr → Option Addr → Addr → AL} : {tf : TS × ATS // SS K tf.1 tf.2} := pk (ss_cons (ss_asg se_non (sg_name (i := 4)))
    (ss_cons (ss_try (ssx_if (st_truth (se_var (i := 3))) (ssx_expr (sex_call (q := asp__law_raise_named) (sa_cons (se_var (i := 0)) (sa_cons (se_var (i := 1)) (sa_cons (se_var (i := 2)) sa_nil))))) (ssx_expr (sex_call (q := asp__law_raise) (sa_cons (se_var (i := 0)) (sa_cons (se_var (i := 1)) (sa_cons (se_var (i := 2)) sa_nil)))))) (SCls.cons (i := some 5) (tab := sub_WireError D) hT.em_WireError (fun a d cls C hc => (ss_asg (se_tup (sa_cons (se_cgP (a := a) (d := d) (g := asp__law_marks) hc (sa_cons (se_var (i := 5)) sa_nil)) (sa_cons (se_cgP (a := a) (d := d) (g := asp__law_wire_fields) hc (sa_cons (se_var (i := 5)) (sa_cons (se_var (i := 0)) sa_nil))) sa_nil))) (sg_name (i := 4)))) (SCls.cons (i := some 5) (tab := sub_Unknown D) hT.em_Unknown (fun a d cls C hc => (ss_asg (se_tup (sa_cons (se_cgP (a := a) (d := d) (g := asp__law_marks) hc (sa_cons (se_var (i := 5)) sa_nil)) (sa_cons (se_cgP (a := a) (d := d) (g := asp__law_unknown_fields) hc (sa_cons (se_var (i := 5)) (sa_cons (se_var (i := 0)) sa_nil))) sa_nil))) (sg_name (i := 4)))) SCls.nil)))
    (ss_ret (se_var (i := 4)))))
theorem oa__law_caught {n : Nat} (T : Txt K mg D) {asp__law_raise_named : ALX} {asp__law_raise : ALX} {asp__law_marks : Addr → Option Addr → Addr → AL} {asp__law_wire_fields : Addr → Option Addr → Addr → AL} {asp__law_unknown_fields : Addr → Option Addr → Addr → AL} (cg__law_raise_named : Cg P w K mg base (L2.CX P w) n "_law_raise_named" (cSpX K asp__law_raise_named)) (cg__law_raise : Cg P w K mg base (L2.CX P w) n "_law_raise" (cSpX K asp__law_raise)) (cp__law_marks : CgP P w K mg base n "_law_marks" (fun a d C => cSp K (asp__law_marks a d C))) (cp__law_wire_fields : CgP P w K mg base n "_law_wire_fields" (fun a d C => cSp K (asp__law_wire_fields a d C))) (cp__law_unknown_fields : CgP P w K mg base n "_law_unknown_fields" (fun a d C => cSp K (asp__law_unknown_fields a d C))) {f : Addr} {fd : FuncData} (F : Fun K "_law_caught" "_law_caught" st__law_caught f fd) {asp : AL} (hlen : ∀ vs S R, asp vs S R → vs.length = 4)
    (h : ∀ vs S R, asp vs S R → (sv__law_caught T (asp__law_raise_named := asp__law_raise_named) (asp__law_raise := asp__law_raise) (asp__law_marks := asp__law_marks) (asp__law_wire_fields := asp__law_wire_fields) (asp__law_unknown_fields := asp__law_unknown_fields)).1.2 { nx := fun _ S => R .non S, rt := R } (startA ["_law_number", "_law_one", "_law_other", "_law_is_named", "_law_found", "_law_e"] vs) S) : FnG P w K mg base CX0 (n + 1) f fd ["_law_number", "_law_one", "_law_other", "_law_is_named"] (cSp K asp) :=
  okA F sc__law_caught (fun cdv A outer s H E hgd hr => (dv__law_caught T cg__law_raise_named cg__law_raise cp__law_marks cp__law_wire_fields cp__law_unknown_fields hgd hr).2) (sv__law_caught T (asp__law_raise_named := asp__law_raise_named) (asp__law_raise := asp__law_raise) (asp__law_marks := asp__law_marks) (asp__law_wire_fields := asp__law_wire_fields) (asp__law_unknown_fields := asp__law_unknown_fields)).2 (by decide) hlen h
noncomputable def dv__law_expected {n : Nat} (T : Txt K mg D) {f : Addr} {cdv : Value} {A : Around} {outer : List Env} {s : Shared} {H : Hp} {E : XK} (hgd : (A.deeper (envOfC "_law_expected" (defScope st__law_expected) s.heap.objs.size f cdv)).guards = some []) (hr : Room (n + 0) (A.deeper (envOfC "_law_expected" (defScope st__law_expected) s.heap.objs.size f cdv))) :
    {t : TS // PSs (cxOf CX0 P w K mg base ["_law_number", "_law_one", "_law_other", "_law_marks_here", "_law_is_wire", "_law_fields", "_law_k"] "_law_expected" (defScope st__law_expected) f cdv A outer s H E).nox (defBody st__law_expected) t} := ⟨_, (pss_cons (ps_setLc (i := 3) (own := [("_law_k", 6)]) rfl sc__law_expected.nd rfl rfl (sw_true rfl rfl rfl (by decide +kernel)) (pi_range1 (by rfl) T.b_range (pa_cons pe_int pa_nil)) (blkOk_by (N := ["_law_number", "_law_one", "_law_other", "_law_marks_here", "_law_is_wire", "_law_fields", "_law_k"]) (sc := defScope st__law_expected) (by decide +kernel)) (fun _ _ _ _ _ => (pg_name (i := 6) sc__law_expected.nd rfl (Or.inl rfl))) (fun _ _ _ _ _ => pts_nil) (fun _ _ _ _ _ => (pe_cmpR (kEqB (K := K) hr) (pv 6) (pv 0) (by first | exact nomark _ | rfl))))
    (pss_cons (ps_set (i := 4) sc__law_expected.nd rfl (Or.inl rfl) (pe_cmpR oLt (pv 0) pe_int (by first | exact nomark _ | rfl)))
    (pss_cons (ps_set (i := 5) sc__law_expected.nd rfl (Or.inl rfl) (pe_ix (kIx (K := K)) (pe_lst (pa_cons (pe_lst pa_nil) (pa_cons (pe_lst (pa_cons (pv 1) pa_nil)) (pa_cons (pe_lst (pa_cons (pv 1) (pa_cons (pv 2) pa_nil))) pa_nil)))) (pe_op (kAddB (K := K)) (pe_callTy kInt (by rfl) T.b_int (by decide +kernel) (pa_cons (pe_cmpR oGt (pv 0) pe_int (by first | exact nomark _ | rfl)) pa_nil)) (pe_callTy kInt (by rfl) T.b_int (by decide +kernel) (pa_cons (pe_cmpR (kEqB (K := K) hr) (pv 0) pe_int (by first | exact nomark _ | rfl)) pa_nil))) (fun _ _ => rfl)))
    (pss_one (ps_ret (pe_tupF (pa_cons (pe_op (kAddB (K := K)) (pv 3) (pe_lst (pa_cons (pv 4) (pa_cons (pv 4) (pa_cons (pe_not (pv 4)) (pa_cons (pe_not (pv 4)) (pa_cons pe_bl pa_nil))))))) (pa_cons (pv 5) pa_nil))))))))⟩
def sv__law_expected (hT : Txt K mg D) : {tf : TS × ATS // SS K tf.1 tf.2} := pk (ss_cons (ss_asg (se_lc (vs := [6]) (si_rng1 (sa_cons (se_int (i := 15)) sa_nil)) (sg_name (i := 6)) (by decide) st_yes (se_op so_eqB (se_var (i := 6)) (se_var (i := 0)))) (sg_name (i := 3)))
    (ss_cons (ss_asg (se_op so_lt (se_var (i := 0)) (se_int (i := 12))) (sg_name (i := 4)))
    (ss_cons (ss_asg (se_op so_ix (se_lst (sa_cons (se_lst sa_nil) (sa_cons (se_lst (sa_cons (se_var (i := 1)) sa_nil)) (sa_cons (se_lst (sa_cons (se_var (i := 1)) (sa_cons (se_var (i := 2)) sa_nil))) sa_nil)))) (se_op so_addB (se_cb sl_int (sa_cons (se_op so_gt (se_var (i := 0)) (se_int (i := 5))) sa_nil)) (se_cb sl_int (sa_cons (se_op so_eqB (se_var (i := 0)) (se_int (i := 8))) sa_nil)))) (sg_name (i := 5)))
    (ss_ret (se_tup (sa_cons (se_op so_addB (se_var (i := 3)) (se_lst (sa_cons (se_var (i := 4)) (sa_cons (se_var (i := 4)) (sa_cons (se_notV (se_var (i := 4))) (sa_cons (se_notV (se_var (i := 4))) (sa_cons (se_bl (i := false)) sa_nil))))))) (sa_cons (se_var (i := 5)) sa_nil)))))))
theorem oa__law_expected {n : Nat} (T : Txt K mg D) {f : Addr} {fd : FuncData} (F : Fun K "_law_expected" "_law_expected" st__law_expected f fd) {asp : AL} (hlen : ∀ vs S R, asp vs S R → vs.length = 3)
    (h : ∀ vs S R, asp vs S R → (sv__law_expected T).1.2 { nx := fun _ S => R .non S, rt := R } (startA ["_law_number", "_law_one", "_law_other", "_law_marks_here", "_law_is_wire", "_law_fields", "_law_k"] vs) S) : FnG P w K mg base CX0 (n + 1) f fd ["_law_number", "_law_one", "_law_other"] (cSp K asp) :=
  okA F sc__law_expected (fun cdv A outer s H E hgd hr => (dv__law_expected T hgd hr).2) (sv__law_expected T).2 (by decide) hlen h
noncomputable def dv_law {n : Nat} (T : Txt K mg D) {asp__law_source : AL} {asp__law_thing : AL} {asp__law_caught : AL} {asp__law_expected : AL} (cg__law_source : Cg P w K mg base CX0 n "_law_source" (cSp K asp__law_source)) (cg__law_thing : Cg P w K mg base CX0 n "_law_thing" (cSp K asp__law_thing)) (cg__law_caught : Cg P w K mg base CX0 n "_law_caught" (cSp K asp__law_caught)) (cg__law_expected : Cg P w K mg base CX0 n "_law_expected" (cSp K asp__law_expected)) {f : Addr} {cdv : Value} {A : Around} {outer : List Env} {s : Shared} {H : Hp} {E : XK} (hgd : (A.deeper (envOfC "law" (defScope st_law) s.heap.objs.size f cdv)).guards = some []) (hr : Room (n + 0) (A.deeper (envOfC "law" (defScope st_law) s.heap.objs.size f cdv))) :
    {t : TS // PSs (cxOf CX0 P w K mg base ["_law_script", "_law_source_here", "_law_number", "_law_one", "_law_other", "_law_kept", "_law_is_named"] "law" (defScope st_law) f cdv A outer s H E).nox (defBody st_law) t} := ⟨_, (pss_cons (ps_set (i := 1) sc_law.nd rfl (Or.inl rfl) (pe_cg cg__law_source hgd hr (Nat.le_add_right n _) (by rfl) pass0 (pa_cons (pv 0) pa_nil)))
    (pss_cons (ps_for PassesOwn.never rfl (pi_range1 (by rfl) T.b_range (pa_cons pe_int pa_nil)) (pg_name (i := 2) sc_law.nd rfl (Or.inl rfl)) (pss_cons (ps_par (i := 3) (j := 4) rfl sc_law.nd rfl rfl (by decide) rfl rfl (pa_cons (pe_cg cg__law_thing hgd hr (Nat.le_add_right n _) (by rfl) pass0 (pa_cons (pv 1) (pa_cons pe_int pa_nil))) (pa_cons (pe_cg cg__law_thing hgd hr (Nat.le_add_right n _) (by rfl) pass0 (pa_cons (pv 1) (pa_cons pe_int pa_nil))) pa_nil)) (by rfl))
    (pss_cons (ps_set (i := 5) sc_law.nd rfl (Or.inl rfl) (pe_callB (kReprQ (K := K) hgd hr) (by rfl) T.b_repr (by decide +kernel) (pa_cons (pe_tupF (pa_cons (pv 3) (pa_cons (pv 4) pa_nil))) pa_nil)))
    (pss_cons (ps_for PassesOwn.never rfl (pi_seqK (K := K) (pe_tupF (pa_cons pe_bl (pa_cons pe_bl pa_nil)))) (pg_name (i := 6) sc_law.nd rfl (Or.inl rfl)) (pss_one (ps_if (pt_cmpR (kNe (K := K) hr) (pe_callB (kReprQ (K := K) hgd hr) (by rfl) T.b_repr (by decide +kernel) (pa_cons (pe_cg cg__law_caught hgd hr (Nat.le_add_right n _) (by rfl) pass0 (pa_cons (pv 2) (pa_cons (pv 3) (pa_cons (pv 4) (pa_cons (pv 6) pa_nil))))) pa_nil)) (pe_callB (kReprQ (K := K) hgd hr) (by rfl) T.b_repr (by decide +kernel) (pa_cons (pe_cg cg__law_expected hgd hr (Nat.le_add_right n _) (by rfl) pass0 (pa_cons (pv 2) (pa_cons (pv 3) (pa_cons (pv 4) pa_nil)))) pa_nil)) (by first | exact nomark _ | rfl)) (pss_one (ps_ret pe_bl)) pss_nil)))
    (pss_one (ps_if (pt_cmpR (kNe (K := K) hr) (pe_callB (kReprQ (K := K) hgd hr) (by rfl) T.b_repr (by decide +kernel) (pa_cons (pe_tupF (pa_cons (pv 3) (pa_cons (pv 4) pa_nil))) pa_nil)) (pv 5) (by first | exact nomark _ | rfl)) (pss_one (ps_ret pe_bl)) pss_nil))))))
    (pss_one (ps_ret pe_bl))))⟩
def sv_law (hT : Txt K mg D) {asp__law_source : AL} {asp__law_thing : AL} {asp__law_caught : AL} {asp__law_expected : AL} : {tf : TS × ATS // SS K tf.1 tf.2} := pk (ss_cons (ss_asg (se_call (g := asp__law_source) (sa_cons (se_var (i := 0)) sa_nil)) (sg_name (i := 1)))
    (ss_cons (ss_for (si_rng1 (sa_cons (se_int (i := 15)) sa_nil)) (sg_name (i := 2)) (ss_cons (ss_par (i := 3) (j := 4) (sa_cons (se_call (g := asp__law_thing) (sa_cons (se_var (i := 1)) (sa_cons (se_int (i := 3)) sa_nil))) (sa_cons (se_call (g := asp__law_thing) (sa_cons (se_var (i := 1)) (sa_cons (se_int (i := 3)) sa_nil))) sa_nil)))
    (ss_cons (ss_asg (se_cb sl_reprQ (sa_cons (se_tup (sa_cons (se_var (i := 3)) (sa_cons (se_var (i := 4)) sa_nil))) sa_nil)) (sg_name (i := 5)))
    (ss_cons (ss_for (si_seq (se_tup (sa_cons (se_bl (i := false)) (sa_cons (se_bl (i := true)) sa_nil)))) (sg_name (i := 6)) (ss_if (st_test (se_op so_ne (se_cb sl_reprQ (sa_cons (se_call (g := asp__law_caught) (sa_cons (se_var (i := 2)) (sa_cons (se_var (i := 3)) (sa_cons (se_var (i := 4)) (sa_cons (se_var (i := 6)) sa_nil))))) sa_nil)) (se_cb sl_reprQ (sa_cons (se_call (g := asp__law_expected) (sa_cons (se_var (i := 2)) (sa_cons (se_var (i := 3)) (sa_cons (se_var (i := 4)) sa_nil)))) sa_nil)))) (ss_ret (se_bl (i := false))) ss_nil))
    (ss_if (st_test (se_op so_ne (se_cb sl_reprQ (sa_cons (se_tup (sa_cons (se_var (i := 3)) (sa_cons (se_var (i := 4)) sa_nil))) sa_nil)) (se_var (i := 5)))) (ss_ret (se_bl (i := false))) ss_nil)))))
    (ss_ret (se_bl (i := true)))))
theorem oa_law {n : Nat} (T : Txt K mg D) {asp__law_source : AL} {asp__law_thing : AL} {asp__law_caught : AL} {asp__law_expected : AL} (cg__law_source : Cg P w K mg base CX0 n "_law_source" (cSp K asp__law_source)) (cg__law_thing : Cg P w K mg base CX0 n "_law_thing" (cSp K asp__law_thing)) (cg__law_caught : Cg P w K mg base CX0 n "_law_caught" (cSp K asp__law_caught)) (cg__law_expected : Cg P w K mg base CX0 n "_law_expected" (cSp K asp__law_expected)) {f : Addr} {fd : FuncData} (F : Fun K "law" "law" st_law f fd) {asp : AL} (hlen : ∀ vs S R, asp vs S R → vs.length = 1)
    (h : ∀ vs S R, asp vs S R → (sv_law T (asp__law_source := asp__law_source) (asp__law_thing := asp__law_thing) (asp__law_caught := asp__law_caught) (asp__law_expected := asp__law_expected)).1.2 { nx := fun _ S => R .non S, rt := R } (startA ["_law_script", "_law_source_here", "_law_number", "_law_one", "_law_other", "_law_kept", "_law_is_named"] vs) S) : FnG P w K mg base CX0 (n + 1) f fd ["_law_script"] (cSp K asp) :=
  okA F sc_law (fun cdv A outer s H E hgd hr => (dv_law T cg__law_source cg__law_thing cg__law_caught cg__law_expected hgd hr).2) (sv_law T (asp__law_source := asp__law_source) (asp__law_thing := asp__law_thing) (asp__law_caught := asp__law_caught) (asp__law_expected := asp__law_expected)).2 (by decide) hlen h
end
end K01

open PySem PySem.Spec PyProof.Rows L2 L5
open L3 hiding loop_rng loop_rng0 comp_rng comp_rng0
local macro_rules | `(tactic| wtm_at "env") => `(tactic| first | ((with_unfolding_all dsimp only [put, hides, hide, startA]) <;> with_reducible rfl) | with_reducible rfl)
local macro_rules | `(tactic| wtm_at "sto") => `(tactic| first | ((with_unfolding_all simp only [dx, dd3, List.cons_append, List.nil_append, List.length_cons, List.length_nil, List.append_assoc, Nat.reduceAdd, Nat.zero_add]) <;> with_reducible rfl) | with_reducible rfl)
local macro_rules | `(tactic| wtm_at "sz") => `(tactic| with_unfolding_all (intro hx; cases hx; done))
local macro_rules | `(tactic| wtm_at "sz") => `(tactic| with_unfolding_all decide +kernel)
local macro_rules | `(tactic| wtm_at "sz") => `(tactic| with_unfolding_all decide)
local macro_rules | `(tactic| wtm_at "sz") => `(tactic| with_unfolding_all (unfold CPow; decide))
local macro_rules | `(tactic| wtm_at "sz") => `(tactic| with_unfolding_all (dsimp only; omega))
local macro_rules | `(tactic| wtm_at "sz") => `(tactic| with_unfolding_all (unfold CDiv; omega))
local macro_rules | `(tactic| wtm_at "sz") => `(tactic| with_unfolding_all (unfold CMul; omega))
local macro_rules | `(tactic| wtm_at "sz") => `(tactic| with_unfolding_all (unfold sizeLine; omega))
local macro_rules | `(tactic| wtm_at "sz") => `(tactic| with_unfolding_all (simp only [List.length_cons, List.length_nil, List.length_append, List.length_map, List.length_replicate, List.length_reverse]; first | done | omega | (unfold sizeLine; omega)))
local macro_rules | `(tactic| wtm_at "sz") => `(tactic| with_unfolding_all exact (rfl : (_ : Option Str) = some _))
local macro_rules | `(tactic| wtm_at "sz") => `(tactic| with_unfolding_all exact (rfl : (_ : PV) = _))
local macro_rules | `(tactic| wtm_at "sz") => `(tactic| with_unfolding_all exact (rfl : (_ : Nat) = _))
local macro_rules | `(tactic| wtm_at "sz") => `(tactic| with_unfolding_all omega)
local macro_rules | `(tactic| wtm_at "a1") => `(tactic| with_reducible refine r_cF (by decide +kernel) ?_)
local macro_rules | `(tactic| wtm_at "a1") => `(tactic| with_reducible refine r_cT (by decide +kernel) ?_)
local macro_rules | `(tactic| wtm_at "a1") => `(tactic| with_reducible refine r_bn (by decide +kernel) ?_)
local macro_rules | `(tactic| wtm_at "a1") => `(tactic| with_reducible refine r_by (by decide +kernel) ?_)
local macro_rules | `(tactic| wtm_at "a1") => `(tactic| with_reducible refine r_by (by with_reducible rfl) ?_)
local macro_rules | `(tactic| wtm_at "a1") => `(tactic| with_reducible refine r_brN ?_)
local macro_rules | `(tactic| wtm_at "a1") => `(tactic| with_reducible refine r_brF ?_)
local macro_rules | `(tactic| wtm_at "a1") => `(tactic| with_reducible refine r_brT ?_)
local macro_rules | `(tactic| wtm_at "a1") => `(tactic| with_reducible refine r_rsv (by assumption) ?_)
local macro_rules | `(tactic| wtm_at "a1") => `(tactic| with_reducible refine r_texts rfl ?_)
local macro_rules | `(tactic| wtm_at "a1") => `(tactic| with_reducible refine r_kOk rfl (by decide +kernel) (by decide) ?_)
local macro_rules | `(tactic| wtm_at "a1") => `(tactic| with_reducible refine r_dputN (by decide +kernel) (by decide) ?_)
local macro_rules | `(tactic| wtm_at "a1") => `(tactic| with_reducible refine r_dput 7 rfl ?_)
local macro_rules | `(tactic| wtm_at "a1") => `(tactic| with_reducible refine r_dput 6 rfl ?_)
local macro_rules | `(tactic| wtm_at "a1") => `(tactic| with_reducible refine r_dput 5 rfl ?_)
local macro_rules | `(tactic| wtm_at "a1") => `(tactic| with_reducible refine r_dput 4 rfl ?_)
local macro_rules | `(tactic| wtm_at "a1") => `(tactic| with_reducible refine r_dput 3 rfl ?_)
local macro_rules | `(tactic| wtm_at "a1") => `(tactic| with_reducible refine r_dput 2 rfl ?_)
local macro_rules | `(tactic| wtm_at "a1") => `(tactic| with_reducible refine r_dput 1 rfl ?_)
local macro_rules | `(tactic| wtm_at "a1") => `(tactic| with_reducible refine r_dput 0 rfl ?_)
local macro_rules | `(tactic| wtm_at "a1") => `(tactic| with_reducible refine r_dat 7 rfl rfl ?_)
local macro_rules | `(tactic| wtm_at "a1") => `(tactic| with_reducible refine r_dat 6 rfl rfl ?_)
local macro_rules | `(tactic| wtm_at "a1") => `(tactic| with_reducible refine r_dat 5 rfl rfl ?_)
local macro_rules | `(tactic| wtm_at "a1") => `(tactic| with_reducible refine r_dat 4 rfl rfl ?_)
local macro_rules | `(tactic| wtm_at "a1") => `(tactic| with_reducible refine r_dat 3 rfl rfl ?_)
local macro_rules | `(tactic| wtm_at "a1") => `(tactic| with_reducible refine r_dat 2 rfl rfl ?_)
local macro_rules | `(tactic| wtm_at "a1") => `(tactic| with_reducible refine r_dat 1 rfl rfl ?_)
local macro_rules | `(tactic| wtm_at "a1") => `(tactic| with_reducible refine r_dat 0 rfl rfl ?_)
local macro_rules | `(tactic| wtm_at "a1") => `(tactic| with_reducible refine r_ownD rfl (by first | with_reducible rfl | assumption) (by wtm_at "sz") ?_)
local macro_rules | `(tactic| wtm_at "a1") => `(tactic| with_reducible refine r_onD (by first | with_reducible rfl | assumption) ?_)
local macro_rules | `(tactic| wtm_at "a1") => `(tactic| with_reducible refine r_new (by wtm_at "sto") (by wtm_at "sto") ?_)
local macro_rules | `(tactic| wtm_at "a1") => `(tactic| with_reducible refine r_stF rfl (by first | with_reducible rfl | assumption) (by with_unfolding_all rfl) (by with_reducible rfl) ?_)
local macro_rules | `(tactic| wtm_at "a1") => `(tactic| with_reducible refine r_ca (by first | exact ⟨rfl, rfl⟩ | exact .inl ⟨rfl, rfl⟩ | exact .inr ⟨rfl, rfl⟩ | exact .inr (.inl ⟨rfl, rfl⟩) | exact .inr (.inr ⟨rfl, rfl⟩)) ?_)
local macro_rules | `(tactic| wtm_at "a1") => `(tactic| with_reducible refine r_ins (by first | with_reducible rfl | assumption) ?_)
local macro_rules | `(tactic| wtm_at "a1") => `(tactic| with_reducible refine r_onO (by with_unfolding_all rfl) ?_)
local macro_rules | `(tactic| wtm_at "a1") => `(tactic| with_reducible refine r_onL (by first | with_reducible rfl | assumption | exact sget_new _ _ | exact sget_two _ _ _ _) ?_)
local macro_rules | `(tactic| wtm_at "a1") => `(tactic| with_reducible refine r_set (by wtm_at "env") ?_)
local macro_rules | `(tactic| wtm_at "a1") => `(tactic| with_reducible refine And.intro (by first | assumption | wtm_at "sz") ?_)
local macro_rules | `(tactic| wtm_at "aw") => `(tactic| ((with_reducible conv => whnf); repeat ((wtm_at "a1"); (with_reducible conv => whnf))))

namespace K01
section
variable {P : Program} {w : World} {K : PySem.W.Frag} {mg : Str → Option Value} {base : Heap} {D : Ad} {n : Nat}
theorem ok_source (T : Txt K mg D) {f : Addr} {fd : FuncData} (F : Fun K "_law_source" "_law_source" st__law_source f fd) : FnG P w K mg base CX0 (n + 1) f fd ["_law_script"] (cSp K (asp_source "cells" "mixed" "count" X0)) := by
  refine oa__law_source T F (fun vs S R h => ?_) (fun vs S R h => ?_)
  · obtain ⟨ns, rfl, _⟩ := h
    rfl
  · obtain ⟨ns, rfl, rfl, hl, k⟩ := h
    dsimp only [sv__law_source, pk]
    wtm_at "aw"
    obtain ⟨ms, em, hm⟩ := cut_iL ns none (some 63)
    rw [em]
    refine loop_one (fun i ρ S' => ∃ m v, ρ = [some (.scr ns), some (.lst (iL ms)), some (.int m), v] ∧ S' = [] ∧ 0 ≤ m ∧ m < 4294967296) ⟨_, _, rfl, rfl, by decide, by decide⟩ ?_ ?_
    · rintro i x ρ _ hi ⟨m, v, rfl, rfl, h0, h1⟩
      obtain ⟨n, hn, rfl⟩ := map_at hi
      wtm_at "aw"
      exact ⟨_, _, rfl, rfl, by omega, by omega⟩
    · rintro ρ _ ⟨m, v, rfl, rfl, h0, h1⟩
      wtm_at "aw"
      have := k ⟨ms.reverse, m, 0⟩ ⟨h0, h1, Int.le_refl _, Int.le_refl _, by show ms.reverse.length ≤ 64; rw [List.length_reverse]; omega⟩
      have e : dx "cells" "mixed" "count" X0 ⟨ms.reverse, m, 0⟩ [] = [.lst (iL ms).reverse, .dct [.inr "cells", .inr "mixed", .inr "count"] [.own 0, .int m, .int 0]] := by
        unfold dx dd3 iL
        rw [List.map_reverse]
      rw [e] at this
      exact this
end
end K01

namespace K01
section
variable {P : Program} {w : World} {K : PySem.W.Frag} {mg : Str → Option Value} {base : Heap} {D : Ad} {n : Nat}
theorem ok_drw (T : Txt K mg D) {f : Addr} {fd : FuncData} (F : Fun K "_law_draw" "_law_draw" st__law_draw f fd) : FnG P w K mg base CX0 (n + 1) f fd ["_law_source_here", "_law_bound"] (cSp K (asp_drw "cells" "mixed" "count")) := by
  refine oa__law_draw T F (fun vs S R h => ?_) (fun vs S R h => ?_)
  · obtain ⟨X, D, G, n, m, rfl, _⟩ := h
    rfl
  · obtain ⟨X, ⟨cells, m0, k0⟩, G, n, m, rfl, rfl, hX, ⟨g1, g2, g3, g4, g5⟩, hn, hm1, hm2, k⟩ := h
    dsimp only at g1 g2 g3 g4 g5
    have hq : eqOk (.lst (iL cells)) := eqOk_iL cells
    have done : ∀ (r : Int) (cs : List Int), cs.length ≤ 64 → 0 ≤ r → r < m → R (.int r) (dd3 "cells" "mixed" "count" X cs m0 (k0 + 1) G) := fun r cs hc h0 h1 => k r ⟨cs, m0, k0 + 1⟩ h0 h1 ⟨g1, g2, by show 0 ≤ k0 + 1; omega, by show k0 + 1 ≤ n + 1; omega, hc⟩
    dsimp only [sv__law_draw, pk, dx]
    wtm_at "aw"
    refine ⟨fun ρ S' => ∃ (cs : List Int) (z : Int) (v : Option PV), ρ = [some (.own 1), some (.int m), some (.int (k0 + 1)), some (.int z), v] ∧ S' = dd3 "cells" "mixed" "count" X cs m0 (k0 + 1) G ∧ cs.length ≤ 64, ?_, ?_⟩
    · wtm_at "aw"
      by_cases hc : cells = []
      · subst hc
        refine r_brT ?_
        wtm_at "aw"
        exact ⟨[], m0, none, rfl, rfl, by decide⟩
      · obtain ⟨cs, z, rfl⟩ := last_of hc
        have e : (iL (cs ++ [z])).isEmpty = false := by simp
        rw [e]
        rw [List.length_append, List.length_singleton] at g5
        wtm_at "aw"
        refine r_onO (x := .int z) (by simp) ?_
        have e2 : (iL (cs ++ [z])).dropLast = iL cs := by simp
        rw [e2]
        wtm_at "aw"
        refine r_br (fun h => ?_) (fun h => ?_)
        · wtm_at "aw"
          have := done (z % m) (cs ++ [z / m]) (by rw [List.length_append, List.length_singleton]; omega) (Int.emod_nonneg _ (by omega)) (Int.emod_lt_of_pos _ (by omega))
          have e3 : iL (cs ++ [z / m]) = iL cs ++ [.int (z / m)] := by simp
          unfold dd3 at this
          rw [e3] at this
          exact this
        · wtm_at "aw"
          exact ⟨cs, _, _, rfl, rfl, by omega⟩
    · rintro ρ _ ⟨cs, z, v, rfl, rfl, hc⟩
      wtm_at "aw"
      exact done _ cs hc (Int.emod_nonneg _ (by omega)) (Int.emod_lt_of_pos _ (by omega))
theorem ok_pck (T : Txt K mg D) (c1 : Cg P w K mg base CX0 n "_law_draw" (cSp K (asp_drw "cells" "mixed" "count"))) {f : Addr} {fd : FuncData} (F : Fun K "_law_pick" "_law_pick" st__law_pick f fd) : FnG P w K mg base CX0 (n + 1) f fd ["_law_source_here", "_law_items"] (cSp K (asp_pck "cells" "mixed" "count")) := by
  refine oa__law_pick T c1 F (fun vs S R h => ?_) (fun vs S R h => ?_)
  · obtain ⟨X, D, G, n, s, xs, rfl, _⟩ := h
    rfl
  · obtain ⟨X, D, G, n, s, xs, rfl, rfl, hX, hD, hn, h0, h1, hs, k⟩ := h
    dsimp only [sv__law_pick, pk]
    have hs0 := hs D
    wtm_at "aw"
    refine ⟨X, D, G, n, _, rfl, rfl, hX, hD, hn, by omega, by omega, fun r D' r0 r1 hD' => ?_⟩
    have hs1 := hs D'
    obtain ⟨v, hv, hv2⟩ := at_int r0 r1
    wtm_at "aw"
    exact ⟨v, hv, k v D' (List.mem_of_getElem? hv2) hD'⟩
end
end K01

namespace K01
section
variable {P : Program} {w : World} {K : PySem.W.Frag} {mg : Str → Option Value} {base : Heap} {D : Ad} {n : Nat}
def cst : Nat → Int
  | 0 => 2
  | d + 1 => 2 + 3 * cst d
def zzt : Nat → Nat
  | 0 => 200
  | d + 1 => 3 * (zzt d + 2) + 250
theorem cst_pos : ∀ d, 2 ≤ cst d
  | 0 => by decide
  | d + 1 => by have := cst_pos d; show 2 ≤ 2 + 3 * cst d; omega
structure Thg (d : Nat) (v : PV) : Prop where
  pd : Pd big (2 * d + 1) v
  tl : L5.tl v ≤ zzt d
def asp_thg (d : Nat) : AL := fun vs S P => ∃ (X : XT) (D : Dk) (G : Sto) (n : Int), vs = [.own 1, .int d] ∧ S = dx "cells" "mixed" "count" X D G ∧ X.1.length ≤ 100 ∧ D.Ok n ∧ n + cst d ≤ 500000000 ∧ d ≤ 3 ∧ ∀ v D', Thg d v → D'.Ok (n + cst d) → P v (dx "cells" "mixed" "count" X D' G)
theorem tls_le {z : Nat} : ∀ {xs : List PV}, (∀ x ∈ xs, L5.tl x ≤ z) → L5.tls xs ≤ xs.length * (z + 2)
  | [], _ => by rw [L5.tls]; exact Nat.zero_le _
  | x :: xs, h => by
    have h1 := h x List.mem_cons_self
    have h2 := tls_le (z := z) fun y hy => h y (List.mem_cons_of_mem _ hy)
    rw [L5.tls, List.length_cons, Nat.succ_mul]
    omega
theorem tk_rg (i : Nat) : ∀ n, L5.tk (rgK i n) = 51 * n := by
  intro n
  unfold rgK
  have go : ∀ l : List Nat, L5.tk (l.map fun j => (.inl ((i + j : Nat) : Int) : Key)) = 51 * l.length := by
    intro l
    induction l with
    | nil => rfl
    | cons x l ih => rw [List.map_cons, L5.tk, ih, List.length_cons]; omega
  rw [go, List.length_range]
theorem thg_next {d : Nat} {acc : List PV} (h : ∀ v ∈ acc, Thg d v) (hl : acc.length ≤ 3) : ∀ v ∈ [PV.lst acc, .tup acc, .dct [.inr "k"] [.lst acc], .dct (rgK 0 acc.length) acc], Thg (d + 1) v := by
  have h1 : L5.tls acc ≤ 3 * (zzt d + 2) := Nat.le_trans (tls_le fun x hx => (h x hx).tl) (Nat.mul_le_mul_right _ hl)
  have hz : zzt (d + 1) = 3 * (zzt d + 2) + 250 := rfl
  have p1 : Pd big (2 * d + 2) (.lst acc) := fun x hx => (h x hx).pd
  have p2 : Pd big (2 * d + 2) (.tup acc) := fun x hx => (h x hx).pd
  intro v hv
  simp only [List.mem_cons, List.not_mem_nil, or_false] at hv
  rcases hv with rfl | rfl | rfl | rfl
  · exact ⟨p1.up1, by rw [L5.tl]; omega⟩
  · exact ⟨p2.up1, by rw [L5.tl]; omega⟩
  · refine ⟨(show Pd big (2 * d + 2 + 1) (.dct [.inr "k"] [.lst acc]) from ⟨fun k hk => ?_, fun x hx => ?_⟩), ?_⟩
    · rw [List.mem_singleton.mp hk]; exact okS_of "k"
    · rw [List.mem_singleton.mp hx]; exact p1
    · rw [L5.tl, L5.tls, L5.tls, L5.tl, L5.tk, L5.tk]
      have : (Str.ofString "k").length = 1 := by decide +kernel
      rw [this]
      omega
  · refine ⟨Pd.up1 (n := 2 * d + 2) (show Pd big (2 * d + 1 + 1) (.dct (rgK 0 acc.length) acc) from ⟨fun k hk => ?_, fun x hx => (h x hx).pd⟩), by rw [L5.tl, tk_rg]; omega⟩
    obtain ⟨j, hj, rfl⟩ := List.mem_map.mp hk
    have := List.mem_range.mp hj
    exact ⟨by show -big < ((0 + j : Nat) : Int); unfold big; omega, by show ((0 + j : Nat) : Int) < big; unfold big; omega⟩
def some14 : List PV := [.int 0, .int 1, .int (-1), .int 1000000000000000000000000000000000000000, .bl true, .bl false, .non, .str "", .str "a", .str "first\nsecond", .str "~", .tup [], .lst [], .dct [] []]
theorem some14_ok : ∀ v ∈ some14, ∀ d, Thg d v := fun v hv d => by
  have h := ckb_all (b := big) (n := 1) (z := 200) (xs := some14) (by decide +kernel) v hv
  refine ⟨h.1.up (by omega), Nat.le_trans h.2 ?_⟩
  induction d with
  | zero => exact Nat.le_refl _
  | succ d ih => show 200 ≤ 3 * (zzt d + 2) + 250; omega
theorem ok_thg_step (T : Txt K mg D) (d : Nat) {prev : AL} (hp : ∀ vs S R, (∃ d', d = d' + 1 ∧ asp_thg d' vs S R) → prev vs S R) (c0 : Cg P w K mg base CX0 n "_law_draw" (cSp K (asp_drw "cells" "mixed" "count"))) (c1 : Cg P w K mg base CX0 n "_law_pick" (cSp K (asp_pck "cells" "mixed" "count"))) (c2 : Cg P w K mg base CX0 n "_law_thing" (cSp K prev))
    {f : Addr} {fd : FuncData} (F : Fun K "_law_thing" "_law_thing" st__law_thing f fd) : FnG P w K mg base CX0 (n + 1) f fd ["_law_source_here", "_law_depth"] (cSp K (asp_thg d)) := by
  refine oa__law_thing T c0 c1 c2 F (fun vs S R h => ?_) (fun vs S R h => ?_)
  · obtain ⟨X, D, G, m, rfl, _⟩ := h
    rfl
  · obtain ⟨X, D, G, m, rfl, rfl, hX, hD, hm, hd, k⟩ := h
    dsimp only [sv__law_thing, pk]
    wtm_at "aw"
    have hc0 := cst_pos d
    refine ⟨X, D, G, m, 9, rfl, rfl, hX, hD, by omega, by decide, by decide, fun r D1 r0 r1 hD1 => ?_⟩
    wtm_at "aw"
    refine r_or ?_
    refine r_br (fun h1 => ?_) (fun h1 => ?_)
    · wtm_at "aw"
      refine ⟨X, D1, G, _, _, some14, rfl, rfl, hX, hD1, by omega, by decide, by decide, fun _ => rfl, fun u D2 hu hD2 => ?_⟩
      exact k u D2 (some14_ok u hu d) (hD2.up (by omega))
    · wtm_at "aw"
      obtain ⟨d', rfl⟩ : ∃ d', d = d' + 1 := ⟨d - 1, by omega⟩
      have hc1 := cst_pos d'
      have hc2 : cst (d' + 1) = 2 + 3 * cst d' := rfl
      have hc3 : cst d' ≤ 1000 := by
        rcases d' with _ | _ | _ | d' <;> first | decide | omega
      refine ⟨X, D1, G, _, _, rfl, rfl, hX, hD1, by omega, by omega, by omega, fun q D2 q0 q1 hD2 => ?_⟩
      obtain ⟨qn, rfl⟩ := Int.eq_ofNat_of_zero_le q0
      wtm_at "aw"
      refine comp_rng0 (fun i S acc => ∃ D' : Dk, S = dx "cells" "mixed" "count" X D' G ∧ acc.length = i ∧ (∀ v ∈ acc, Thg d' v) ∧ D'.Ok (m + 2 + i * cst d')) ⟨D2, rfl, rfl, (fun _ h => nomatch h), hD2.up (by omega)⟩ ?_ ?_
      · rintro i S acc hi ⟨D', rfl, hl, ha, hD'⟩
        wtm_at "aw"
        have hi3 : (i : Int) ≤ 2 := by omega
        have hm3 : (i : Int) * cst d' ≤ 2 * cst d' := Int.mul_le_mul_of_nonneg_right hi3 (by omega)
        refine hp _ _ _ ⟨d', rfl, X, D', G, _, by congr 2; simp, rfl, hX, hD', by omega, by omega, fun v D3 hv hD3 => ?_⟩
        refine ⟨by rw [hl, sizeLine_eq]; omega, D3, rfl, by rw [List.length_append, hl]; rfl, fun u hu => ?_, hD3.up (by push_cast; rw [Int.add_mul]; omega)⟩
        rcases List.mem_append.mp hu with hu | hu
        · exact ha u hu
        · rw [List.mem_singleton.mp hu]; exact hv
      · rintro S acc ⟨D', rfl, hl, ha, hD'⟩
        wtm_at "aw"
        have hq3 : qn ≤ 3 := by omega
        have hl3 : (acc.length : Int) ≤ 3 := by omega
        refine ⟨acc, rfl, by omega, ?_⟩
        wtm_at "aw"
        obtain ⟨v, hv, hv2⟩ := at_int (xs := [PV.lst acc, .tup acc, .dct [.inr "k"] [.lst acc], .dct (rgK 0 acc.length) acc]) (i := r - 5) (by omega) (by show r - 5 < 4; omega)
        have hm3 : (acc.length : Int) * cst d' ≤ 3 * cst d' := Int.mul_le_mul_of_nonneg_right (by omega) (by omega)
        rw [← hl] at hD'
        exact ⟨v, hv, k v D' (thg_next ha (by omega) v (List.mem_of_getElem? hv2)) (hD'.up (by rw [hc2]; omega))⟩
end
end K01

namespace K01
section
variable {P : Program} {w : World} {K : PySem.W.Frag} {mg : Str → Option Value} {base : Heap} {D : Ad} {n : Nat}
def exC (D : Ad) : Nat → Addr
  | 0 => D.InvalidText
  | 1 => D.InvalidCommand
  | 2 => D.InvalidTable
  | 3 => D.InvalidLink
  | 4 => D.Impossible
  | 5 => D.Finished
  | 6 => D.InvalidChange
  | 7 => D.PurseExceeded
  | 8 => D.TooAlike
  | 9 => D.TooManyRounds
  | 10 => D.NotItsTurn
  | 11 => D.NameTaken
  | 12 => D.UnknownStation
  | 13 => D.UnknownTalk
  | _ => D.UnknownName
def exN : Nat → List Str
  | 6 => ["change"]
  | 7 => ["count"]
  | 8 => ["first", "second"]
  | 9 => ["rounds"]
  | 10 => ["station"]
  | 11 => ["name"]
  | 12 => ["station"]
  | 13 => ["talk"]
  | 14 => ["name"]
  | _ => []
def exV (k : Nat) (a b : PV) : List PV := match k with
  | 0 => []
  | 1 => []
  | 2 => []
  | 3 => []
  | 4 => []
  | 5 => []
  | 8 => [a, b]
  | _ => [a]
def asp_rsp (D : Ad) : ALX := fun vs S _ B => ∃ k : Nat, vs = [.int (k : Nat)] ∧ k < 6 ∧ B (exC D k) [] [] S
def asp_rse (D : Ad) : ALX := fun vs S _ B => ∃ (k : Nat) (a b : PV), vs = [.int (k : Nat), a, b] ∧ k < 15 ∧ B (exC D k) (exN k).reverse (exV k a b).reverse S
theorem ok_rsp (T : Txt K mg D) {f : Addr} {fd : FuncData} (F : Fun K "_law_raise_plain" "_law_raise_plain" st__law_raise_plain f fd) : FnG P w K mg base (L2.CX P w) (n + 1) f fd ["_law_number"] (cSpX K (asp_rsp D)) := by
  refine oa__law_raise_plain T F (fun vs S R B h => ?_) (fun vs S R B h => ?_)
  · obtain ⟨k, rfl, _⟩ := h
    rfl
  · obtain ⟨k, rfl, hk, h⟩ := h
    dsimp only [sv__law_raise_plain, pkX]
    obtain rfl | rfl | rfl | rfl | rfl | rfl : k = 0 ∨ k = 1 ∨ k = 2 ∨ k = 3 ∨ k = 4 ∨ k = 5 := by omega
    all_goals
      wtm_at "aw"
      exact h
structure XFs (P : Program) (w : World) (K : PySem.W.Frag) (mg : Str → Option Value) (base : Heap) (n : Nat) (D : Ad) : Prop where
  InvalidChange : CEK P w K mg base n "InvalidChange" D.InvalidChange ["change"] ["change"] [0]
  PurseExceeded : CEK P w K mg base n "PurseExceeded" D.PurseExceeded ["count"] ["count"] [0]
  TooAlike : CEK P w K mg base n "TooAlike" D.TooAlike ["first", "second"] ["second", "first"] [1, 0]
  TooManyRounds : CEK P w K mg base n "TooManyRounds" D.TooManyRounds ["rounds"] ["rounds"] [0]
  NotItsTurn : CEK P w K mg base n "NotItsTurn" D.NotItsTurn ["station"] ["station"] [0]
  NameTaken : CEK P w K mg base n "NameTaken" D.NameTaken ["name"] ["name"] [0]
  UnknownStation : CEK P w K mg base n "UnknownStation" D.UnknownStation ["station"] ["station"] [0]
  UnknownTalk : CEK P w K mg base n "UnknownTalk" D.UnknownTalk ["talk"] ["talk"] [0]
  UnknownName : CEK P w K mg base n "UnknownName" D.UnknownName ["name"] ["name"] [0]
theorem ok_rse (T : Txt K mg D) (X : XFs P w K mg base n D) (c0 : Cg P w K mg base (L2.CX P w) n "_law_raise_plain" (cSpX K (asp_rsp D)))
    {f : Addr} {fd : FuncData} (F : Fun K "_law_raise" "_law_raise" st__law_raise f fd) : FnG P w K mg base (L2.CX P w) (n + 2) f fd ["_law_number", "_law_one", "_law_other"] (cSpX K (asp_rse D)) := by
  refine oa__law_raise T (cg__law_raise_plain := c0) (xf_InvalidChange := X.InvalidChange) (xf_PurseExceeded := X.PurseExceeded) (xf_TooAlike := X.TooAlike) (xf_TooManyRounds := X.TooManyRounds) (xf_NotItsTurn := X.NotItsTurn) (xf_NameTaken := X.NameTaken) (xf_UnknownStation := X.UnknownStation) (xf_UnknownTalk := X.UnknownTalk) (xf_UnknownName := X.UnknownName) F (fun vs S R B h => ?_) (fun vs S R B h => ?_)
  · obtain ⟨k, a, b, rfl, _⟩ := h
    rfl
  · obtain ⟨k, a, b, rfl, hk, h⟩ := h
    dsimp only [sv__law_raise, pkX]
    wtm_at "aw"
    refine ⟨fun ρ S' => ρ = [some (.int (k : Nat)), some a, some b] ∧ S' = S ∧ 6 ≤ k, ?_, ?_⟩
    · wtm_at "aw"
      refine r_br (fun h6 => ?_) (fun h6 => ?_)
      · wtm_at "aw"
        refine ⟨k, rfl, by omega, ?_⟩
        obtain rfl | rfl | rfl | rfl | rfl | rfl : k = 0 ∨ k = 1 ∨ k = 2 ∨ k = 3 ∨ k = 4 ∨ k = 5 := by omega
        all_goals exact h
      · wtm_at "aw"
        omega
    · rintro ρ S1 ⟨rfl, rfl, h6⟩
      obtain rfl | rfl | rfl | rfl | rfl | rfl | rfl | rfl | rfl : k = 6 ∨ k = 7 ∨ k = 8 ∨ k = 9 ∨ k = 10 ∨ k = 11 ∨ k = 12 ∨ k = 13 ∨ k = 14 := by omega
      all_goals
        wtm_at "aw"
        first | exact h | exact ⟨rfl, h⟩
theorem ok_rsn (T : Txt K mg D) (X : XFs P w K mg base n D) (c0 : Cg P w K mg base (L2.CX P w) n "_law_raise" (cSpX K (asp_rse D)))
    {f : Addr} {fd : FuncData} (F : Fun K "_law_raise_named" "_law_raise_named" st__law_raise_named f fd) : FnG P w K mg base (L2.CX P w) (n + 2) f fd ["_law_number", "_law_one", "_law_other"] (cSpX K (asp_rse D)) := by
  refine oa__law_raise_named T (cg__law_raise := c0) (xf_InvalidChange := X.InvalidChange) (xf_PurseExceeded := X.PurseExceeded) (xf_TooAlike := X.TooAlike) (xf_TooManyRounds := X.TooManyRounds) (xf_NotItsTurn := X.NotItsTurn) (xf_NameTaken := X.NameTaken) (xf_UnknownStation := X.UnknownStation) (xf_UnknownTalk := X.UnknownTalk) (xf_UnknownName := X.UnknownName) F (fun vs S R B h => ?_) (fun vs S R B h => ?_)
  · obtain ⟨k, a, b, rfl, _⟩ := h
    rfl
  · obtain ⟨k, a, b, rfl, hk, h⟩ := h
    dsimp only [sv__law_raise_named, pkX]
    obtain rfl | rfl | rfl | rfl | rfl | rfl | rfl | rfl | rfl | rfl | rfl | rfl | rfl | rfl | rfl : k = 0 ∨ k = 1 ∨ k = 2 ∨ k = 3 ∨ k = 4 ∨ k = 5 ∨ k = 6 ∨ k = 7 ∨ k = 8 ∨ k = 9 ∨ k = 10 ∨ k = 11 ∨ k = 12 ∨ k = 13 ∨ k = 14 := by omega
    all_goals
      wtm_at "aw"
      first | exact h | exact ⟨rfl, h⟩ | exact ⟨rfl, rfl, h⟩ | exact ⟨_, a, b, rfl, hk, h⟩
end
end K01

namespace K01
section
variable {P : Program} {w : World} {K : PySem.W.Frag} {mg : Str → Option Value} {base : Heap} {D : Ad} {n : Nat}
theorem k15c {k : Nat} (h : k < 15) : k = 0 ∨ k = 1 ∨ k = 2 ∨ k = 3 ∨ k = 4 ∨ k = 5 ∨ k = 6 ∨ k = 7 ∨ k = 8 ∨ k = 9 ∨ k = 10 ∨ k = 11 ∨ k = 12 ∨ k = 13 ∨ k = 14 := by omega
theorem xr_exC {k : Nat} (h : k < 15) : xr D (exC D k) := by
  rcases k15c h with rfl | rfl | rfl | rfl | rfl | rfl | rfl | rfl | rfl | rfl | rfl | rfl | rfl | rfl | rfl <;> (unfold xr exC; repeat (first | exact .inl rfl | exact rfl | refine .inr ?_))
theorem sb_InvalidText {k : Nat} (h : k < 15) : sub_InvalidText D (exC D k) (decide (k = 0)) := by
  rcases k15c h with rfl | rfl | rfl | rfl | rfl | rfl | rfl | rfl | rfl | rfl | rfl | rfl | rfl | rfl | rfl <;> (unfold sub_InvalidText exC; repeat (first | exact .inl ⟨rfl, rfl⟩ | exact ⟨rfl, rfl⟩ | refine .inr ?_))
theorem sb_InvalidCommand {k : Nat} (h : k < 15) : sub_InvalidCommand D (exC D k) (decide (k = 1)) := by
  rcases k15c h with rfl | rfl | rfl | rfl | rfl | rfl | rfl | rfl | rfl | rfl | rfl | rfl | rfl | rfl | rfl <;> (unfold sub_InvalidCommand exC; repeat (first | exact .inl ⟨rfl, rfl⟩ | exact ⟨rfl, rfl⟩ | refine .inr ?_))
theorem sb_InvalidTable {k : Nat} (h : k < 15) : sub_InvalidTable D (exC D k) (decide (k = 2)) := by
  rcases k15c h with rfl | rfl | rfl | rfl | rfl | rfl | rfl | rfl | rfl | rfl | rfl | rfl | rfl | rfl | rfl <;> (unfold sub_InvalidTable exC; repeat (first | exact .inl ⟨rfl, rfl⟩ | exact ⟨rfl, rfl⟩ | refine .inr ?_))
theorem sb_InvalidLink {k : Nat} (h : k < 15) : sub_InvalidLink D (exC D k) (decide (k = 3)) := by
  rcases k15c h with rfl | rfl | rfl | rfl | rfl | rfl | rfl | rfl | rfl | rfl | rfl | rfl | rfl | rfl | rfl <;> (unfold sub_InvalidLink exC; repeat (first | exact .inl ⟨rfl, rfl⟩ | exact ⟨rfl, rfl⟩ | refine .inr ?_))
theorem sb_Impossible {k : Nat} (h : k < 15) : sub_Impossible D (exC D k) (decide (k = 4)) := by
  rcases k15c h with rfl | rfl | rfl | rfl | rfl | rfl | rfl | rfl | rfl | rfl | rfl | rfl | rfl | rfl | rfl <;> (unfold sub_Impossible exC; repeat (first | exact .inl ⟨rfl, rfl⟩ | exact ⟨rfl, rfl⟩ | refine .inr ?_))
theorem sb_Finished {k : Nat} (h : k < 15) : sub_Finished D (exC D k) (decide (k = 5)) := by
  rcases k15c h with rfl | rfl | rfl | rfl | rfl | rfl | rfl | rfl | rfl | rfl | rfl | rfl | rfl | rfl | rfl <;> (unfold sub_Finished exC; repeat (first | exact .inl ⟨rfl, rfl⟩ | exact ⟨rfl, rfl⟩ | refine .inr ?_))
theorem sb_InvalidChange {k : Nat} (h : k < 15) : sub_InvalidChange D (exC D k) (decide (k = 6)) := by
  rcases k15c h with rfl | rfl | rfl | rfl | rfl | rfl | rfl | rfl | rfl | rfl | rfl | rfl | rfl | rfl | rfl <;> (unfold sub_InvalidChange exC; repeat (first | exact .inl ⟨rfl, rfl⟩ | exact ⟨rfl, rfl⟩ | refine .inr ?_))
theorem sb_PurseExceeded {k : Nat} (h : k < 15) : sub_PurseExceeded D (exC D k) (decide (k = 7)) := by
  rcases k15c h with rfl | rfl | rfl | rfl | rfl | rfl | rfl | rfl | rfl | rfl | rfl | rfl | rfl | rfl | rfl <;> (unfold sub_PurseExceeded exC; repeat (first | exact .inl ⟨rfl, rfl⟩ | exact ⟨rfl, rfl⟩ | refine .inr ?_))
theorem sb_TooAlike {k : Nat} (h : k < 15) : sub_TooAlike D (exC D k) (decide (k = 8)) := by
  rcases k15c h with rfl | rfl | rfl | rfl | rfl | rfl | rfl | rfl | rfl | rfl | rfl | rfl | rfl | rfl | rfl <;> (unfold sub_TooAlike exC; repeat (first | exact .inl ⟨rfl, rfl⟩ | exact ⟨rfl, rfl⟩ | refine .inr ?_))
theorem sb_TooManyRounds {k : Nat} (h : k < 15) : sub_TooManyRounds D (exC D k) (decide (k = 9)) := by
  rcases k15c h with rfl | rfl | rfl | rfl | rfl | rfl | rfl | rfl | rfl | rfl | rfl | rfl | rfl | rfl | rfl <;> (unfold sub_TooManyRounds exC; repeat (first | exact .inl ⟨rfl, rfl⟩ | exact ⟨rfl, rfl⟩ | refine .inr ?_))
theorem sb_NotItsTurn {k : Nat} (h : k < 15) : sub_NotItsTurn D (exC D k) (decide (k = 10)) := by
  rcases k15c h with rfl | rfl | rfl | rfl | rfl | rfl | rfl | rfl | rfl | rfl | rfl | rfl | rfl | rfl | rfl <;> (unfold sub_NotItsTurn exC; repeat (first | exact .inl ⟨rfl, rfl⟩ | exact ⟨rfl, rfl⟩ | refine .inr ?_))
theorem sb_NameTaken {k : Nat} (h : k < 15) : sub_NameTaken D (exC D k) (decide (k = 11)) := by
  rcases k15c h with rfl | rfl | rfl | rfl | rfl | rfl | rfl | rfl | rfl | rfl | rfl | rfl | rfl | rfl | rfl <;> (unfold sub_NameTaken exC; repeat (first | exact .inl ⟨rfl, rfl⟩ | exact ⟨rfl, rfl⟩ | refine .inr ?_))
theorem sb_UnknownStation {k : Nat} (h : k < 15) : sub_UnknownStation D (exC D k) (decide (k = 12)) := by
  rcases k15c h with rfl | rfl | rfl | rfl | rfl | rfl | rfl | rfl | rfl | rfl | rfl | rfl | rfl | rfl | rfl <;> (unfold sub_UnknownStation exC; repeat (first | exact .inl ⟨rfl, rfl⟩ | exact ⟨rfl, rfl⟩ | refine .inr ?_))
theorem sb_UnknownTalk {k : Nat} (h : k < 15) : sub_UnknownTalk D (exC D k) (decide (k = 13)) := by
  rcases k15c h with rfl | rfl | rfl | rfl | rfl | rfl | rfl | rfl | rfl | rfl | rfl | rfl | rfl | rfl | rfl <;> (unfold sub_UnknownTalk exC; repeat (first | exact .inl ⟨rfl, rfl⟩ | exact ⟨rfl, rfl⟩ | refine .inr ?_))
theorem sb_UnknownName {k : Nat} (h : k < 15) : sub_UnknownName D (exC D k) (decide (k = 14)) := by
  rcases k15c h with rfl | rfl | rfl | rfl | rfl | rfl | rfl | rfl | rfl | rfl | rfl | rfl | rfl | rfl | rfl <;> (unfold sub_UnknownName exC; repeat (first | exact .inl ⟨rfl, rfl⟩ | exact ⟨rfl, rfl⟩ | refine .inr ?_))
theorem sb_WireError {k : Nat} (h : k < 15) : sub_WireError D (exC D k) (decide (k < 12)) := by
  rcases k15c h with rfl | rfl | rfl | rfl | rfl | rfl | rfl | rfl | rfl | rfl | rfl | rfl | rfl | rfl | rfl <;> (unfold sub_WireError exC; repeat (first | exact .inl ⟨rfl, rfl⟩ | exact ⟨rfl, rfl⟩ | refine .inr ?_))
theorem sb_ValueError {k : Nat} (h : k < 15) : sub_ValueError D (exC D k) (decide (k < 12)) := by
  rcases k15c h with rfl | rfl | rfl | rfl | rfl | rfl | rfl | rfl | rfl | rfl | rfl | rfl | rfl | rfl | rfl <;> (unfold sub_ValueError exC; repeat (first | exact .inl ⟨rfl, rfl⟩ | exact ⟨rfl, rfl⟩ | refine .inr ?_))
theorem sb_Unknown {k : Nat} (h : k < 15) : sub_Unknown D (exC D k) (!decide (k < 12)) := by
  rcases k15c h with rfl | rfl | rfl | rfl | rfl | rfl | rfl | rfl | rfl | rfl | rfl | rfl | rfl | rfl | rfl <;> (unfold sub_Unknown exC; repeat (first | exact .inl ⟨rfl, rfl⟩ | exact ⟨rfl, rfl⟩ | refine .inr ?_))
theorem sb_KeyError {k : Nat} (h : k < 15) : sub_KeyError D (exC D k) (!decide (k < 12)) := by
  rcases k15c h with rfl | rfl | rfl | rfl | rfl | rfl | rfl | rfl | rfl | rfl | rfl | rfl | rfl | rfl | rfl <;> (unfold sub_KeyError exC; repeat (first | exact .inl ⟨rfl, rfl⟩ | exact ⟨rfl, rfl⟩ | refine .inr ?_))
theorem sb_IndexError {k : Nat} (h : k < 15) : sub_IndexError D (exC D k) (false) := by
  rcases k15c h with rfl | rfl | rfl | rfl | rfl | rfl | rfl | rfl | rfl | rfl | rfl | rfl | rfl | rfl | rfl <;> (unfold sub_IndexError exC; repeat (first | exact .inl ⟨rfl, rfl⟩ | exact ⟨rfl, rfl⟩ | refine .inr ?_))
def mrk (k : Nat) : List PV := (List.range 15).map (fun j => PV.bl (decide (k = j))) ++ [.bl (decide (k < 12)), .bl (decide (k < 12)), .bl (!decide (k < 12)), .bl (!decide (k < 12)), .bl false]
def asp_mrk (D : Ad) : Addr → Option Addr → Addr → AL := fun a d C vs S P => ∃ (k : Nat) (M : List Str) (xs : List PV), vs = [.exc a d C M xs] ∧ k < 15 ∧ C = exC D k ∧ P (.lst (mrk k)) S
theorem ok_mrk (T : Txt K mg D) {f : Addr} {fd : FuncData} {a C : Addr} {oe : Obj} {d : Option Addr} (hz : Zc (.ref C) d oe) (hf : ∃ vs, oe.data = .fields vs) (F : Fun K "_law_marks" "_law_marks" st__law_marks f fd) :
    FnP P w K mg base (a, oe) (n + 1) f fd ["_law_e"] (cSp K (asp_mrk D a d C)) := by
  refine oa__law_marks T hz hf F (fun vs S R h => ?_) (fun vs S R h => ?_)
  · obtain ⟨k, M, xs, rfl, _⟩ := h
    rfl
  · obtain ⟨k, M, xs, rfl, hk, rfl, h⟩ := h
    dsimp only [sv__law_marks, pk]
    wtm_at "aw"
    refine ⟨_, _, _, rfl, ⟨xr_exC hk, sb_InvalidText hk⟩, ?_⟩
    wtm_at "aw"
    refine ⟨_, _, _, rfl, ⟨xr_exC hk, sb_InvalidCommand hk⟩, ?_⟩
    wtm_at "aw"
    refine ⟨_, _, _, rfl, ⟨xr_exC hk, sb_InvalidTable hk⟩, ?_⟩
    wtm_at "aw"
    refine ⟨_, _, _, rfl, ⟨xr_exC hk, sb_InvalidLink hk⟩, ?_⟩
    wtm_at "aw"
    refine ⟨_, _, _, rfl, ⟨xr_exC hk, sb_Impossible hk⟩, ?_⟩
    wtm_at "aw"
    refine ⟨_, _, _, rfl, ⟨xr_exC hk, sb_Finished hk⟩, ?_⟩
    wtm_at "aw"
    refine ⟨_, _, _, rfl, ⟨xr_exC hk, sb_InvalidChange hk⟩, ?_⟩
    wtm_at "aw"
    refine ⟨_, _, _, rfl, ⟨xr_exC hk, sb_PurseExceeded hk⟩, ?_⟩
    wtm_at "aw"
    refine ⟨_, _, _, rfl, ⟨xr_exC hk, sb_TooAlike hk⟩, ?_⟩
    wtm_at "aw"
    refine ⟨_, _, _, rfl, ⟨xr_exC hk, sb_TooManyRounds hk⟩, ?_⟩
    wtm_at "aw"
    refine ⟨_, _, _, rfl, ⟨xr_exC hk, sb_NotItsTurn hk⟩, ?_⟩
    wtm_at "aw"
    refine ⟨_, _, _, rfl, ⟨xr_exC hk, sb_NameTaken hk⟩, ?_⟩
    wtm_at "aw"
    refine ⟨_, _, _, rfl, ⟨xr_exC hk, sb_UnknownStation hk⟩, ?_⟩
    wtm_at "aw"
    refine ⟨_, _, _, rfl, ⟨xr_exC hk, sb_UnknownTalk hk⟩, ?_⟩
    wtm_at "aw"
    refine ⟨_, _, _, rfl, ⟨xr_exC hk, sb_UnknownName hk⟩, ?_⟩
    wtm_at "aw"
    refine ⟨_, _, _, rfl, ⟨xr_exC hk, sb_WireError hk⟩, ?_⟩
    wtm_at "aw"
    refine ⟨_, _, _, rfl, ⟨xr_exC hk, sb_ValueError hk⟩, ?_⟩
    wtm_at "aw"
    refine ⟨_, _, _, rfl, ⟨xr_exC hk, sb_Unknown hk⟩, ?_⟩
    wtm_at "aw"
    refine ⟨_, _, _, rfl, ⟨xr_exC hk, sb_KeyError hk⟩, ?_⟩
    wtm_at "aw"
    refine ⟨_, _, _, rfl, ⟨xr_exC hk, sb_IndexError hk⟩, ?_⟩
    wtm_at "aw"
    exact h
end
end K01

namespace K01
section
variable {P : Program} {w : World} {K : PySem.W.Frag} {mg : Str → Option Value} {base : Heap} {D : Ad} {n : Nat}
def asp_fld (D : Ad) (lo hi : Nat) : Addr → Option Addr → Addr → AL := fun a d C vs S P => ∃ (k : Nat) (x y : PV), vs = [.exc a d C (exN k).reverse (exV k x y).reverse, .int (k : Nat)] ∧ lo ≤ k ∧ k < hi ∧ C = exC D k ∧ P (.lst (exV k x y)) S
theorem ok_wfl (T : Txt K mg D) {f : Addr} {fd : FuncData} {a C : Addr} {oe : Obj} {d : Option Addr} (hz : Zc (.ref C) d oe) (hf : ∃ vs, oe.data = .fields vs) (F : Fun K "_law_wire_fields" "_law_wire_fields" st__law_wire_fields f fd) :
    FnP P w K mg base (a, oe) (n + 1) f fd ["_law_e", "_law_number"] (cSp K (asp_fld D 0 12 a d C)) := by
  refine oa__law_wire_fields T hz hf F (fun vs S R h => ?_) (fun vs S R h => ?_)
  · obtain ⟨k, x, y, rfl, _⟩ := h
    rfl
  · obtain ⟨k, x, y, rfl, _, hk, rfl, h⟩ := h
    dsimp only [sv__law_wire_fields, pk]
    rcases k15c (show k < 15 by omega) with rfl | rfl | rfl | rfl | rfl | rfl | rfl | rfl | rfl | rfl | rfl | rfl | rfl | rfl | rfl
    all_goals first | omega | (wtm_at "aw"; first | exact h | (refine ⟨_, _, _, rfl, (by rfl), ?_⟩; wtm_at "aw"; first | exact h | (refine ⟨_, _, _, rfl, (by rfl), ?_⟩; wtm_at "aw"; exact h)))
theorem ok_ufl (T : Txt K mg D) {f : Addr} {fd : FuncData} {a C : Addr} {oe : Obj} {d : Option Addr} (hz : Zc (.ref C) d oe) (hf : ∃ vs, oe.data = .fields vs) (F : Fun K "_law_unknown_fields" "_law_unknown_fields" st__law_unknown_fields f fd) :
    FnP P w K mg base (a, oe) (n + 1) f fd ["_law_e", "_law_number"] (cSp K (asp_fld D 12 15 a d C)) := by
  refine oa__law_unknown_fields T hz hf F (fun vs S R h => ?_) (fun vs S R h => ?_)
  · obtain ⟨k, x, y, rfl, _⟩ := h
    rfl
  · obtain ⟨k, x, y, rfl, hk0, hk, rfl, h⟩ := h
    dsimp only [sv__law_unknown_fields, pk]
    rcases k15c (show k < 15 by omega) with rfl | rfl | rfl | rfl | rfl | rfl | rfl | rfl | rfl | rfl | rfl | rfl | rfl | rfl | rfl
    all_goals first | omega | (wtm_at "aw"; first | exact h | (refine ⟨_, _, _, rfl, (by rfl), ?_⟩; wtm_at "aw"; first | exact h | (refine ⟨_, _, _, rfl, (by rfl), ?_⟩; wtm_at "aw"; exact h)))
end
end K01

namespace K01
section
variable {P : Program} {w : World} {K : PySem.W.Frag} {mg : Str → Option Value} {base : Heap} {D : Ad} {n : Nat}
def cgt (k : Nat) (x y : PV) : PV := .tup [.lst (mrk k), .lst (exV k x y)]
def asp_cgt : AL := fun vs S P => ∃ (k : Nat) (x y : PV) (b : Bool), vs = [.int (k : Nat), x, y, .bl b] ∧ k < 15 ∧ P (cgt k x y) S
def asp_exp : AL := fun vs S P => ∃ (k : Nat) (x y : PV), vs = [.int (k : Nat), x, y] ∧ k < 15 ∧ P (cgt k x y) S
theorem ok_exp (T : Txt K mg D) {f : Addr} {fd : FuncData} (F : Fun K "_law_expected" "_law_expected" st__law_expected f fd) : FnG P w K mg base CX0 (n + 1) f fd ["_law_number", "_law_one", "_law_other"] (cSp K asp_exp) := by
  refine oa__law_expected T F (fun vs S R h => ?_) (fun vs S R h => ?_)
  · obtain ⟨k, x, y, rfl, _⟩ := h
    rfl
  · obtain ⟨k, x, y, rfl, hk, h⟩ := h
    dsimp only [sv__law_expected, pk]
    wtm_at "aw"
    refine comp_rng0 (fun i S' acc => S' = S ∧ acc = (List.range i).map fun j => PV.bl (decide (k = j))) ⟨rfl, rfl⟩ ?_ ?_
    · rintro i _ acc hi ⟨rfl, rfl⟩
      wtm_at "aw"
      refine ⟨by rw [List.length_map, List.length_range, sizeLine_eq]; omega, rfl, ?_⟩
      rw [List.range_succ, List.map_append]
      congr 1
      simp only [List.map_cons, List.map_nil, List.cons.injEq, and_true, PV.bl.injEq, decide_eq_decide]
      omega
    · rintro _ acc ⟨rfl, rfl⟩
      wtm_at "aw"
      rcases k15c hk with rfl | rfl | rfl | rfl | rfl | rfl | rfl | rfl | rfl | rfl | rfl | rfl | rfl | rfl | rfl
      all_goals
        wtm_at "aw"
        exact h
theorem ok_cgt (T : Txt K mg D) (c1 : Cg P w K mg base (L2.CX P w) n "_law_raise_named" (cSpX K (asp_rse D))) (c2 : Cg P w K mg base (L2.CX P w) n "_law_raise" (cSpX K (asp_rse D)))
    (c3 : CgP P w K mg base n "_law_marks" (fun a d C => cSp K (asp_mrk D a d C))) (c4 : CgP P w K mg base n "_law_wire_fields" (fun a d C => cSp K (asp_fld D 0 12 a d C))) (c5 : CgP P w K mg base n "_law_unknown_fields" (fun a d C => cSp K (asp_fld D 12 15 a d C)))
    {f : Addr} {fd : FuncData} (F : Fun K "_law_caught" "_law_caught" st__law_caught f fd) : FnG P w K mg base CX0 (n + 1) f fd ["_law_number", "_law_one", "_law_other", "_law_is_named"] (cSp K asp_cgt) := by
  refine oa__law_caught T c1 c2 c3 c4 c5 F (fun vs S R h => ?_) (fun vs S R h => ?_)
  · obtain ⟨k, x, y, b, rfl, _⟩ := h
    rfl
  · obtain ⟨k, x, y, b, rfl, hk, h⟩ := h
    dsimp only [sv__law_caught, pk]
    wtm_at "aw"
    refine r_bb (fun hb => ?_) (fun hb => ?_)
    all_goals
      wtm_at "aw"
      refine ⟨k, x, y, rfl, hk, ?_⟩
      by_cases h12 : k < 12
      · refine r_clsT (by rw [← decide_eq_true h12]; exact sb_WireError hk) (fun a d => ?_)
        wtm_at "aw"
        refine ⟨k, _, _, rfl, hk, rfl, ?_⟩
        wtm_at "aw"
        refine ⟨k, x, y, rfl, Nat.zero_le _, h12, rfl, ?_⟩
        wtm_at "aw"
        exact h
      · refine r_clsF (by rw [← decide_eq_false h12]; exact sb_WireError hk) ?_
        refine r_clsT (by have := sb_Unknown (D := D) hk; rw [decide_eq_false h12] at this; exact this) (fun a d => ?_)
        wtm_at "aw"
        refine ⟨k, _, _, rfl, hk, rfl, ?_⟩
        wtm_at "aw"
        refine ⟨k, x, y, rfl, by omega, hk, rfl, ?_⟩
        wtm_at "aw"
        exact h
end
end K01

namespace K01
section
variable {P : Program} {w : World} {K : PySem.W.Frag} {mg : Str → Option Value} {base : Heap} {D : Ad} {n : Nat}
theorem thg_rq1 {x y : PV} (hx : Thg 3 x) (hy : Thg 3 y) : rqOk (.tup [x, y]) := Pd.ok (d := 8) (p := .tup [x, y]) (fun v hv => by
    simp only [List.mem_cons, List.not_mem_nil, or_false] at hv
    rcases hv with rfl | rfl
    · exact hx.pd
    · exact hy.pd) (by decide) (by
    have h1 := hx.tl
    have h2 := hy.tl
    have : zzt 3 = 8728 := rfl
    rw [L5.tl, L5.tls, L5.tls, L5.tls]
    omega)
theorem exV_mem {k : Nat} {x y v : PV} (h : v ∈ exV k x y) : v = x ∨ v = y := by
  unfold exV at h
  split at h <;> simp only [List.mem_cons, List.not_mem_nil, or_false] at h <;> first | exact h | exact .inl h | exact h.elim
theorem exV_len (k : Nat) (x y : PV) : (exV k x y).length ≤ 2 := by
  unfold exV
  split <;> simp
theorem mrk_bl {k : Nat} {v : PV} (h : v ∈ mrk k) : ∃ b, v = .bl b := by
  unfold mrk at h
  rcases List.mem_append.mp h with h | h
  · obtain ⟨j, _, rfl⟩ := List.mem_map.mp h
    exact ⟨_, rfl⟩
  · simp only [List.mem_cons, List.not_mem_nil, or_false] at h
    rcases h with rfl | rfl | rfl | rfl | rfl <;> exact ⟨_, rfl⟩
theorem mrk_len (k : Nat) : (mrk k).length = 20 := by
  unfold mrk
  rw [List.length_append, List.length_map, List.length_range]
  rfl
theorem thg_rq2 {k : Nat} {x y : PV} (hx : Thg 3 x) (hy : Thg 3 y) : rqOk (cgt k x y) := Pd.ok (d := 10) (p := cgt k x y) (fun v hv => by
    simp only [List.mem_cons, List.not_mem_nil, or_false] at hv
    rcases hv with rfl | rfl
    · intro u hu
      obtain ⟨b, rfl⟩ := mrk_bl hu
      exact pd_bl b
    · intro u hu
      rcases exV_mem hu with rfl | rfl
      · exact hx.pd.up (by decide)
      · exact hy.pd.up (by decide)) (by decide) (by
    have h0 : zzt 3 = 8728 := rfl
    have h1 : L5.tls (mrk k) ≤ (mrk k).length * (10 + 2) := tls_le fun u hu => by
      obtain ⟨b, rfl⟩ := mrk_bl hu
      cases b <;> decide +kernel
    have h2 : L5.tls (exV k x y) ≤ (exV k x y).length * (8728 + 2) := tls_le fun u hu => by
      rcases exV_mem hu with rfl | rfl
      · exact hx.tl
      · exact hy.tl
    rw [mrk_len] at h1
    have h3 := exV_len k x y
    have h4 : (exV k x y).length * (8728 + 2) ≤ 2 * (8728 + 2) := Nat.mul_le_mul_right _ h3
    show L5.tl (.tup [.lst (mrk k), .lst (exV k x y)]) ≤ _
    rw [L5.tl, L5.tls, L5.tls, L5.tls, L5.tl, L5.tl]
    omega)
theorem ok_law (T : Txt K mg D) (c0 : Cg P w K mg base CX0 n "_law_source" (cSp K (asp_source "cells" "mixed" "count" X0))) (c1 : Cg P w K mg base CX0 n "_law_thing" (cSp K (asp_thg 3))) (c2 : Cg P w K mg base CX0 n "_law_caught" (cSp K asp_cgt)) (c3 : Cg P w K mg base CX0 n "_law_expected" (cSp K asp_exp))
    {f : Addr} {fd : FuncData} (F : Fun K "law" "law" st_law f fd) : FnG P w K mg base CX0 (n + 1) f fd ["_law_script"] (cSp K asp_law) := by
  refine oa_law T c0 c1 c2 c3 F (fun vs S R h => ?_) (fun vs S R h => ?_)
  · obtain ⟨ns, rfl, _⟩ := h
    rfl
  · obtain ⟨ns, rfl, rfl, hn, h⟩ := h
    dsimp only [sv_law, pk]
    wtm_at "aw"
    refine ⟨ns, rfl, rfl, hn, fun D0 hD0 => ?_⟩
    wtm_at "aw"
    refine loop_rng0 (fun i ρ S' => ∃ (D' : Dk) (v2 v3 v4 v5 v6 : Option PV), ρ = [some (.scr ns), some (.own 1), v2, v3, v4, v5, v6] ∧ S' = dx "cells" "mixed" "count" X0 D' [] ∧ D'.Ok (160 * (i : Int))) ⟨D0, none, none, none, none, none, rfl, rfl, hD0.up (by decide)⟩ ?_ ?_
    · rintro i ρ _ hi ⟨D1, v2, v3, v4, v5, v6, rfl, rfl, hD1⟩
      have hi2 : i < 15 := hi
      wtm_at "aw"
      refine ⟨X0, D1, [], _, rfl, rfl, by decide, hD1, by show 160 * (i : Int) + 80 ≤ _; omega, by decide, fun x D2 hx hD2 => ?_⟩
      wtm_at "aw"
      refine ⟨X0, D2, [], _, rfl, rfl, by decide, hD2, by show 160 * (i : Int) + 80 + 80 ≤ _; omega, by decide, fun y D3 hy hD3 => ?_⟩
      have q1 := thg_rq1 hx hy
      have q2 := thg_rq2 (k := i) hx hy
      wtm_at "aw"
      refine loop_one (xs := [.bl false, .bl true]) (fun j ρ S' => ∃ (v6 : Option PV), ρ = [some (.scr ns), some (.own 1), some (.int (i : Nat)), some x, some y, some (.str (PyData.shown (datQ (.tup [x, y])))), v6] ∧ S' = dx "cells" "mixed" "count" X0 D3 []) ⟨_, rfl, rfl⟩ ?_ ?_
      · rintro j u ρ _ hj ⟨v6, rfl, rfl⟩
        obtain ⟨b, rfl⟩ : ∃ b, u = .bl b := by
          rcases j with _ | _ | j
          · exact ⟨_, (Option.some.inj hj).symm⟩
          · exact ⟨_, (Option.some.inj hj).symm⟩
          · cases hj
        wtm_at "aw"
        refine ⟨i, x, y, b, rfl, hi2, ?_⟩
        wtm_at "aw"
        refine ⟨q2, ?_⟩
        wtm_at "aw"
        refine ⟨i, x, y, rfl, hi2, ?_⟩
        wtm_at "aw"
        refine ⟨q2, ?_⟩
        wtm_at "aw"
        exact ⟨_, rfl, rfl⟩
      · rintro ρ _ ⟨v6, rfl, rfl⟩
        wtm_at "aw"
        exact ⟨D3, _, _, _, _, _, rfl, rfl, hD3.up (by show 160 * (i : Int) + 80 + 80 ≤ 160 * ((i + 1 : Nat) : Int); push_cast; omega)⟩
    · rintro ρ _ ⟨D1, v2, v3, v4, v5, v6, rfl, rfl, hD1⟩
      wtm_at "aw"
      exact h _
end
end K01

namespace K01
open SP
set_option maxHeartbeats 8000000 in
set_option maxHeartbeats 0 in
theorem all_mk : AllMk := by
  refine ⟨?_⟩
  intro l w K h mg fa f__law_source f__law_draw f__law_pick f__law_thing f__law_raise_plain f__law_raise f__law_raise_named f__law_marks f__law_wire_fields f__law_unknown_fields f__law_caught f__law_expected f_law c_Finished c_Impossible c_InvalidChange c_InvalidCommand c_InvalidLink c_InvalidTable c_InvalidText c_NameTaken c_NotItsTurn c_PurseExceeded c_TooAlike c_TooManyRounds c_Unknown c_UnknownName c_UnknownStation c_UnknownTalk c_WireError f_InvalidChange___init__ f_NameTaken___init__ f_NotItsTurn___init__ f_PurseExceeded___init__ f_TooAlike___init__ f_TooManyRounds___init__ f_UnknownName___init__ f_UnknownStation___init__ f_UnknownTalk___init__ X G hfa od_0 an_0 sl_0 oc_0 kV_0 dc_0 pm_0 cd_0 ct_0 od_1 an_1 sl_1 oc_1 kV_1 dc_1 pm_1 cd_1 ct_1 od_2 an_2 sl_2 oc_2 kV_2 dc_2 pm_2 cd_2 ct_2 od_3 an_3 sl_3 oc_3 kV_3 dc_3 pm_3 cd_3 ct_3 od_4 an_4 sl_4 oc_4 kV_4 dc_4 pm_4 cd_4 ct_4 od_5 an_5
  intro sl_5 oc_5 kV_5 dc_5 pm_5 cd_5 ct_5 od_6 an_6 sl_6 oc_6 kV_6 dc_6 pm_6 cd_6 ct_6 od_7 an_7 sl_7 oc_7 kV_7 dc_7 pm_7 cd_7 ct_7 od_8 an_8 sl_8 oc_8 kV_8 dc_8 pm_8 cd_8 ct_8 od_9 an_9 sl_9 oc_9 kV_9 dc_9 pm_9 cd_9 ct_9 od_10 an_10 sl_10 oc_10 kV_10 dc_10 pm_10 cd_10 ct_10 od_11 an_11 sl_11 oc_11 kV_11 dc_11 pm_11 cd_11 ct_11 od_12 an_12 sl_12 oc_12 kV_12 dc_12 pm_12 cd_12 ct_12 od_13 an_13 sl_13 oc_13 kV_13 dc_13 pm_13 cd_13 ct_13 od_14 an_14 sl_14 oc_14 kV_14 dc_14 pm_14 cd_14 ct_14 od_15 an_15 sl_15 oc_15 kV_15 dc_15 pm_15 cd_15 ct_15 od_16 an_16 sl_16 oc_16 kV_16 dc_16 pm_16 cd_16 ct_16 od_17 an_17 sl_17 oc_17 kV_17 dc_17 pm_17 cd_17 ct_17 od_18 an_18 sl_18 oc_18 kV_18 dc_18 pm_18 cd_18 ct_18 od_19 an_19 sl_19 oc_19 kV_19 dc_19 pm_19 cd_19 ct_19 od_20 an_20 sl_20 oc_20 kV_20 dc_20 pm_20 cd_20 ct_20 od_21 an_21 sl_21 oc_21 kV_21 dc_21 pm_21 cd_21 ct_21 a__law_source l__law_source c__law_source
  intro k__law_source a__law_draw l__law_draw c__law_draw k__law_draw a__law_pick l__law_pick c__law_pick k__law_pick a__law_thing l__law_thing c__law_thing k__law_thing a__law_raise_plain l__law_raise_plain c__law_raise_plain k__law_raise_plain a__law_raise l__law_raise c__law_raise k__law_raise a__law_raise_named l__law_raise_named c__law_raise_named k__law_raise_named a__law_marks l__law_marks c__law_marks k__law_marks a__law_wire_fields l__law_wire_fields c__law_wire_fields k__law_wire_fields a__law_unknown_fields l__law_unknown_fields c__law_unknown_fields k__law_unknown_fields a__law_caught l__law_caught c__law_caught k__law_caught a__law_expected l__law_expected c__law_expected k__law_expected a_law l_law c_law k_law aC_Finished aC_Impossible aC_InvalidChange aC_InvalidCommand aC_InvalidLink aC_InvalidTable aC_InvalidText aC_NameTaken aC_NotItsTurn aC_PurseExceeded aC_TooAlike aC_TooManyRounds
  intro aC_Unknown aC_UnknownName aC_UnknownStation aC_UnknownTalk aC_WireError z_IndexError z_KeyError z_ValueError z_dict z_enumerate z_int z_isinstance z_len z_list z_range z_repr z_tuple eX_Finished kX_Finished bX_Finished tX_Finished eX_Impossible kX_Impossible bX_Impossible tX_Impossible eX_InvalidCommand kX_InvalidCommand bX_InvalidCommand tX_InvalidCommand eX_InvalidLink kX_InvalidLink bX_InvalidLink tX_InvalidLink eX_InvalidTable kX_InvalidTable bX_InvalidTable tX_InvalidTable eX_InvalidText kX_InvalidText bX_InvalidText tX_InvalidText hnO htO cX_Finished mX_Finished gX_Finished aX_Finished dX_Finished cX_Impossible mX_Impossible gX_Impossible aX_Impossible dX_Impossible cX_InvalidChange mX_InvalidChange gX_InvalidChange aX_InvalidChange bX_InvalidChange dX_InvalidChange cX_InvalidCommand mX_InvalidCommand gX_InvalidCommand aX_InvalidCommand dX_InvalidCommand cX_InvalidLink mX_InvalidLink
  intro gX_InvalidLink aX_InvalidLink dX_InvalidLink cX_InvalidTable mX_InvalidTable gX_InvalidTable aX_InvalidTable dX_InvalidTable cX_InvalidText mX_InvalidText gX_InvalidText aX_InvalidText dX_InvalidText cX_NameTaken mX_NameTaken gX_NameTaken aX_NameTaken bX_NameTaken dX_NameTaken cX_NotItsTurn mX_NotItsTurn gX_NotItsTurn aX_NotItsTurn bX_NotItsTurn dX_NotItsTurn cX_PurseExceeded mX_PurseExceeded gX_PurseExceeded aX_PurseExceeded bX_PurseExceeded dX_PurseExceeded cX_TooAlike mX_TooAlike gX_TooAlike aX_TooAlike bX_TooAlike dX_TooAlike cX_TooManyRounds mX_TooManyRounds gX_TooManyRounds aX_TooManyRounds bX_TooManyRounds dX_TooManyRounds cX_UnknownName mX_UnknownName gX_UnknownName aX_UnknownName bX_UnknownName dX_UnknownName cX_UnknownStation mX_UnknownStation gX_UnknownStation aX_UnknownStation bX_UnknownStation dX_UnknownStation cX_UnknownTalk mX_UnknownTalk gX_UnknownTalk aX_UnknownTalk
  intro bX_UnknownTalk dX_UnknownTalk icX_Finished icX_Impossible icX_InvalidChange tX_InvalidChange icX_InvalidCommand icX_InvalidLink icX_InvalidTable icX_InvalidText icX_NameTaken tX_NameTaken icX_NotItsTurn tX_NotItsTurn icX_PurseExceeded tX_PurseExceeded icX_TooAlike tX_TooAlike icX_TooManyRounds tX_TooManyRounds bX_Unknown dX_Unknown tX_Unknown icX_Unknown icX_UnknownName tX_UnknownName icX_UnknownStation tX_UnknownStation icX_UnknownTalk tX_UnknownTalk bX_WireError dX_WireError tX_WireError icX_WireError xn_InvalidChange_change xn_NameTaken_name xn_NotItsTurn_station xn_PurseExceeded_count xn_TooAlike_first xn_TooAlike_second xn_TooManyRounds_rounds xn_UnknownName_name xn_UnknownStation_station xn_UnknownTalk_talk iX_InvalidChange l_InvalidChange___init__ c_InvalidChange___init__ k_InvalidChange___init__ lX_InvalidChange pX_InvalidChange jX_InvalidChange rd_WireError gc_WireError wX_WireError
  intro kX_InvalidChange iX_NameTaken l_NameTaken___init__ c_NameTaken___init__ k_NameTaken___init__ lX_NameTaken pX_NameTaken jX_NameTaken kX_NameTaken iX_NotItsTurn l_NotItsTurn___init__ c_NotItsTurn___init__ k_NotItsTurn___init__ lX_NotItsTurn pX_NotItsTurn jX_NotItsTurn kX_NotItsTurn iX_PurseExceeded l_PurseExceeded___init__ c_PurseExceeded___init__ k_PurseExceeded___init__ lX_PurseExceeded pX_PurseExceeded jX_PurseExceeded kX_PurseExceeded iX_TooAlike l_TooAlike___init__ c_TooAlike___init__ k_TooAlike___init__ lX_TooAlike pX_TooAlike jX_TooAlike kX_TooAlike iX_TooManyRounds l_TooManyRounds___init__ c_TooManyRounds___init__ k_TooManyRounds___init__ lX_TooManyRounds pX_TooManyRounds jX_TooManyRounds kX_TooManyRounds iX_UnknownName l_UnknownName___init__ c_UnknownName___init__ k_UnknownName___init__ lX_UnknownName pX_UnknownName jX_UnknownName rd_Unknown gc_Unknown wX_Unknown kX_UnknownName
  intro iX_UnknownStation l_UnknownStation___init__ c_UnknownStation___init__ k_UnknownStation___init__ lX_UnknownStation pX_UnknownStation jX_UnknownStation kX_UnknownStation iX_UnknownTalk l_UnknownTalk___init__ c_UnknownTalk___init__ k_UnknownTalk___init__ lX_UnknownTalk pX_UnknownTalk jX_UnknownTalk kX_UnknownTalk sXs_Finished nXs_Finished nXs_Impossible sXs_Impossible sBs_IndexError nXs_InvalidChange sXs_InvalidChange nXs_InvalidCommand sXs_InvalidCommand nXs_InvalidLink sXs_InvalidLink nXs_InvalidTable sXs_InvalidTable nXs_InvalidText sXs_InvalidText sBs_KeyError nXs_NameTaken sXs_NameTaken nXs_NotItsTurn sXs_NotItsTurn nXs_PurseExceeded sXs_PurseExceeded nXs_TooAlike sXs_TooAlike nXs_TooManyRounds sXs_TooManyRounds sXs_Unknown nXs_Unknown nXs_UnknownName sXs_UnknownName nXs_UnknownStation sXs_UnknownStation nXs_UnknownTalk sXs_UnknownTalk sBs_ValueError sXs_WireError nXs_WireError
  have e := hfa.symm.trans (PySem.W.mg_of X G a_law)
  cases e
  obtain ⟨sX_Finished_Finished, sX_Impossible_Finished, sX_InvalidChange_Finished, sX_InvalidCommand_Finished, sX_InvalidLink_Finished, sX_InvalidTable_Finished, sX_InvalidText_Finished, sX_NameTaken_Finished, sX_NotItsTurn_Finished, sX_PurseExceeded_Finished, sX_TooAlike_Finished, sX_TooManyRounds_Finished, sX_UnknownName_Finished, sX_UnknownStation_Finished, sX_UnknownTalk_Finished⟩ := sXs_Finished
  obtain ⟨nX_Impossible_Finished, nX_InvalidChange_Finished, nX_InvalidCommand_Finished, nX_InvalidLink_Finished, nX_InvalidTable_Finished, nX_InvalidText_Finished, nX_NameTaken_Finished, nX_NotItsTurn_Finished, nX_PurseExceeded_Finished, nX_TooAlike_Finished, nX_TooManyRounds_Finished, nX_UnknownName_Finished, nX_UnknownStation_Finished, nX_UnknownTalk_Finished⟩ := nXs_Finished
  obtain ⟨nX_Finished_Impossible, nX_InvalidChange_Impossible, nX_InvalidCommand_Impossible, nX_InvalidLink_Impossible, nX_InvalidTable_Impossible, nX_InvalidText_Impossible, nX_NameTaken_Impossible, nX_NotItsTurn_Impossible, nX_PurseExceeded_Impossible, nX_TooAlike_Impossible, nX_TooManyRounds_Impossible, nX_UnknownName_Impossible, nX_UnknownStation_Impossible, nX_UnknownTalk_Impossible⟩ := nXs_Impossible
  obtain ⟨sX_Finished_Impossible, sX_Impossible_Impossible, sX_InvalidChange_Impossible, sX_InvalidCommand_Impossible, sX_InvalidLink_Impossible, sX_InvalidTable_Impossible, sX_InvalidText_Impossible, sX_NameTaken_Impossible, sX_NotItsTurn_Impossible, sX_PurseExceeded_Impossible, sX_TooAlike_Impossible, sX_TooManyRounds_Impossible, sX_UnknownName_Impossible, sX_UnknownStation_Impossible, sX_UnknownTalk_Impossible⟩ := sXs_Impossible
  obtain ⟨sB_Finished_IndexError, sB_Impossible_IndexError, sB_InvalidChange_IndexError, sB_InvalidCommand_IndexError, sB_InvalidLink_IndexError, sB_InvalidTable_IndexError, sB_InvalidText_IndexError, sB_NameTaken_IndexError, sB_NotItsTurn_IndexError, sB_PurseExceeded_IndexError, sB_TooAlike_IndexError, sB_TooManyRounds_IndexError, sB_UnknownName_IndexError, sB_UnknownStation_IndexError, sB_UnknownTalk_IndexError⟩ := sBs_IndexError
  obtain ⟨nX_Finished_InvalidChange, nX_Impossible_InvalidChange, nX_InvalidCommand_InvalidChange, nX_InvalidLink_InvalidChange, nX_InvalidTable_InvalidChange, nX_InvalidText_InvalidChange, nX_NameTaken_InvalidChange, nX_NotItsTurn_InvalidChange, nX_PurseExceeded_InvalidChange, nX_TooAlike_InvalidChange, nX_TooManyRounds_InvalidChange, nX_UnknownName_InvalidChange, nX_UnknownStation_InvalidChange, nX_UnknownTalk_InvalidChange⟩ := nXs_InvalidChange
  obtain ⟨sX_Finished_InvalidChange, sX_Impossible_InvalidChange, sX_InvalidChange_InvalidChange, sX_InvalidCommand_InvalidChange, sX_InvalidLink_InvalidChange, sX_InvalidTable_InvalidChange, sX_InvalidText_InvalidChange, sX_NameTaken_InvalidChange, sX_NotItsTurn_InvalidChange, sX_PurseExceeded_InvalidChange, sX_TooAlike_InvalidChange, sX_TooManyRounds_InvalidChange, sX_UnknownName_InvalidChange, sX_UnknownStation_InvalidChange, sX_UnknownTalk_InvalidChange⟩ := sXs_InvalidChange
  obtain ⟨nX_Finished_InvalidCommand, nX_Impossible_InvalidCommand, nX_InvalidChange_InvalidCommand, nX_InvalidLink_InvalidCommand, nX_InvalidTable_InvalidCommand, nX_InvalidText_InvalidCommand, nX_NameTaken_InvalidCommand, nX_NotItsTurn_InvalidCommand, nX_PurseExceeded_InvalidCommand, nX_TooAlike_InvalidCommand, nX_TooManyRounds_InvalidCommand, nX_UnknownName_InvalidCommand, nX_UnknownStation_InvalidCommand, nX_UnknownTalk_InvalidCommand⟩ := nXs_InvalidCommand
  obtain ⟨sX_Finished_InvalidCommand, sX_Impossible_InvalidCommand, sX_InvalidChange_InvalidCommand, sX_InvalidCommand_InvalidCommand, sX_InvalidLink_InvalidCommand, sX_InvalidTable_InvalidCommand, sX_InvalidText_InvalidCommand, sX_NameTaken_InvalidCommand, sX_NotItsTurn_InvalidCommand, sX_PurseExceeded_InvalidCommand, sX_TooAlike_InvalidCommand, sX_TooManyRounds_InvalidCommand, sX_UnknownName_InvalidCommand, sX_UnknownStation_InvalidCommand, sX_UnknownTalk_InvalidCommand⟩ := sXs_InvalidCommand
  obtain ⟨nX_Finished_InvalidLink, nX_Impossible_InvalidLink, nX_InvalidChange_InvalidLink, nX_InvalidCommand_InvalidLink, nX_InvalidTable_InvalidLink, nX_InvalidText_InvalidLink, nX_NameTaken_InvalidLink, nX_NotItsTurn_InvalidLink, nX_PurseExceeded_InvalidLink, nX_TooAlike_InvalidLink, nX_TooManyRounds_InvalidLink, nX_UnknownName_InvalidLink, nX_UnknownStation_InvalidLink, nX_UnknownTalk_InvalidLink⟩ := nXs_InvalidLink
  obtain ⟨sX_Finished_InvalidLink, sX_Impossible_InvalidLink, sX_InvalidChange_InvalidLink, sX_InvalidCommand_InvalidLink, sX_InvalidLink_InvalidLink, sX_InvalidTable_InvalidLink, sX_InvalidText_InvalidLink, sX_NameTaken_InvalidLink, sX_NotItsTurn_InvalidLink, sX_PurseExceeded_InvalidLink, sX_TooAlike_InvalidLink, sX_TooManyRounds_InvalidLink, sX_UnknownName_InvalidLink, sX_UnknownStation_InvalidLink, sX_UnknownTalk_InvalidLink⟩ := sXs_InvalidLink
  obtain ⟨nX_Finished_InvalidTable, nX_Impossible_InvalidTable, nX_InvalidChange_InvalidTable, nX_InvalidCommand_InvalidTable, nX_InvalidLink_InvalidTable, nX_InvalidText_InvalidTable, nX_NameTaken_InvalidTable, nX_NotItsTurn_InvalidTable, nX_PurseExceeded_InvalidTable, nX_TooAlike_InvalidTable, nX_TooManyRounds_InvalidTable, nX_UnknownName_InvalidTable, nX_UnknownStation_InvalidTable, nX_UnknownTalk_InvalidTable⟩ := nXs_InvalidTable
  obtain ⟨sX_Finished_InvalidTable, sX_Impossible_InvalidTable, sX_InvalidChange_InvalidTable, sX_InvalidCommand_InvalidTable, sX_InvalidLink_InvalidTable, sX_InvalidTable_InvalidTable, sX_InvalidText_InvalidTable, sX_NameTaken_InvalidTable, sX_NotItsTurn_InvalidTable, sX_PurseExceeded_InvalidTable, sX_TooAlike_InvalidTable, sX_TooManyRounds_InvalidTable, sX_UnknownName_InvalidTable, sX_UnknownStation_InvalidTable, sX_UnknownTalk_InvalidTable⟩ := sXs_InvalidTable
  obtain ⟨nX_Finished_InvalidText, nX_Impossible_InvalidText, nX_InvalidChange_InvalidText, nX_InvalidCommand_InvalidText, nX_InvalidLink_InvalidText, nX_InvalidTable_InvalidText, nX_NameTaken_InvalidText, nX_NotItsTurn_InvalidText, nX_PurseExceeded_InvalidText, nX_TooAlike_InvalidText, nX_TooManyRounds_InvalidText, nX_UnknownName_InvalidText, nX_UnknownStation_InvalidText, nX_UnknownTalk_InvalidText⟩ := nXs_InvalidText
  obtain ⟨sX_Finished_InvalidText, sX_Impossible_InvalidText, sX_InvalidChange_InvalidText, sX_InvalidCommand_InvalidText, sX_InvalidLink_InvalidText, sX_InvalidTable_InvalidText, sX_InvalidText_InvalidText, sX_NameTaken_InvalidText, sX_NotItsTurn_InvalidText, sX_PurseExceeded_InvalidText, sX_TooAlike_InvalidText, sX_TooManyRounds_InvalidText, sX_UnknownName_InvalidText, sX_UnknownStation_InvalidText, sX_UnknownTalk_InvalidText⟩ := sXs_InvalidText
  obtain ⟨sB_Finished_KeyError, sB_Impossible_KeyError, sB_InvalidChange_KeyError, sB_InvalidCommand_KeyError, sB_InvalidLink_KeyError, sB_InvalidTable_KeyError, sB_InvalidText_KeyError, sB_NameTaken_KeyError, sB_NotItsTurn_KeyError, sB_PurseExceeded_KeyError, sB_TooAlike_KeyError, sB_TooManyRounds_KeyError, sB_UnknownName_KeyError, sB_UnknownStation_KeyError, sB_UnknownTalk_KeyError⟩ := sBs_KeyError
  obtain ⟨nX_Finished_NameTaken, nX_Impossible_NameTaken, nX_InvalidChange_NameTaken, nX_InvalidCommand_NameTaken, nX_InvalidLink_NameTaken, nX_InvalidTable_NameTaken, nX_InvalidText_NameTaken, nX_NotItsTurn_NameTaken, nX_PurseExceeded_NameTaken, nX_TooAlike_NameTaken, nX_TooManyRounds_NameTaken, nX_UnknownName_NameTaken, nX_UnknownStation_NameTaken, nX_UnknownTalk_NameTaken⟩ := nXs_NameTaken
  obtain ⟨sX_Finished_NameTaken, sX_Impossible_NameTaken, sX_InvalidChange_NameTaken, sX_InvalidCommand_NameTaken, sX_InvalidLink_NameTaken, sX_InvalidTable_NameTaken, sX_InvalidText_NameTaken, sX_NameTaken_NameTaken, sX_NotItsTurn_NameTaken, sX_PurseExceeded_NameTaken, sX_TooAlike_NameTaken, sX_TooManyRounds_NameTaken, sX_UnknownName_NameTaken, sX_UnknownStation_NameTaken, sX_UnknownTalk_NameTaken⟩ := sXs_NameTaken
  obtain ⟨nX_Finished_NotItsTurn, nX_Impossible_NotItsTurn, nX_InvalidChange_NotItsTurn, nX_InvalidCommand_NotItsTurn, nX_InvalidLink_NotItsTurn, nX_InvalidTable_NotItsTurn, nX_InvalidText_NotItsTurn, nX_NameTaken_NotItsTurn, nX_PurseExceeded_NotItsTurn, nX_TooAlike_NotItsTurn, nX_TooManyRounds_NotItsTurn, nX_UnknownName_NotItsTurn, nX_UnknownStation_NotItsTurn, nX_UnknownTalk_NotItsTurn⟩ := nXs_NotItsTurn
  obtain ⟨sX_Finished_NotItsTurn, sX_Impossible_NotItsTurn, sX_InvalidChange_NotItsTurn, sX_InvalidCommand_NotItsTurn, sX_InvalidLink_NotItsTurn, sX_InvalidTable_NotItsTurn, sX_InvalidText_NotItsTurn, sX_NameTaken_NotItsTurn, sX_NotItsTurn_NotItsTurn, sX_PurseExceeded_NotItsTurn, sX_TooAlike_NotItsTurn, sX_TooManyRounds_NotItsTurn, sX_UnknownName_NotItsTurn, sX_UnknownStation_NotItsTurn, sX_UnknownTalk_NotItsTurn⟩ := sXs_NotItsTurn
  obtain ⟨nX_Finished_PurseExceeded, nX_Impossible_PurseExceeded, nX_InvalidChange_PurseExceeded, nX_InvalidCommand_PurseExceeded, nX_InvalidLink_PurseExceeded, nX_InvalidTable_PurseExceeded, nX_InvalidText_PurseExceeded, nX_NameTaken_PurseExceeded, nX_NotItsTurn_PurseExceeded, nX_TooAlike_PurseExceeded, nX_TooManyRounds_PurseExceeded, nX_UnknownName_PurseExceeded, nX_UnknownStation_PurseExceeded, nX_UnknownTalk_PurseExceeded⟩ := nXs_PurseExceeded
  obtain ⟨sX_Finished_PurseExceeded, sX_Impossible_PurseExceeded, sX_InvalidChange_PurseExceeded, sX_InvalidCommand_PurseExceeded, sX_InvalidLink_PurseExceeded, sX_InvalidTable_PurseExceeded, sX_InvalidText_PurseExceeded, sX_NameTaken_PurseExceeded, sX_NotItsTurn_PurseExceeded, sX_PurseExceeded_PurseExceeded, sX_TooAlike_PurseExceeded, sX_TooManyRounds_PurseExceeded, sX_UnknownName_PurseExceeded, sX_UnknownStation_PurseExceeded, sX_UnknownTalk_PurseExceeded⟩ := sXs_PurseExceeded
  obtain ⟨nX_Finished_TooAlike, nX_Impossible_TooAlike, nX_InvalidChange_TooAlike, nX_InvalidCommand_TooAlike, nX_InvalidLink_TooAlike, nX_InvalidTable_TooAlike, nX_InvalidText_TooAlike, nX_NameTaken_TooAlike, nX_NotItsTurn_TooAlike, nX_PurseExceeded_TooAlike, nX_TooManyRounds_TooAlike, nX_UnknownName_TooAlike, nX_UnknownStation_TooAlike, nX_UnknownTalk_TooAlike⟩ := nXs_TooAlike
  obtain ⟨sX_Finished_TooAlike, sX_Impossible_TooAlike, sX_InvalidChange_TooAlike, sX_InvalidCommand_TooAlike, sX_InvalidLink_TooAlike, sX_InvalidTable_TooAlike, sX_InvalidText_TooAlike, sX_NameTaken_TooAlike, sX_NotItsTurn_TooAlike, sX_PurseExceeded_TooAlike, sX_TooAlike_TooAlike, sX_TooManyRounds_TooAlike, sX_UnknownName_TooAlike, sX_UnknownStation_TooAlike, sX_UnknownTalk_TooAlike⟩ := sXs_TooAlike
  obtain ⟨nX_Finished_TooManyRounds, nX_Impossible_TooManyRounds, nX_InvalidChange_TooManyRounds, nX_InvalidCommand_TooManyRounds, nX_InvalidLink_TooManyRounds, nX_InvalidTable_TooManyRounds, nX_InvalidText_TooManyRounds, nX_NameTaken_TooManyRounds, nX_NotItsTurn_TooManyRounds, nX_PurseExceeded_TooManyRounds, nX_TooAlike_TooManyRounds, nX_UnknownName_TooManyRounds, nX_UnknownStation_TooManyRounds, nX_UnknownTalk_TooManyRounds⟩ := nXs_TooManyRounds
  obtain ⟨sX_Finished_TooManyRounds, sX_Impossible_TooManyRounds, sX_InvalidChange_TooManyRounds, sX_InvalidCommand_TooManyRounds, sX_InvalidLink_TooManyRounds, sX_InvalidTable_TooManyRounds, sX_InvalidText_TooManyRounds, sX_NameTaken_TooManyRounds, sX_NotItsTurn_TooManyRounds, sX_PurseExceeded_TooManyRounds, sX_TooAlike_TooManyRounds, sX_TooManyRounds_TooManyRounds, sX_UnknownName_TooManyRounds, sX_UnknownStation_TooManyRounds, sX_UnknownTalk_TooManyRounds⟩ := sXs_TooManyRounds
  obtain ⟨sX_Finished_Unknown, sX_Impossible_Unknown, sX_InvalidChange_Unknown, sX_InvalidCommand_Unknown, sX_InvalidLink_Unknown, sX_InvalidTable_Unknown, sX_InvalidText_Unknown, sX_NameTaken_Unknown, sX_NotItsTurn_Unknown, sX_PurseExceeded_Unknown, sX_TooAlike_Unknown, sX_TooManyRounds_Unknown, sX_UnknownName_Unknown, sX_UnknownStation_Unknown, sX_UnknownTalk_Unknown⟩ := sXs_Unknown
  obtain ⟨nX_Finished_Unknown, nX_Impossible_Unknown, nX_InvalidChange_Unknown, nX_InvalidCommand_Unknown, nX_InvalidLink_Unknown, nX_InvalidTable_Unknown, nX_InvalidText_Unknown, nX_NameTaken_Unknown, nX_NotItsTurn_Unknown, nX_PurseExceeded_Unknown, nX_TooAlike_Unknown, nX_TooManyRounds_Unknown⟩ := nXs_Unknown
  obtain ⟨nX_Finished_UnknownName, nX_Impossible_UnknownName, nX_InvalidChange_UnknownName, nX_InvalidCommand_UnknownName, nX_InvalidLink_UnknownName, nX_InvalidTable_UnknownName, nX_InvalidText_UnknownName, nX_NameTaken_UnknownName, nX_NotItsTurn_UnknownName, nX_PurseExceeded_UnknownName, nX_TooAlike_UnknownName, nX_TooManyRounds_UnknownName, nX_UnknownStation_UnknownName, nX_UnknownTalk_UnknownName⟩ := nXs_UnknownName
  obtain ⟨sX_Finished_UnknownName, sX_Impossible_UnknownName, sX_InvalidChange_UnknownName, sX_InvalidCommand_UnknownName, sX_InvalidLink_UnknownName, sX_InvalidTable_UnknownName, sX_InvalidText_UnknownName, sX_NameTaken_UnknownName, sX_NotItsTurn_UnknownName, sX_PurseExceeded_UnknownName, sX_TooAlike_UnknownName, sX_TooManyRounds_UnknownName, sX_UnknownName_UnknownName, sX_UnknownStation_UnknownName, sX_UnknownTalk_UnknownName⟩ := sXs_UnknownName
  obtain ⟨nX_Finished_UnknownStation, nX_Impossible_UnknownStation, nX_InvalidChange_UnknownStation, nX_InvalidCommand_UnknownStation, nX_InvalidLink_UnknownStation, nX_InvalidTable_UnknownStation, nX_InvalidText_UnknownStation, nX_NameTaken_UnknownStation, nX_NotItsTurn_UnknownStation, nX_PurseExceeded_UnknownStation, nX_TooAlike_UnknownStation, nX_TooManyRounds_UnknownStation, nX_UnknownName_UnknownStation, nX_UnknownTalk_UnknownStation⟩ := nXs_UnknownStation
  obtain ⟨sX_Finished_UnknownStation, sX_Impossible_UnknownStation, sX_InvalidChange_UnknownStation, sX_InvalidCommand_UnknownStation, sX_InvalidLink_UnknownStation, sX_InvalidTable_UnknownStation, sX_InvalidText_UnknownStation, sX_NameTaken_UnknownStation, sX_NotItsTurn_UnknownStation, sX_PurseExceeded_UnknownStation, sX_TooAlike_UnknownStation, sX_TooManyRounds_UnknownStation, sX_UnknownName_UnknownStation, sX_UnknownStation_UnknownStation, sX_UnknownTalk_UnknownStation⟩ := sXs_UnknownStation
  obtain ⟨nX_Finished_UnknownTalk, nX_Impossible_UnknownTalk, nX_InvalidChange_UnknownTalk, nX_InvalidCommand_UnknownTalk, nX_InvalidLink_UnknownTalk, nX_InvalidTable_UnknownTalk, nX_InvalidText_UnknownTalk, nX_NameTaken_UnknownTalk, nX_NotItsTurn_UnknownTalk, nX_PurseExceeded_UnknownTalk, nX_TooAlike_UnknownTalk, nX_TooManyRounds_UnknownTalk, nX_UnknownName_UnknownTalk, nX_UnknownStation_UnknownTalk⟩ := nXs_UnknownTalk
  obtain ⟨sX_Finished_UnknownTalk, sX_Impossible_UnknownTalk, sX_InvalidChange_UnknownTalk, sX_InvalidCommand_UnknownTalk, sX_InvalidLink_UnknownTalk, sX_InvalidTable_UnknownTalk, sX_InvalidText_UnknownTalk, sX_NameTaken_UnknownTalk, sX_NotItsTurn_UnknownTalk, sX_PurseExceeded_UnknownTalk, sX_TooAlike_UnknownTalk, sX_TooManyRounds_UnknownTalk, sX_UnknownName_UnknownTalk, sX_UnknownStation_UnknownTalk, sX_UnknownTalk_UnknownTalk⟩ := sXs_UnknownTalk
  obtain ⟨sB_Finished_ValueError, sB_Impossible_ValueError, sB_InvalidChange_ValueError, sB_InvalidCommand_ValueError, sB_InvalidLink_ValueError, sB_InvalidTable_ValueError, sB_InvalidText_ValueError, sB_NameTaken_ValueError, sB_NotItsTurn_ValueError, sB_PurseExceeded_ValueError, sB_TooAlike_ValueError, sB_TooManyRounds_ValueError, sB_UnknownName_ValueError, sB_UnknownStation_ValueError, sB_UnknownTalk_ValueError⟩ := sBs_ValueError
  obtain ⟨sX_Finished_WireError, sX_Impossible_WireError, sX_InvalidChange_WireError, sX_InvalidCommand_WireError, sX_InvalidLink_WireError, sX_InvalidTable_WireError, sX_InvalidText_WireError, sX_NameTaken_WireError, sX_NotItsTurn_WireError, sX_PurseExceeded_WireError, sX_TooAlike_WireError, sX_TooManyRounds_WireError, sX_UnknownName_WireError, sX_UnknownStation_WireError, sX_UnknownTalk_WireError⟩ := sXs_WireError
  obtain ⟨nX_UnknownName_WireError, nX_UnknownStation_WireError, nX_UnknownTalk_WireError⟩ := nXs_WireError
  have T : Txt K mg (⟨c_Finished, c_Impossible, c_InvalidChange, c_InvalidCommand, c_InvalidLink, c_InvalidTable, c_InvalidText, c_NameTaken, c_NotItsTurn, c_PurseExceeded, c_TooAlike, c_TooManyRounds, c_Unknown, c_UnknownName, c_UnknownStation, c_UnknownTalk, c_WireError⟩ : Ad) := ⟨PySem.W.mg_none_of X G z_IndexError, PySem.W.mg_none_of X G z_KeyError, PySem.W.mg_none_of X G z_ValueError, PySem.W.mg_none_of X G z_dict, PySem.W.mg_none_of X G z_enumerate, PySem.W.mg_none_of X G z_int, PySem.W.mg_none_of X G z_isinstance, PySem.W.mg_none_of X G z_len, PySem.W.mg_none_of X G z_list, PySem.W.mg_none_of X G z_range, PySem.W.mg_none_of X G z_repr, PySem.W.mg_none_of X G z_tuple, PySem.W.mg_of X G aC_Finished, PySem.W.mg_of X G aC_Impossible, PySem.W.mg_of X G aC_InvalidChange, PySem.W.mg_of X G aC_InvalidCommand, PySem.W.mg_of X G aC_InvalidLink, PySem.W.mg_of X G aC_InvalidTable, PySem.W.mg_of X G aC_InvalidText, PySem.W.mg_of X G aC_NameTaken, PySem.W.mg_of X G aC_NotItsTurn, PySem.W.mg_of X G aC_PurseExceeded, PySem.W.mg_of X G aC_TooAlike, PySem.W.mg_of X G aC_TooManyRounds, PySem.W.mg_of X G aC_Unknown, PySem.W.mg_of X G aC_UnknownName, PySem.W.mg_of X G aC_UnknownStation, PySem.W.mg_of X G aC_UnknownTalk, PySem.W.mg_of X G aC_WireError, ⟨PySem.W.mg_of X G aC_Finished, kX_Finished, eX_Finished, bX_Finished, tX_Finished⟩, ⟨PySem.W.mg_of X G aC_Impossible, kX_Impossible, eX_Impossible, bX_Impossible, tX_Impossible⟩, ⟨PySem.W.mg_of X G aC_InvalidCommand, kX_InvalidCommand, eX_InvalidCommand, bX_InvalidCommand, tX_InvalidCommand⟩, ⟨PySem.W.mg_of X G aC_InvalidLink, kX_InvalidLink, eX_InvalidLink, bX_InvalidLink, tX_InvalidLink⟩, ⟨PySem.W.mg_of X G aC_InvalidTable, kX_InvalidTable, eX_InvalidTable, bX_InvalidTable, tX_InvalidTable⟩, ⟨PySem.W.mg_of X G aC_InvalidText, kX_InvalidText, eX_InvalidText, bX_InvalidText, tX_InvalidText⟩, (fun C h => by
    simp only [xr] at h
    rcases h with rfl | rfl | rfl | rfl | rfl | rfl | rfl | rfl | rfl | rfl | rfl | rfl | rfl | rfl | rfl
    · exact ⟨gX_Finished, aX_Finished, bX_Finished, dX_Finished, cX_Finished, hnO, htO, mX_Finished⟩
    · exact ⟨gX_Impossible, aX_Impossible, bX_Impossible, dX_Impossible, cX_Impossible, hnO, htO, mX_Impossible⟩
    · exact ⟨gX_InvalidChange, aX_InvalidChange, bX_InvalidChange, dX_InvalidChange, cX_InvalidChange, hnO, htO, mX_InvalidChange⟩
    · exact ⟨gX_InvalidCommand, aX_InvalidCommand, bX_InvalidCommand, dX_InvalidCommand, cX_InvalidCommand, hnO, htO, mX_InvalidCommand⟩
    · exact ⟨gX_InvalidLink, aX_InvalidLink, bX_InvalidLink, dX_InvalidLink, cX_InvalidLink, hnO, htO, mX_InvalidLink⟩
    · exact ⟨gX_InvalidTable, aX_InvalidTable, bX_InvalidTable, dX_InvalidTable, cX_InvalidTable, hnO, htO, mX_InvalidTable⟩
    · exact ⟨gX_InvalidText, aX_InvalidText, bX_InvalidText, dX_InvalidText, cX_InvalidText, hnO, htO, mX_InvalidText⟩
    · exact ⟨gX_NameTaken, aX_NameTaken, bX_NameTaken, dX_NameTaken, cX_NameTaken, hnO, htO, mX_NameTaken⟩
    · exact ⟨gX_NotItsTurn, aX_NotItsTurn, bX_NotItsTurn, dX_NotItsTurn, cX_NotItsTurn, hnO, htO, mX_NotItsTurn⟩
    · exact ⟨gX_PurseExceeded, aX_PurseExceeded, bX_PurseExceeded, dX_PurseExceeded, cX_PurseExceeded, hnO, htO, mX_PurseExceeded⟩
    · exact ⟨gX_TooAlike, aX_TooAlike, bX_TooAlike, dX_TooAlike, cX_TooAlike, hnO, htO, mX_TooAlike⟩
    · exact ⟨gX_TooManyRounds, aX_TooManyRounds, bX_TooManyRounds, dX_TooManyRounds, cX_TooManyRounds, hnO, htO, mX_TooManyRounds⟩
    · exact ⟨gX_UnknownName, aX_UnknownName, bX_UnknownName, dX_UnknownName, cX_UnknownName, hnO, htO, mX_UnknownName⟩
    · exact ⟨gX_UnknownStation, aX_UnknownStation, bX_UnknownStation, dX_UnknownStation, cX_UnknownStation, hnO, htO, mX_UnknownStation⟩
    · exact ⟨gX_UnknownTalk, aX_UnknownTalk, bX_UnknownTalk, dX_UnknownTalk, cX_UnknownTalk, hnO, htO, mX_UnknownTalk⟩
    ), (fun C b h => by
    simp only [sub_Finished] at h
    rcases h with ⟨rfl, rfl⟩ | ⟨rfl, rfl⟩ | ⟨rfl, rfl⟩ | ⟨rfl, rfl⟩ | ⟨rfl, rfl⟩ | ⟨rfl, rfl⟩ | ⟨rfl, rfl⟩ | ⟨rfl, rfl⟩ | ⟨rfl, rfl⟩ | ⟨rfl, rfl⟩ | ⟨rfl, rfl⟩ | ⟨rfl, rfl⟩ | ⟨rfl, rfl⟩ | ⟨rfl, rfl⟩ | ⟨rfl, rfl⟩
    · exact kit_refB icX_Finished tX_Finished sX_Finished_Finished (fun _ => rfl)
    · exact kit_refB icX_Finished tX_Finished sX_Impossible_Finished (fun e => absurd ((beq_iff_eq.mpr e).symm.trans nX_Impossible_Finished) (by decide))
    · exact kit_refB icX_Finished tX_Finished sX_InvalidChange_Finished (fun e => absurd ((beq_iff_eq.mpr e).symm.trans nX_InvalidChange_Finished) (by decide))
    · exact kit_refB icX_Finished tX_Finished sX_InvalidCommand_Finished (fun e => absurd ((beq_iff_eq.mpr e).symm.trans nX_InvalidCommand_Finished) (by decide))
    · exact kit_refB icX_Finished tX_Finished sX_InvalidLink_Finished (fun e => absurd ((beq_iff_eq.mpr e).symm.trans nX_InvalidLink_Finished) (by decide))
    · exact kit_refB icX_Finished tX_Finished sX_InvalidTable_Finished (fun e => absurd ((beq_iff_eq.mpr e).symm.trans nX_InvalidTable_Finished) (by decide))
    · exact kit_refB icX_Finished tX_Finished sX_InvalidText_Finished (fun e => absurd ((beq_iff_eq.mpr e).symm.trans nX_InvalidText_Finished) (by decide))
    · exact kit_refB icX_Finished tX_Finished sX_NameTaken_Finished (fun e => absurd ((beq_iff_eq.mpr e).symm.trans nX_NameTaken_Finished) (by decide))
    · exact kit_refB icX_Finished tX_Finished sX_NotItsTurn_Finished (fun e => absurd ((beq_iff_eq.mpr e).symm.trans nX_NotItsTurn_Finished) (by decide))
    · exact kit_refB icX_Finished tX_Finished sX_PurseExceeded_Finished (fun e => absurd ((beq_iff_eq.mpr e).symm.trans nX_PurseExceeded_Finished) (by decide))
    · exact kit_refB icX_Finished tX_Finished sX_TooAlike_Finished (fun e => absurd ((beq_iff_eq.mpr e).symm.trans nX_TooAlike_Finished) (by decide))
    · exact kit_refB icX_Finished tX_Finished sX_TooManyRounds_Finished (fun e => absurd ((beq_iff_eq.mpr e).symm.trans nX_TooManyRounds_Finished) (by decide))
    · exact kit_refB icX_Finished tX_Finished sX_UnknownName_Finished (fun e => absurd ((beq_iff_eq.mpr e).symm.trans nX_UnknownName_Finished) (by decide))
    · exact kit_refB icX_Finished tX_Finished sX_UnknownStation_Finished (fun e => absurd ((beq_iff_eq.mpr e).symm.trans nX_UnknownStation_Finished) (by decide))
    · exact kit_refB icX_Finished tX_Finished sX_UnknownTalk_Finished (fun e => absurd ((beq_iff_eq.mpr e).symm.trans nX_UnknownTalk_Finished) (by decide))
    ), (fun C b h => by
    simp only [sub_Impossible] at h
    rcases h with ⟨rfl, rfl⟩ | ⟨rfl, rfl⟩ | ⟨rfl, rfl⟩ | ⟨rfl, rfl⟩ | ⟨rfl, rfl⟩ | ⟨rfl, rfl⟩ | ⟨rfl, rfl⟩ | ⟨rfl, rfl⟩ | ⟨rfl, rfl⟩ | ⟨rfl, rfl⟩ | ⟨rfl, rfl⟩ | ⟨rfl, rfl⟩ | ⟨rfl, rfl⟩ | ⟨rfl, rfl⟩ | ⟨rfl, rfl⟩
    · exact kit_refB icX_Impossible tX_Impossible sX_Finished_Impossible (fun e => absurd ((beq_iff_eq.mpr e).symm.trans nX_Finished_Impossible) (by decide))
    · exact kit_refB icX_Impossible tX_Impossible sX_Impossible_Impossible (fun _ => rfl)
    · exact kit_refB icX_Impossible tX_Impossible sX_InvalidChange_Impossible (fun e => absurd ((beq_iff_eq.mpr e).symm.trans nX_InvalidChange_Impossible) (by decide))
    · exact kit_refB icX_Impossible tX_Impossible sX_InvalidCommand_Impossible (fun e => absurd ((beq_iff_eq.mpr e).symm.trans nX_InvalidCommand_Impossible) (by decide))
    · exact kit_refB icX_Impossible tX_Impossible sX_InvalidLink_Impossible (fun e => absurd ((beq_iff_eq.mpr e).symm.trans nX_InvalidLink_Impossible) (by decide))
    · exact kit_refB icX_Impossible tX_Impossible sX_InvalidTable_Impossible (fun e => absurd ((beq_iff_eq.mpr e).symm.trans nX_InvalidTable_Impossible) (by decide))
    · exact kit_refB icX_Impossible tX_Impossible sX_InvalidText_Impossible (fun e => absurd ((beq_iff_eq.mpr e).symm.trans nX_InvalidText_Impossible) (by decide))
    · exact kit_refB icX_Impossible tX_Impossible sX_NameTaken_Impossible (fun e => absurd ((beq_iff_eq.mpr e).symm.trans nX_NameTaken_Impossible) (by decide))
    · exact kit_refB icX_Impossible tX_Impossible sX_NotItsTurn_Impossible (fun e => absurd ((beq_iff_eq.mpr e).symm.trans nX_NotItsTurn_Impossible) (by decide))
    · exact kit_refB icX_Impossible tX_Impossible sX_PurseExceeded_Impossible (fun e => absurd ((beq_iff_eq.mpr e).symm.trans nX_PurseExceeded_Impossible) (by decide))
    · exact kit_refB icX_Impossible tX_Impossible sX_TooAlike_Impossible (fun e => absurd ((beq_iff_eq.mpr e).symm.trans nX_TooAlike_Impossible) (by decide))
    · exact kit_refB icX_Impossible tX_Impossible sX_TooManyRounds_Impossible (fun e => absurd ((beq_iff_eq.mpr e).symm.trans nX_TooManyRounds_Impossible) (by decide))
    · exact kit_refB icX_Impossible tX_Impossible sX_UnknownName_Impossible (fun e => absurd ((beq_iff_eq.mpr e).symm.trans nX_UnknownName_Impossible) (by decide))
    · exact kit_refB icX_Impossible tX_Impossible sX_UnknownStation_Impossible (fun e => absurd ((beq_iff_eq.mpr e).symm.trans nX_UnknownStation_Impossible) (by decide))
    · exact kit_refB icX_Impossible tX_Impossible sX_UnknownTalk_Impossible (fun e => absurd ((beq_iff_eq.mpr e).symm.trans nX_UnknownTalk_Impossible) (by decide))
    ), (fun C b h => by
    simp only [sub_IndexError] at h
    rcases h with ⟨rfl, rfl⟩ | ⟨rfl, rfl⟩ | ⟨rfl, rfl⟩ | ⟨rfl, rfl⟩ | ⟨rfl, rfl⟩ | ⟨rfl, rfl⟩ | ⟨rfl, rfl⟩ | ⟨rfl, rfl⟩ | ⟨rfl, rfl⟩ | ⟨rfl, rfl⟩ | ⟨rfl, rfl⟩ | ⟨rfl, rfl⟩ | ⟨rfl, rfl⟩ | ⟨rfl, rfl⟩ | ⟨rfl, rfl⟩
    · exact kit_tyB (by decide +kernel) sB_Finished_IndexError
    · exact kit_tyB (by decide +kernel) sB_Impossible_IndexError
    · exact kit_tyB (by decide +kernel) sB_InvalidChange_IndexError
    · exact kit_tyB (by decide +kernel) sB_InvalidCommand_IndexError
    · exact kit_tyB (by decide +kernel) sB_InvalidLink_IndexError
    · exact kit_tyB (by decide +kernel) sB_InvalidTable_IndexError
    · exact kit_tyB (by decide +kernel) sB_InvalidText_IndexError
    · exact kit_tyB (by decide +kernel) sB_NameTaken_IndexError
    · exact kit_tyB (by decide +kernel) sB_NotItsTurn_IndexError
    · exact kit_tyB (by decide +kernel) sB_PurseExceeded_IndexError
    · exact kit_tyB (by decide +kernel) sB_TooAlike_IndexError
    · exact kit_tyB (by decide +kernel) sB_TooManyRounds_IndexError
    · exact kit_tyB (by decide +kernel) sB_UnknownName_IndexError
    · exact kit_tyB (by decide +kernel) sB_UnknownStation_IndexError
    · exact kit_tyB (by decide +kernel) sB_UnknownTalk_IndexError
    ), (fun C b h => by
    simp only [sub_InvalidChange] at h
    rcases h with ⟨rfl, rfl⟩ | ⟨rfl, rfl⟩ | ⟨rfl, rfl⟩ | ⟨rfl, rfl⟩ | ⟨rfl, rfl⟩ | ⟨rfl, rfl⟩ | ⟨rfl, rfl⟩ | ⟨rfl, rfl⟩ | ⟨rfl, rfl⟩ | ⟨rfl, rfl⟩ | ⟨rfl, rfl⟩ | ⟨rfl, rfl⟩ | ⟨rfl, rfl⟩ | ⟨rfl, rfl⟩ | ⟨rfl, rfl⟩
    · exact kit_refB icX_InvalidChange tX_InvalidChange sX_Finished_InvalidChange (fun e => absurd ((beq_iff_eq.mpr e).symm.trans nX_Finished_InvalidChange) (by decide))
    · exact kit_refB icX_InvalidChange tX_InvalidChange sX_Impossible_InvalidChange (fun e => absurd ((beq_iff_eq.mpr e).symm.trans nX_Impossible_InvalidChange) (by decide))
    · exact kit_refB icX_InvalidChange tX_InvalidChange sX_InvalidChange_InvalidChange (fun _ => rfl)
    · exact kit_refB icX_InvalidChange tX_InvalidChange sX_InvalidCommand_InvalidChange (fun e => absurd ((beq_iff_eq.mpr e).symm.trans nX_InvalidCommand_InvalidChange) (by decide))
    · exact kit_refB icX_InvalidChange tX_InvalidChange sX_InvalidLink_InvalidChange (fun e => absurd ((beq_iff_eq.mpr e).symm.trans nX_InvalidLink_InvalidChange) (by decide))
    · exact kit_refB icX_InvalidChange tX_InvalidChange sX_InvalidTable_InvalidChange (fun e => absurd ((beq_iff_eq.mpr e).symm.trans nX_InvalidTable_InvalidChange) (by decide))
    · exact kit_refB icX_InvalidChange tX_InvalidChange sX_InvalidText_InvalidChange (fun e => absurd ((beq_iff_eq.mpr e).symm.trans nX_InvalidText_InvalidChange) (by decide))
    · exact kit_refB icX_InvalidChange tX_InvalidChange sX_NameTaken_InvalidChange (fun e => absurd ((beq_iff_eq.mpr e).symm.trans nX_NameTaken_InvalidChange) (by decide))
    · exact kit_refB icX_InvalidChange tX_InvalidChange sX_NotItsTurn_InvalidChange (fun e => absurd ((beq_iff_eq.mpr e).symm.trans nX_NotItsTurn_InvalidChange) (by decide))
    · exact kit_refB icX_InvalidChange tX_InvalidChange sX_PurseExceeded_InvalidChange (fun e => absurd ((beq_iff_eq.mpr e).symm.trans nX_PurseExceeded_InvalidChange) (by decide))
    · exact kit_refB icX_InvalidChange tX_InvalidChange sX_TooAlike_InvalidChange (fun e => absurd ((beq_iff_eq.mpr e).symm.trans nX_TooAlike_InvalidChange) (by decide))
    · exact kit_refB icX_InvalidChange tX_InvalidChange sX_TooManyRounds_InvalidChange (fun e => absurd ((beq_iff_eq.mpr e).symm.trans nX_TooManyRounds_InvalidChange) (by decide))
    · exact kit_refB icX_InvalidChange tX_InvalidChange sX_UnknownName_InvalidChange (fun e => absurd ((beq_iff_eq.mpr e).symm.trans nX_UnknownName_InvalidChange) (by decide))
    · exact kit_refB icX_InvalidChange tX_InvalidChange sX_UnknownStation_InvalidChange (fun e => absurd ((beq_iff_eq.mpr e).symm.trans nX_UnknownStation_InvalidChange) (by decide))
    · exact kit_refB icX_InvalidChange tX_InvalidChange sX_UnknownTalk_InvalidChange (fun e => absurd ((beq_iff_eq.mpr e).symm.trans nX_UnknownTalk_InvalidChange) (by decide))
    ), (fun C b h => by
    simp only [sub_InvalidCommand] at h
    rcases h with ⟨rfl, rfl⟩ | ⟨rfl, rfl⟩ | ⟨rfl, rfl⟩ | ⟨rfl, rfl⟩ | ⟨rfl, rfl⟩ | ⟨rfl, rfl⟩ | ⟨rfl, rfl⟩ | ⟨rfl, rfl⟩ | ⟨rfl, rfl⟩ | ⟨rfl, rfl⟩ | ⟨rfl, rfl⟩ | ⟨rfl, rfl⟩ | ⟨rfl, rfl⟩ | ⟨rfl, rfl⟩ | ⟨rfl, rfl⟩
    · exact kit_refB icX_InvalidCommand tX_InvalidCommand sX_Finished_InvalidCommand (fun e => absurd ((beq_iff_eq.mpr e).symm.trans nX_Finished_InvalidCommand) (by decide))
    · exact kit_refB icX_InvalidCommand tX_InvalidCommand sX_Impossible_InvalidCommand (fun e => absurd ((beq_iff_eq.mpr e).symm.trans nX_Impossible_InvalidCommand) (by decide))
    · exact kit_refB icX_InvalidCommand tX_InvalidCommand sX_InvalidChange_InvalidCommand (fun e => absurd ((beq_iff_eq.mpr e).symm.trans nX_InvalidChange_InvalidCommand) (by decide))
    · exact kit_refB icX_InvalidCommand tX_InvalidCommand sX_InvalidCommand_InvalidCommand (fun _ => rfl)
    · exact kit_refB icX_InvalidCommand tX_InvalidCommand sX_InvalidLink_InvalidCommand (fun e => absurd ((beq_iff_eq.mpr e).symm.trans nX_InvalidLink_InvalidCommand) (by decide))
    · exact kit_refB icX_InvalidCommand tX_InvalidCommand sX_InvalidTable_InvalidCommand (fun e => absurd ((beq_iff_eq.mpr e).symm.trans nX_InvalidTable_InvalidCommand) (by decide))
    · exact kit_refB icX_InvalidCommand tX_InvalidCommand sX_InvalidText_InvalidCommand (fun e => absurd ((beq_iff_eq.mpr e).symm.trans nX_InvalidText_InvalidCommand) (by decide))
    · exact kit_refB icX_InvalidCommand tX_InvalidCommand sX_NameTaken_InvalidCommand (fun e => absurd ((beq_iff_eq.mpr e).symm.trans nX_NameTaken_InvalidCommand) (by decide))
    · exact kit_refB icX_InvalidCommand tX_InvalidCommand sX_NotItsTurn_InvalidCommand (fun e => absurd ((beq_iff_eq.mpr e).symm.trans nX_NotItsTurn_InvalidCommand) (by decide))
    · exact kit_refB icX_InvalidCommand tX_InvalidCommand sX_PurseExceeded_InvalidCommand (fun e => absurd ((beq_iff_eq.mpr e).symm.trans nX_PurseExceeded_InvalidCommand) (by decide))
    · exact kit_refB icX_InvalidCommand tX_InvalidCommand sX_TooAlike_InvalidCommand (fun e => absurd ((beq_iff_eq.mpr e).symm.trans nX_TooAlike_InvalidCommand) (by decide))
    · exact kit_refB icX_InvalidCommand tX_InvalidCommand sX_TooManyRounds_InvalidCommand (fun e => absurd ((beq_iff_eq.mpr e).symm.trans nX_TooManyRounds_InvalidCommand) (by decide))
    · exact kit_refB icX_InvalidCommand tX_InvalidCommand sX_UnknownName_InvalidCommand (fun e => absurd ((beq_iff_eq.mpr e).symm.trans nX_UnknownName_InvalidCommand) (by decide))
    · exact kit_refB icX_InvalidCommand tX_InvalidCommand sX_UnknownStation_InvalidCommand (fun e => absurd ((beq_iff_eq.mpr e).symm.trans nX_UnknownStation_InvalidCommand) (by decide))
    · exact kit_refB icX_InvalidCommand tX_InvalidCommand sX_UnknownTalk_InvalidCommand (fun e => absurd ((beq_iff_eq.mpr e).symm.trans nX_UnknownTalk_InvalidCommand) (by decide))
    ), (fun C b h => by
    simp only [sub_InvalidLink] at h
    rcases h with ⟨rfl, rfl⟩ | ⟨rfl, rfl⟩ | ⟨rfl, rfl⟩ | ⟨rfl, rfl⟩ | ⟨rfl, rfl⟩ | ⟨rfl, rfl⟩ | ⟨rfl, rfl⟩ | ⟨rfl, rfl⟩ | ⟨rfl, rfl⟩ | ⟨rfl, rfl⟩ | ⟨rfl, rfl⟩ | ⟨rfl, rfl⟩ | ⟨rfl, rfl⟩ | ⟨rfl, rfl⟩ | ⟨rfl, rfl⟩
    · exact kit_refB icX_InvalidLink tX_InvalidLink sX_Finished_InvalidLink (fun e => absurd ((beq_iff_eq.mpr e).symm.trans nX_Finished_InvalidLink) (by decide))
    · exact kit_refB icX_InvalidLink tX_InvalidLink sX_Impossible_InvalidLink (fun e => absurd ((beq_iff_eq.mpr e).symm.trans nX_Impossible_InvalidLink) (by decide))
    · exact kit_refB icX_InvalidLink tX_InvalidLink sX_InvalidChange_InvalidLink (fun e => absurd ((beq_iff_eq.mpr e).symm.trans nX_InvalidChange_InvalidLink) (by decide))
    · exact kit_refB icX_InvalidLink tX_InvalidLink sX_InvalidCommand_InvalidLink (fun e => absurd ((beq_iff_eq.mpr e).symm.trans nX_InvalidCommand_InvalidLink) (by decide))
    · exact kit_refB icX_InvalidLink tX_InvalidLink sX_InvalidLink_InvalidLink (fun _ => rfl)
    · exact kit_refB icX_InvalidLink tX_InvalidLink sX_InvalidTable_InvalidLink (fun e => absurd ((beq_iff_eq.mpr e).symm.trans nX_InvalidTable_InvalidLink) (by decide))
    · exact kit_refB icX_InvalidLink tX_InvalidLink sX_InvalidText_InvalidLink (fun e => absurd ((beq_iff_eq.mpr e).symm.trans nX_InvalidText_InvalidLink) (by decide))
    · exact kit_refB icX_InvalidLink tX_InvalidLink sX_NameTaken_InvalidLink (fun e => absurd ((beq_iff_eq.mpr e).symm.trans nX_NameTaken_InvalidLink) (by decide))
    · exact kit_refB icX_InvalidLink tX_InvalidLink sX_NotItsTurn_InvalidLink (fun e => absurd ((beq_iff_eq.mpr e).symm.trans nX_NotItsTurn_InvalidLink) (by decide))
    · exact kit_refB icX_InvalidLink tX_InvalidLink sX_PurseExceeded_InvalidLink (fun e => absurd ((beq_iff_eq.mpr e).symm.trans nX_PurseExceeded_InvalidLink) (by decide))
    · exact kit_refB icX_InvalidLink tX_InvalidLink sX_TooAlike_InvalidLink (fun e => absurd ((beq_iff_eq.mpr e).symm.trans nX_TooAlike_InvalidLink) (by decide))
    · exact kit_refB icX_InvalidLink tX_InvalidLink sX_TooManyRounds_InvalidLink (fun e => absurd ((beq_iff_eq.mpr e).symm.trans nX_TooManyRounds_InvalidLink) (by decide))
    · exact kit_refB icX_InvalidLink tX_InvalidLink sX_UnknownName_InvalidLink (fun e => absurd ((beq_iff_eq.mpr e).symm.trans nX_UnknownName_InvalidLink) (by decide))
    · exact kit_refB icX_InvalidLink tX_InvalidLink sX_UnknownStation_InvalidLink (fun e => absurd ((beq_iff_eq.mpr e).symm.trans nX_UnknownStation_InvalidLink) (by decide))
    · exact kit_refB icX_InvalidLink tX_InvalidLink sX_UnknownTalk_InvalidLink (fun e => absurd ((beq_iff_eq.mpr e).symm.trans nX_UnknownTalk_InvalidLink) (by decide))
    ), (fun C b h => by
    simp only [sub_InvalidTable] at h
    rcases h with ⟨rfl, rfl⟩ | ⟨rfl, rfl⟩ | ⟨rfl, rfl⟩ | ⟨rfl, rfl⟩ | ⟨rfl, rfl⟩ | ⟨rfl, rfl⟩ | ⟨rfl, rfl⟩ | ⟨rfl, rfl⟩ | ⟨rfl, rfl⟩ | ⟨rfl, rfl⟩ | ⟨rfl, rfl⟩ | ⟨rfl, rfl⟩ | ⟨rfl, rfl⟩ | ⟨rfl, rfl⟩ | ⟨rfl, rfl⟩
    · exact kit_refB icX_InvalidTable tX_InvalidTable sX_Finished_InvalidTable (fun e => absurd ((beq_iff_eq.mpr e).symm.trans nX_Finished_InvalidTable) (by decide))
    · exact kit_refB icX_InvalidTable tX_InvalidTable sX_Impossible_InvalidTable (fun e => absurd ((beq_iff_eq.mpr e).symm.trans nX_Impossible_InvalidTable) (by decide))
    · exact kit_refB icX_InvalidTable tX_InvalidTable sX_InvalidChange_InvalidTable (fun e => absurd ((beq_iff_eq.mpr e).symm.trans nX_InvalidChange_InvalidTable) (by decide))
    · exact kit_refB icX_InvalidTable tX_InvalidTable sX_InvalidCommand_InvalidTable (fun e => absurd ((beq_iff_eq.mpr e).symm.trans nX_InvalidCommand_InvalidTable) (by decide))
    · exact kit_refB icX_InvalidTable tX_InvalidTable sX_InvalidLink_InvalidTable (fun e => absurd ((beq_iff_eq.mpr e).symm.trans nX_InvalidLink_InvalidTable) (by decide))
    · exact kit_refB icX_InvalidTable tX_InvalidTable sX_InvalidTable_InvalidTable (fun _ => rfl)
    · exact kit_refB icX_InvalidTable tX_InvalidTable sX_InvalidText_InvalidTable (fun e => absurd ((beq_iff_eq.mpr e).symm.trans nX_InvalidText_InvalidTable) (by decide))
    · exact kit_refB icX_InvalidTable tX_InvalidTable sX_NameTaken_InvalidTable (fun e => absurd ((beq_iff_eq.mpr e).symm.trans nX_NameTaken_InvalidTable) (by decide))
    · exact kit_refB icX_InvalidTable tX_InvalidTable sX_NotItsTurn_InvalidTable (fun e => absurd ((beq_iff_eq.mpr e).symm.trans nX_NotItsTurn_InvalidTable) (by decide))
    · exact kit_refB icX_InvalidTable tX_InvalidTable sX_PurseExceeded_InvalidTable (fun e => absurd ((beq_iff_eq.mpr e).symm.trans nX_PurseExceeded_InvalidTable) (by decide))
    · exact kit_refB icX_InvalidTable tX_InvalidTable sX_TooAlike_InvalidTable (fun e => absurd ((beq_iff_eq.mpr e).symm.trans nX_TooAlike_InvalidTable) (by decide))
    · exact kit_refB icX_InvalidTable tX_InvalidTable sX_TooManyRounds_InvalidTable (fun e => absurd ((beq_iff_eq.mpr e).symm.trans nX_TooManyRounds_InvalidTable) (by decide))
    · exact kit_refB icX_InvalidTable tX_InvalidTable sX_UnknownName_InvalidTable (fun e => absurd ((beq_iff_eq.mpr e).symm.trans nX_UnknownName_InvalidTable) (by decide))
    · exact kit_refB icX_InvalidTable tX_InvalidTable sX_UnknownStation_InvalidTable (fun e => absurd ((beq_iff_eq.mpr e).symm.trans nX_UnknownStation_InvalidTable) (by decide))
    · exact kit_refB icX_InvalidTable tX_InvalidTable sX_UnknownTalk_InvalidTable (fun e => absurd ((beq_iff_eq.mpr e).symm.trans nX_UnknownTalk_InvalidTable) (by decide))
    ), (fun C b h => by
    simp only [sub_InvalidText] at h
    rcases h with ⟨rfl, rfl⟩ | ⟨rfl, rfl⟩ | ⟨rfl, rfl⟩ | ⟨rfl, rfl⟩ | ⟨rfl, rfl⟩ | ⟨rfl, rfl⟩ | ⟨rfl, rfl⟩ | ⟨rfl, rfl⟩ | ⟨rfl, rfl⟩ | ⟨rfl, rfl⟩ | ⟨rfl, rfl⟩ | ⟨rfl, rfl⟩ | ⟨rfl, rfl⟩ | ⟨rfl, rfl⟩ | ⟨rfl, rfl⟩
    · exact kit_refB icX_InvalidText tX_InvalidText sX_Finished_InvalidText (fun e => absurd ((beq_iff_eq.mpr e).symm.trans nX_Finished_InvalidText) (by decide))
    · exact kit_refB icX_InvalidText tX_InvalidText sX_Impossible_InvalidText (fun e => absurd ((beq_iff_eq.mpr e).symm.trans nX_Impossible_InvalidText) (by decide))
    · exact kit_refB icX_InvalidText tX_InvalidText sX_InvalidChange_InvalidText (fun e => absurd ((beq_iff_eq.mpr e).symm.trans nX_InvalidChange_InvalidText) (by decide))
    · exact kit_refB icX_InvalidText tX_InvalidText sX_InvalidCommand_InvalidText (fun e => absurd ((beq_iff_eq.mpr e).symm.trans nX_InvalidCommand_InvalidText) (by decide))
    · exact kit_refB icX_InvalidText tX_InvalidText sX_InvalidLink_InvalidText (fun e => absurd ((beq_iff_eq.mpr e).symm.trans nX_InvalidLink_InvalidText) (by decide))
    · exact kit_refB icX_InvalidText tX_InvalidText sX_InvalidTable_InvalidText (fun e => absurd ((beq_iff_eq.mpr e).symm.trans nX_InvalidTable_InvalidText) (by decide))
    · exact kit_refB icX_InvalidText tX_InvalidText sX_InvalidText_InvalidText (fun _ => rfl)
    · exact kit_refB icX_InvalidText tX_InvalidText sX_NameTaken_InvalidText (fun e => absurd ((beq_iff_eq.mpr e).symm.trans nX_NameTaken_InvalidText) (by decide))
    · exact kit_refB icX_InvalidText tX_InvalidText sX_NotItsTurn_InvalidText (fun e => absurd ((beq_iff_eq.mpr e).symm.trans nX_NotItsTurn_InvalidText) (by decide))
    · exact kit_refB icX_InvalidText tX_InvalidText sX_PurseExceeded_InvalidText (fun e => absurd ((beq_iff_eq.mpr e).symm.trans nX_PurseExceeded_InvalidText) (by decide))
    · exact kit_refB icX_InvalidText tX_InvalidText sX_TooAlike_InvalidText (fun e => absurd ((beq_iff_eq.mpr e).symm.trans nX_TooAlike_InvalidText) (by decide))
    · exact kit_refB icX_InvalidText tX_InvalidText sX_TooManyRounds_InvalidText (fun e => absurd ((beq_iff_eq.mpr e).symm.trans nX_TooManyRounds_InvalidText) (by decide))
    · exact kit_refB icX_InvalidText tX_InvalidText sX_UnknownName_InvalidText (fun e => absurd ((beq_iff_eq.mpr e).symm.trans nX_UnknownName_InvalidText) (by decide))
    · exact kit_refB icX_InvalidText tX_InvalidText sX_UnknownStation_InvalidText (fun e => absurd ((beq_iff_eq.mpr e).symm.trans nX_UnknownStation_InvalidText) (by decide))
    · exact kit_refB icX_InvalidText tX_InvalidText sX_UnknownTalk_InvalidText (fun e => absurd ((beq_iff_eq.mpr e).symm.trans nX_UnknownTalk_InvalidText) (by decide))
    ), (fun C b h => by
    simp only [sub_KeyError] at h
    rcases h with ⟨rfl, rfl⟩ | ⟨rfl, rfl⟩ | ⟨rfl, rfl⟩ | ⟨rfl, rfl⟩ | ⟨rfl, rfl⟩ | ⟨rfl, rfl⟩ | ⟨rfl, rfl⟩ | ⟨rfl, rfl⟩ | ⟨rfl, rfl⟩ | ⟨rfl, rfl⟩ | ⟨rfl, rfl⟩ | ⟨rfl, rfl⟩ | ⟨rfl, rfl⟩ | ⟨rfl, rfl⟩ | ⟨rfl, rfl⟩
    · exact kit_tyB (by decide +kernel) sB_Finished_KeyError
    · exact kit_tyB (by decide +kernel) sB_Impossible_KeyError
    · exact kit_tyB (by decide +kernel) sB_InvalidChange_KeyError
    · exact kit_tyB (by decide +kernel) sB_InvalidCommand_KeyError
    · exact kit_tyB (by decide +kernel) sB_InvalidLink_KeyError
    · exact kit_tyB (by decide +kernel) sB_InvalidTable_KeyError
    · exact kit_tyB (by decide +kernel) sB_InvalidText_KeyError
    · exact kit_tyB (by decide +kernel) sB_NameTaken_KeyError
    · exact kit_tyB (by decide +kernel) sB_NotItsTurn_KeyError
    · exact kit_tyB (by decide +kernel) sB_PurseExceeded_KeyError
    · exact kit_tyB (by decide +kernel) sB_TooAlike_KeyError
    · exact kit_tyB (by decide +kernel) sB_TooManyRounds_KeyError
    · exact kit_tyB (by decide +kernel) sB_UnknownName_KeyError
    · exact kit_tyB (by decide +kernel) sB_UnknownStation_KeyError
    · exact kit_tyB (by decide +kernel) sB_UnknownTalk_KeyError
    ), (fun C b h => by
    simp only [sub_NameTaken] at h
    rcases h with ⟨rfl, rfl⟩ | ⟨rfl, rfl⟩ | ⟨rfl, rfl⟩ | ⟨rfl, rfl⟩ | ⟨rfl, rfl⟩ | ⟨rfl, rfl⟩ | ⟨rfl, rfl⟩ | ⟨rfl, rfl⟩ | ⟨rfl, rfl⟩ | ⟨rfl, rfl⟩ | ⟨rfl, rfl⟩ | ⟨rfl, rfl⟩ | ⟨rfl, rfl⟩ | ⟨rfl, rfl⟩ | ⟨rfl, rfl⟩
    · exact kit_refB icX_NameTaken tX_NameTaken sX_Finished_NameTaken (fun e => absurd ((beq_iff_eq.mpr e).symm.trans nX_Finished_NameTaken) (by decide))
    · exact kit_refB icX_NameTaken tX_NameTaken sX_Impossible_NameTaken (fun e => absurd ((beq_iff_eq.mpr e).symm.trans nX_Impossible_NameTaken) (by decide))
    · exact kit_refB icX_NameTaken tX_NameTaken sX_InvalidChange_NameTaken (fun e => absurd ((beq_iff_eq.mpr e).symm.trans nX_InvalidChange_NameTaken) (by decide))
    · exact kit_refB icX_NameTaken tX_NameTaken sX_InvalidCommand_NameTaken (fun e => absurd ((beq_iff_eq.mpr e).symm.trans nX_InvalidCommand_NameTaken) (by decide))
    · exact kit_refB icX_NameTaken tX_NameTaken sX_InvalidLink_NameTaken (fun e => absurd ((beq_iff_eq.mpr e).symm.trans nX_InvalidLink_NameTaken) (by decide))
    · exact kit_refB icX_NameTaken tX_NameTaken sX_InvalidTable_NameTaken (fun e => absurd ((beq_iff_eq.mpr e).symm.trans nX_InvalidTable_NameTaken) (by decide))
    · exact kit_refB icX_NameTaken tX_NameTaken sX_InvalidText_NameTaken (fun e => absurd ((beq_iff_eq.mpr e).symm.trans nX_InvalidText_NameTaken) (by decide))
    · exact kit_refB icX_NameTaken tX_NameTaken sX_NameTaken_NameTaken (fun _ => rfl)
    · exact kit_refB icX_NameTaken tX_NameTaken sX_NotItsTurn_NameTaken (fun e => absurd ((beq_iff_eq.mpr e).symm.trans nX_NotItsTurn_NameTaken) (by decide))
    · exact kit_refB icX_NameTaken tX_NameTaken sX_PurseExceeded_NameTaken (fun e => absurd ((beq_iff_eq.mpr e).symm.trans nX_PurseExceeded_NameTaken) (by decide))
    · exact kit_refB icX_NameTaken tX_NameTaken sX_TooAlike_NameTaken (fun e => absurd ((beq_iff_eq.mpr e).symm.trans nX_TooAlike_NameTaken) (by decide))
    · exact kit_refB icX_NameTaken tX_NameTaken sX_TooManyRounds_NameTaken (fun e => absurd ((beq_iff_eq.mpr e).symm.trans nX_TooManyRounds_NameTaken) (by decide))
    · exact kit_refB icX_NameTaken tX_NameTaken sX_UnknownName_NameTaken (fun e => absurd ((beq_iff_eq.mpr e).symm.trans nX_UnknownName_NameTaken) (by decide))
    · exact kit_refB icX_NameTaken tX_NameTaken sX_UnknownStation_NameTaken (fun e => absurd ((beq_iff_eq.mpr e).symm.trans nX_UnknownStation_NameTaken) (by decide))
    · exact kit_refB icX_NameTaken tX_NameTaken sX_UnknownTalk_NameTaken (fun e => absurd ((beq_iff_eq.mpr e).symm.trans nX_UnknownTalk_NameTaken) (by decide))
    ), (fun C b h => by
    simp only [sub_NotItsTurn] at h
    rcases h with ⟨rfl, rfl⟩ | ⟨rfl, rfl⟩ | ⟨rfl, rfl⟩ | ⟨rfl, rfl⟩ | ⟨rfl, rfl⟩ | ⟨rfl, rfl⟩ | ⟨rfl, rfl⟩ | ⟨rfl, rfl⟩ | ⟨rfl, rfl⟩ | ⟨rfl, rfl⟩ | ⟨rfl, rfl⟩ | ⟨rfl, rfl⟩ | ⟨rfl, rfl⟩ | ⟨rfl, rfl⟩ | ⟨rfl, rfl⟩
    · exact kit_refB icX_NotItsTurn tX_NotItsTurn sX_Finished_NotItsTurn (fun e => absurd ((beq_iff_eq.mpr e).symm.trans nX_Finished_NotItsTurn) (by decide))
    · exact kit_refB icX_NotItsTurn tX_NotItsTurn sX_Impossible_NotItsTurn (fun e => absurd ((beq_iff_eq.mpr e).symm.trans nX_Impossible_NotItsTurn) (by decide))
    · exact kit_refB icX_NotItsTurn tX_NotItsTurn sX_InvalidChange_NotItsTurn (fun e => absurd ((beq_iff_eq.mpr e).symm.trans nX_InvalidChange_NotItsTurn) (by decide))
    · exact kit_refB icX_NotItsTurn tX_NotItsTurn sX_InvalidCommand_NotItsTurn (fun e => absurd ((beq_iff_eq.mpr e).symm.trans nX_InvalidCommand_NotItsTurn) (by decide))
    · exact kit_refB icX_NotItsTurn tX_NotItsTurn sX_InvalidLink_NotItsTurn (fun e => absurd ((beq_iff_eq.mpr e).symm.trans nX_InvalidLink_NotItsTurn) (by decide))
    · exact kit_refB icX_NotItsTurn tX_NotItsTurn sX_InvalidTable_NotItsTurn (fun e => absurd ((beq_iff_eq.mpr e).symm.trans nX_InvalidTable_NotItsTurn) (by decide))
    · exact kit_refB icX_NotItsTurn tX_NotItsTurn sX_InvalidText_NotItsTurn (fun e => absurd ((beq_iff_eq.mpr e).symm.trans nX_InvalidText_NotItsTurn) (by decide))
    · exact kit_refB icX_NotItsTurn tX_NotItsTurn sX_NameTaken_NotItsTurn (fun e => absurd ((beq_iff_eq.mpr e).symm.trans nX_NameTaken_NotItsTurn) (by decide))
    · exact kit_refB icX_NotItsTurn tX_NotItsTurn sX_NotItsTurn_NotItsTurn (fun _ => rfl)
    · exact kit_refB icX_NotItsTurn tX_NotItsTurn sX_PurseExceeded_NotItsTurn (fun e => absurd ((beq_iff_eq.mpr e).symm.trans nX_PurseExceeded_NotItsTurn) (by decide))
    · exact kit_refB icX_NotItsTurn tX_NotItsTurn sX_TooAlike_NotItsTurn (fun e => absurd ((beq_iff_eq.mpr e).symm.trans nX_TooAlike_NotItsTurn) (by decide))
    · exact kit_refB icX_NotItsTurn tX_NotItsTurn sX_TooManyRounds_NotItsTurn (fun e => absurd ((beq_iff_eq.mpr e).symm.trans nX_TooManyRounds_NotItsTurn) (by decide))
    · exact kit_refB icX_NotItsTurn tX_NotItsTurn sX_UnknownName_NotItsTurn (fun e => absurd ((beq_iff_eq.mpr e).symm.trans nX_UnknownName_NotItsTurn) (by decide))
    · exact kit_refB icX_NotItsTurn tX_NotItsTurn sX_UnknownStation_NotItsTurn (fun e => absurd ((beq_iff_eq.mpr e).symm.trans nX_UnknownStation_NotItsTurn) (by decide))
    · exact kit_refB icX_NotItsTurn tX_NotItsTurn sX_UnknownTalk_NotItsTurn (fun e => absurd ((beq_iff_eq.mpr e).symm.trans nX_UnknownTalk_NotItsTurn) (by decide))
    ), (fun C b h => by
    simp only [sub_PurseExceeded] at h
    rcases h with ⟨rfl, rfl⟩ | ⟨rfl, rfl⟩ | ⟨rfl, rfl⟩ | ⟨rfl, rfl⟩ | ⟨rfl, rfl⟩ | ⟨rfl, rfl⟩ | ⟨rfl, rfl⟩ | ⟨rfl, rfl⟩ | ⟨rfl, rfl⟩ | ⟨rfl, rfl⟩ | ⟨rfl, rfl⟩ | ⟨rfl, rfl⟩ | ⟨rfl, rfl⟩ | ⟨rfl, rfl⟩ | ⟨rfl, rfl⟩
    · exact kit_refB icX_PurseExceeded tX_PurseExceeded sX_Finished_PurseExceeded (fun e => absurd ((beq_iff_eq.mpr e).symm.trans nX_Finished_PurseExceeded) (by decide))
    · exact kit_refB icX_PurseExceeded tX_PurseExceeded sX_Impossible_PurseExceeded (fun e => absurd ((beq_iff_eq.mpr e).symm.trans nX_Impossible_PurseExceeded) (by decide))
    · exact kit_refB icX_PurseExceeded tX_PurseExceeded sX_InvalidChange_PurseExceeded (fun e => absurd ((beq_iff_eq.mpr e).symm.trans nX_InvalidChange_PurseExceeded) (by decide))
    · exact kit_refB icX_PurseExceeded tX_PurseExceeded sX_InvalidCommand_PurseExceeded (fun e => absurd ((beq_iff_eq.mpr e).symm.trans nX_InvalidCommand_PurseExceeded) (by decide))
    · exact kit_refB icX_PurseExceeded tX_PurseExceeded sX_InvalidLink_PurseExceeded (fun e => absurd ((beq_iff_eq.mpr e).symm.trans nX_InvalidLink_PurseExceeded) (by decide))
    · exact kit_refB icX_PurseExceeded tX_PurseExceeded sX_InvalidTable_PurseExceeded (fun e => absurd ((beq_iff_eq.mpr e).symm.trans nX_InvalidTable_PurseExceeded) (by decide))
    · exact kit_refB icX_PurseExceeded tX_PurseExceeded sX_InvalidText_PurseExceeded (fun e => absurd ((beq_iff_eq.mpr e).symm.trans nX_InvalidText_PurseExceeded) (by decide))
    · exact kit_refB icX_PurseExceeded tX_PurseExceeded sX_NameTaken_PurseExceeded (fun e => absurd ((beq_iff_eq.mpr e).symm.trans nX_NameTaken_PurseExceeded) (by decide))
    · exact kit_refB icX_PurseExceeded tX_PurseExceeded sX_NotItsTurn_PurseExceeded (fun e => absurd ((beq_iff_eq.mpr e).symm.trans nX_NotItsTurn_PurseExceeded) (by decide))
    · exact kit_refB icX_PurseExceeded tX_PurseExceeded sX_PurseExceeded_PurseExceeded (fun _ => rfl)
    · exact kit_refB icX_PurseExceeded tX_PurseExceeded sX_TooAlike_PurseExceeded (fun e => absurd ((beq_iff_eq.mpr e).symm.trans nX_TooAlike_PurseExceeded) (by decide))
    · exact kit_refB icX_PurseExceeded tX_PurseExceeded sX_TooManyRounds_PurseExceeded (fun e => absurd ((beq_iff_eq.mpr e).symm.trans nX_TooManyRounds_PurseExceeded) (by decide))
    · exact kit_refB icX_PurseExceeded tX_PurseExceeded sX_UnknownName_PurseExceeded (fun e => absurd ((beq_iff_eq.mpr e).symm.trans nX_UnknownName_PurseExceeded) (by decide))
    · exact kit_refB icX_PurseExceeded tX_PurseExceeded sX_UnknownStation_PurseExceeded (fun e => absurd ((beq_iff_eq.mpr e).symm.trans nX_UnknownStation_PurseExceeded) (by decide))
    · exact kit_refB icX_PurseExceeded tX_PurseExceeded sX_UnknownTalk_PurseExceeded (fun e => absurd ((beq_iff_eq.mpr e).symm.trans nX_UnknownTalk_PurseExceeded) (by decide))
    ), (fun C b h => by
    simp only [sub_TooAlike] at h
    rcases h with ⟨rfl, rfl⟩ | ⟨rfl, rfl⟩ | ⟨rfl, rfl⟩ | ⟨rfl, rfl⟩ | ⟨rfl, rfl⟩ | ⟨rfl, rfl⟩ | ⟨rfl, rfl⟩ | ⟨rfl, rfl⟩ | ⟨rfl, rfl⟩ | ⟨rfl, rfl⟩ | ⟨rfl, rfl⟩ | ⟨rfl, rfl⟩ | ⟨rfl, rfl⟩ | ⟨rfl, rfl⟩ | ⟨rfl, rfl⟩
    · exact kit_refB icX_TooAlike tX_TooAlike sX_Finished_TooAlike (fun e => absurd ((beq_iff_eq.mpr e).symm.trans nX_Finished_TooAlike) (by decide))
    · exact kit_refB icX_TooAlike tX_TooAlike sX_Impossible_TooAlike (fun e => absurd ((beq_iff_eq.mpr e).symm.trans nX_Impossible_TooAlike) (by decide))
    · exact kit_refB icX_TooAlike tX_TooAlike sX_InvalidChange_TooAlike (fun e => absurd ((beq_iff_eq.mpr e).symm.trans nX_InvalidChange_TooAlike) (by decide))
    · exact kit_refB icX_TooAlike tX_TooAlike sX_InvalidCommand_TooAlike (fun e => absurd ((beq_iff_eq.mpr e).symm.trans nX_InvalidCommand_TooAlike) (by decide))
    · exact kit_refB icX_TooAlike tX_TooAlike sX_InvalidLink_TooAlike (fun e => absurd ((beq_iff_eq.mpr e).symm.trans nX_InvalidLink_TooAlike) (by decide))
    · exact kit_refB icX_TooAlike tX_TooAlike sX_InvalidTable_TooAlike (fun e => absurd ((beq_iff_eq.mpr e).symm.trans nX_InvalidTable_TooAlike) (by decide))
    · exact kit_refB icX_TooAlike tX_TooAlike sX_InvalidText_TooAlike (fun e => absurd ((beq_iff_eq.mpr e).symm.trans nX_InvalidText_TooAlike) (by decide))
    · exact kit_refB icX_TooAlike tX_TooAlike sX_NameTaken_TooAlike (fun e => absurd ((beq_iff_eq.mpr e).symm.trans nX_NameTaken_TooAlike) (by decide))
    · exact kit_refB icX_TooAlike tX_TooAlike sX_NotItsTurn_TooAlike (fun e => absurd ((beq_iff_eq.mpr e).symm.trans nX_NotItsTurn_TooAlike) (by decide))
    · exact kit_refB icX_TooAlike tX_TooAlike sX_PurseExceeded_TooAlike (fun e => absurd ((beq_iff_eq.mpr e).symm.trans nX_PurseExceeded_TooAlike) (by decide))
    · exact kit_refB icX_TooAlike tX_TooAlike sX_TooAlike_TooAlike (fun _ => rfl)
    · exact kit_refB icX_TooAlike tX_TooAlike sX_TooManyRounds_TooAlike (fun e => absurd ((beq_iff_eq.mpr e).symm.trans nX_TooManyRounds_TooAlike) (by decide))
    · exact kit_refB icX_TooAlike tX_TooAlike sX_UnknownName_TooAlike (fun e => absurd ((beq_iff_eq.mpr e).symm.trans nX_UnknownName_TooAlike) (by decide))
    · exact kit_refB icX_TooAlike tX_TooAlike sX_UnknownStation_TooAlike (fun e => absurd ((beq_iff_eq.mpr e).symm.trans nX_UnknownStation_TooAlike) (by decide))
    · exact kit_refB icX_TooAlike tX_TooAlike sX_UnknownTalk_TooAlike (fun e => absurd ((beq_iff_eq.mpr e).symm.trans nX_UnknownTalk_TooAlike) (by decide))
    ), (fun C b h => by
    simp only [sub_TooManyRounds] at h
    rcases h with ⟨rfl, rfl⟩ | ⟨rfl, rfl⟩ | ⟨rfl, rfl⟩ | ⟨rfl, rfl⟩ | ⟨rfl, rfl⟩ | ⟨rfl, rfl⟩ | ⟨rfl, rfl⟩ | ⟨rfl, rfl⟩ | ⟨rfl, rfl⟩ | ⟨rfl, rfl⟩ | ⟨rfl, rfl⟩ | ⟨rfl, rfl⟩ | ⟨rfl, rfl⟩ | ⟨rfl, rfl⟩ | ⟨rfl, rfl⟩
    · exact kit_refB icX_TooManyRounds tX_TooManyRounds sX_Finished_TooManyRounds (fun e => absurd ((beq_iff_eq.mpr e).symm.trans nX_Finished_TooManyRounds) (by decide))
    · exact kit_refB icX_TooManyRounds tX_TooManyRounds sX_Impossible_TooManyRounds (fun e => absurd ((beq_iff_eq.mpr e).symm.trans nX_Impossible_TooManyRounds) (by decide))
    · exact kit_refB icX_TooManyRounds tX_TooManyRounds sX_InvalidChange_TooManyRounds (fun e => absurd ((beq_iff_eq.mpr e).symm.trans nX_InvalidChange_TooManyRounds) (by decide))
    · exact kit_refB icX_TooManyRounds tX_TooManyRounds sX_InvalidCommand_TooManyRounds (fun e => absurd ((beq_iff_eq.mpr e).symm.trans nX_InvalidCommand_TooManyRounds) (by decide))
    · exact kit_refB icX_TooManyRounds tX_TooManyRounds sX_InvalidLink_TooManyRounds (fun e => absurd ((beq_iff_eq.mpr e).symm.trans nX_InvalidLink_TooManyRounds) (by decide))
    · exact kit_refB icX_TooManyRounds tX_TooManyRounds sX_InvalidTable_TooManyRounds (fun e => absurd ((beq_iff_eq.mpr e).symm.trans nX_InvalidTable_TooManyRounds) (by decide))
    · exact kit_refB icX_TooManyRounds tX_TooManyRounds sX_InvalidText_TooManyRounds (fun e => absurd ((beq_iff_eq.mpr e).symm.trans nX_InvalidText_TooManyRounds) (by decide))
    · exact kit_refB icX_TooManyRounds tX_TooManyRounds sX_NameTaken_TooManyRounds (fun e => absurd ((beq_iff_eq.mpr e).symm.trans nX_NameTaken_TooManyRounds) (by decide))
    · exact kit_refB icX_TooManyRounds tX_TooManyRounds sX_NotItsTurn_TooManyRounds (fun e => absurd ((beq_iff_eq.mpr e).symm.trans nX_NotItsTurn_TooManyRounds) (by decide))
    · exact kit_refB icX_TooManyRounds tX_TooManyRounds sX_PurseExceeded_TooManyRounds (fun e => absurd ((beq_iff_eq.mpr e).symm.trans nX_PurseExceeded_TooManyRounds) (by decide))
    · exact kit_refB icX_TooManyRounds tX_TooManyRounds sX_TooAlike_TooManyRounds (fun e => absurd ((beq_iff_eq.mpr e).symm.trans nX_TooAlike_TooManyRounds) (by decide))
    · exact kit_refB icX_TooManyRounds tX_TooManyRounds sX_TooManyRounds_TooManyRounds (fun _ => rfl)
    · exact kit_refB icX_TooManyRounds tX_TooManyRounds sX_UnknownName_TooManyRounds (fun e => absurd ((beq_iff_eq.mpr e).symm.trans nX_UnknownName_TooManyRounds) (by decide))
    · exact kit_refB icX_TooManyRounds tX_TooManyRounds sX_UnknownStation_TooManyRounds (fun e => absurd ((beq_iff_eq.mpr e).symm.trans nX_UnknownStation_TooManyRounds) (by decide))
    · exact kit_refB icX_TooManyRounds tX_TooManyRounds sX_UnknownTalk_TooManyRounds (fun e => absurd ((beq_iff_eq.mpr e).symm.trans nX_UnknownTalk_TooManyRounds) (by decide))
    ), (fun C b h => by
    simp only [sub_Unknown] at h
    rcases h with ⟨rfl, rfl⟩ | ⟨rfl, rfl⟩ | ⟨rfl, rfl⟩ | ⟨rfl, rfl⟩ | ⟨rfl, rfl⟩ | ⟨rfl, rfl⟩ | ⟨rfl, rfl⟩ | ⟨rfl, rfl⟩ | ⟨rfl, rfl⟩ | ⟨rfl, rfl⟩ | ⟨rfl, rfl⟩ | ⟨rfl, rfl⟩ | ⟨rfl, rfl⟩ | ⟨rfl, rfl⟩ | ⟨rfl, rfl⟩
    · exact PySem.W.exm_ref bX_Unknown dX_Unknown tX_Unknown sX_Finished_Unknown
    · exact PySem.W.exm_ref bX_Unknown dX_Unknown tX_Unknown sX_Impossible_Unknown
    · exact PySem.W.exm_ref bX_Unknown dX_Unknown tX_Unknown sX_InvalidChange_Unknown
    · exact PySem.W.exm_ref bX_Unknown dX_Unknown tX_Unknown sX_InvalidCommand_Unknown
    · exact PySem.W.exm_ref bX_Unknown dX_Unknown tX_Unknown sX_InvalidLink_Unknown
    · exact PySem.W.exm_ref bX_Unknown dX_Unknown tX_Unknown sX_InvalidTable_Unknown
    · exact PySem.W.exm_ref bX_Unknown dX_Unknown tX_Unknown sX_InvalidText_Unknown
    · exact PySem.W.exm_ref bX_Unknown dX_Unknown tX_Unknown sX_NameTaken_Unknown
    · exact PySem.W.exm_ref bX_Unknown dX_Unknown tX_Unknown sX_NotItsTurn_Unknown
    · exact PySem.W.exm_ref bX_Unknown dX_Unknown tX_Unknown sX_PurseExceeded_Unknown
    · exact PySem.W.exm_ref bX_Unknown dX_Unknown tX_Unknown sX_TooAlike_Unknown
    · exact PySem.W.exm_ref bX_Unknown dX_Unknown tX_Unknown sX_TooManyRounds_Unknown
    · exact PySem.W.exm_ref bX_Unknown dX_Unknown tX_Unknown sX_UnknownName_Unknown
    · exact PySem.W.exm_ref bX_Unknown dX_Unknown tX_Unknown sX_UnknownStation_Unknown
    · exact PySem.W.exm_ref bX_Unknown dX_Unknown tX_Unknown sX_UnknownTalk_Unknown
    ), (fun C b h => by
    simp only [sub_Unknown] at h
    rcases h with ⟨rfl, rfl⟩ | ⟨rfl, rfl⟩ | ⟨rfl, rfl⟩ | ⟨rfl, rfl⟩ | ⟨rfl, rfl⟩ | ⟨rfl, rfl⟩ | ⟨rfl, rfl⟩ | ⟨rfl, rfl⟩ | ⟨rfl, rfl⟩ | ⟨rfl, rfl⟩ | ⟨rfl, rfl⟩ | ⟨rfl, rfl⟩ | ⟨rfl, rfl⟩ | ⟨rfl, rfl⟩ | ⟨rfl, rfl⟩
    · exact kit_refB icX_Unknown tX_Unknown sX_Finished_Unknown (fun e => absurd ((beq_iff_eq.mpr e).symm.trans nX_Finished_Unknown) (by decide))
    · exact kit_refB icX_Unknown tX_Unknown sX_Impossible_Unknown (fun e => absurd ((beq_iff_eq.mpr e).symm.trans nX_Impossible_Unknown) (by decide))
    · exact kit_refB icX_Unknown tX_Unknown sX_InvalidChange_Unknown (fun e => absurd ((beq_iff_eq.mpr e).symm.trans nX_InvalidChange_Unknown) (by decide))
    · exact kit_refB icX_Unknown tX_Unknown sX_InvalidCommand_Unknown (fun e => absurd ((beq_iff_eq.mpr e).symm.trans nX_InvalidCommand_Unknown) (by decide))
    · exact kit_refB icX_Unknown tX_Unknown sX_InvalidLink_Unknown (fun e => absurd ((beq_iff_eq.mpr e).symm.trans nX_InvalidLink_Unknown) (by decide))
    · exact kit_refB icX_Unknown tX_Unknown sX_InvalidTable_Unknown (fun e => absurd ((beq_iff_eq.mpr e).symm.trans nX_InvalidTable_Unknown) (by decide))
    · exact kit_refB icX_Unknown tX_Unknown sX_InvalidText_Unknown (fun e => absurd ((beq_iff_eq.mpr e).symm.trans nX_InvalidText_Unknown) (by decide))
    · exact kit_refB icX_Unknown tX_Unknown sX_NameTaken_Unknown (fun e => absurd ((beq_iff_eq.mpr e).symm.trans nX_NameTaken_Unknown) (by decide))
    · exact kit_refB icX_Unknown tX_Unknown sX_NotItsTurn_Unknown (fun e => absurd ((beq_iff_eq.mpr e).symm.trans nX_NotItsTurn_Unknown) (by decide))
    · exact kit_refB icX_Unknown tX_Unknown sX_PurseExceeded_Unknown (fun e => absurd ((beq_iff_eq.mpr e).symm.trans nX_PurseExceeded_Unknown) (by decide))
    · exact kit_refB icX_Unknown tX_Unknown sX_TooAlike_Unknown (fun e => absurd ((beq_iff_eq.mpr e).symm.trans nX_TooAlike_Unknown) (by decide))
    · exact kit_refB icX_Unknown tX_Unknown sX_TooManyRounds_Unknown (fun e => absurd ((beq_iff_eq.mpr e).symm.trans nX_TooManyRounds_Unknown) (by decide))
    · exact kit_refB icX_Unknown tX_Unknown sX_UnknownName_Unknown (fun _ => rfl)
    · exact kit_refB icX_Unknown tX_Unknown sX_UnknownStation_Unknown (fun _ => rfl)
    · exact kit_refB icX_Unknown tX_Unknown sX_UnknownTalk_Unknown (fun _ => rfl)
    ), (fun C b h => by
    simp only [sub_UnknownName] at h
    rcases h with ⟨rfl, rfl⟩ | ⟨rfl, rfl⟩ | ⟨rfl, rfl⟩ | ⟨rfl, rfl⟩ | ⟨rfl, rfl⟩ | ⟨rfl, rfl⟩ | ⟨rfl, rfl⟩ | ⟨rfl, rfl⟩ | ⟨rfl, rfl⟩ | ⟨rfl, rfl⟩ | ⟨rfl, rfl⟩ | ⟨rfl, rfl⟩ | ⟨rfl, rfl⟩ | ⟨rfl, rfl⟩ | ⟨rfl, rfl⟩
    · exact kit_refB icX_UnknownName tX_UnknownName sX_Finished_UnknownName (fun e => absurd ((beq_iff_eq.mpr e).symm.trans nX_Finished_UnknownName) (by decide))
    · exact kit_refB icX_UnknownName tX_UnknownName sX_Impossible_UnknownName (fun e => absurd ((beq_iff_eq.mpr e).symm.trans nX_Impossible_UnknownName) (by decide))
    · exact kit_refB icX_UnknownName tX_UnknownName sX_InvalidChange_UnknownName (fun e => absurd ((beq_iff_eq.mpr e).symm.trans nX_InvalidChange_UnknownName) (by decide))
    · exact kit_refB icX_UnknownName tX_UnknownName sX_InvalidCommand_UnknownName (fun e => absurd ((beq_iff_eq.mpr e).symm.trans nX_InvalidCommand_UnknownName) (by decide))
    · exact kit_refB icX_UnknownName tX_UnknownName sX_InvalidLink_UnknownName (fun e => absurd ((beq_iff_eq.mpr e).symm.trans nX_InvalidLink_UnknownName) (by decide))
    · exact kit_refB icX_UnknownName tX_UnknownName sX_InvalidTable_UnknownName (fun e => absurd ((beq_iff_eq.mpr e).symm.trans nX_InvalidTable_UnknownName) (by decide))
    · exact kit_refB icX_UnknownName tX_UnknownName sX_InvalidText_UnknownName (fun e => absurd ((beq_iff_eq.mpr e).symm.trans nX_InvalidText_UnknownName) (by decide))
    · exact kit_refB icX_UnknownName tX_UnknownName sX_NameTaken_UnknownName (fun e => absurd ((beq_iff_eq.mpr e).symm.trans nX_NameTaken_UnknownName) (by decide))
    · exact kit_refB icX_UnknownName tX_UnknownName sX_NotItsTurn_UnknownName (fun e => absurd ((beq_iff_eq.mpr e).symm.trans nX_NotItsTurn_UnknownName) (by decide))
    · exact kit_refB icX_UnknownName tX_UnknownName sX_PurseExceeded_UnknownName (fun e => absurd ((beq_iff_eq.mpr e).symm.trans nX_PurseExceeded_UnknownName) (by decide))
    · exact kit_refB icX_UnknownName tX_UnknownName sX_TooAlike_UnknownName (fun e => absurd ((beq_iff_eq.mpr e).symm.trans nX_TooAlike_UnknownName) (by decide))
    · exact kit_refB icX_UnknownName tX_UnknownName sX_TooManyRounds_UnknownName (fun e => absurd ((beq_iff_eq.mpr e).symm.trans nX_TooManyRounds_UnknownName) (by decide))
    · exact kit_refB icX_UnknownName tX_UnknownName sX_UnknownName_UnknownName (fun _ => rfl)
    · exact kit_refB icX_UnknownName tX_UnknownName sX_UnknownStation_UnknownName (fun e => absurd ((beq_iff_eq.mpr e).symm.trans nX_UnknownStation_UnknownName) (by decide))
    · exact kit_refB icX_UnknownName tX_UnknownName sX_UnknownTalk_UnknownName (fun e => absurd ((beq_iff_eq.mpr e).symm.trans nX_UnknownTalk_UnknownName) (by decide))
    ), (fun C b h => by
    simp only [sub_UnknownStation] at h
    rcases h with ⟨rfl, rfl⟩ | ⟨rfl, rfl⟩ | ⟨rfl, rfl⟩ | ⟨rfl, rfl⟩ | ⟨rfl, rfl⟩ | ⟨rfl, rfl⟩ | ⟨rfl, rfl⟩ | ⟨rfl, rfl⟩ | ⟨rfl, rfl⟩ | ⟨rfl, rfl⟩ | ⟨rfl, rfl⟩ | ⟨rfl, rfl⟩ | ⟨rfl, rfl⟩ | ⟨rfl, rfl⟩ | ⟨rfl, rfl⟩
    · exact kit_refB icX_UnknownStation tX_UnknownStation sX_Finished_UnknownStation (fun e => absurd ((beq_iff_eq.mpr e).symm.trans nX_Finished_UnknownStation) (by decide))
    · exact kit_refB icX_UnknownStation tX_UnknownStation sX_Impossible_UnknownStation (fun e => absurd ((beq_iff_eq.mpr e).symm.trans nX_Impossible_UnknownStation) (by decide))
    · exact kit_refB icX_UnknownStation tX_UnknownStation sX_InvalidChange_UnknownStation (fun e => absurd ((beq_iff_eq.mpr e).symm.trans nX_InvalidChange_UnknownStation) (by decide))
    · exact kit_refB icX_UnknownStation tX_UnknownStation sX_InvalidCommand_UnknownStation (fun e => absurd ((beq_iff_eq.mpr e).symm.trans nX_InvalidCommand_UnknownStation) (by decide))
    · exact kit_refB icX_UnknownStation tX_UnknownStation sX_InvalidLink_UnknownStation (fun e => absurd ((beq_iff_eq.mpr e).symm.trans nX_InvalidLink_UnknownStation) (by decide))
    · exact kit_refB icX_UnknownStation tX_UnknownStation sX_InvalidTable_UnknownStation (fun e => absurd ((beq_iff_eq.mpr e).symm.trans nX_InvalidTable_UnknownStation) (by decide))
    · exact kit_refB icX_UnknownStation tX_UnknownStation sX_InvalidText_UnknownStation (fun e => absurd ((beq_iff_eq.mpr e).symm.trans nX_InvalidText_UnknownStation) (by decide))
    · exact kit_refB icX_UnknownStation tX_UnknownStation sX_NameTaken_UnknownStation (fun e => absurd ((beq_iff_eq.mpr e).symm.trans nX_NameTaken_UnknownStation) (by decide))
    · exact kit_refB icX_UnknownStation tX_UnknownStation sX_NotItsTurn_UnknownStation (fun e => absurd ((beq_iff_eq.mpr e).symm.trans nX_NotItsTurn_UnknownStation) (by decide))
    · exact kit_refB icX_UnknownStation tX_UnknownStation sX_PurseExceeded_UnknownStation (fun e => absurd ((beq_iff_eq.mpr e).symm.trans nX_PurseExceeded_UnknownStation) (by decide))
    · exact kit_refB icX_UnknownStation tX_UnknownStation sX_TooAlike_UnknownStation (fun e => absurd ((beq_iff_eq.mpr e).symm.trans nX_TooAlike_UnknownStation) (by decide))
    · exact kit_refB icX_UnknownStation tX_UnknownStation sX_TooManyRounds_UnknownStation (fun e => absurd ((beq_iff_eq.mpr e).symm.trans nX_TooManyRounds_UnknownStation) (by decide))
    · exact kit_refB icX_UnknownStation tX_UnknownStation sX_UnknownName_UnknownStation (fun e => absurd ((beq_iff_eq.mpr e).symm.trans nX_UnknownName_UnknownStation) (by decide))
    · exact kit_refB icX_UnknownStation tX_UnknownStation sX_UnknownStation_UnknownStation (fun _ => rfl)
    · exact kit_refB icX_UnknownStation tX_UnknownStation sX_UnknownTalk_UnknownStation (fun e => absurd ((beq_iff_eq.mpr e).symm.trans nX_UnknownTalk_UnknownStation) (by decide))
    ), (fun C b h => by
    simp only [sub_UnknownTalk] at h
    rcases h with ⟨rfl, rfl⟩ | ⟨rfl, rfl⟩ | ⟨rfl, rfl⟩ | ⟨rfl, rfl⟩ | ⟨rfl, rfl⟩ | ⟨rfl, rfl⟩ | ⟨rfl, rfl⟩ | ⟨rfl, rfl⟩ | ⟨rfl, rfl⟩ | ⟨rfl, rfl⟩ | ⟨rfl, rfl⟩ | ⟨rfl, rfl⟩ | ⟨rfl, rfl⟩ | ⟨rfl, rfl⟩ | ⟨rfl, rfl⟩
    · exact kit_refB icX_UnknownTalk tX_UnknownTalk sX_Finished_UnknownTalk (fun e => absurd ((beq_iff_eq.mpr e).symm.trans nX_Finished_UnknownTalk) (by decide))
    · exact kit_refB icX_UnknownTalk tX_UnknownTalk sX_Impossible_UnknownTalk (fun e => absurd ((beq_iff_eq.mpr e).symm.trans nX_Impossible_UnknownTalk) (by decide))
    · exact kit_refB icX_UnknownTalk tX_UnknownTalk sX_InvalidChange_UnknownTalk (fun e => absurd ((beq_iff_eq.mpr e).symm.trans nX_InvalidChange_UnknownTalk) (by decide))
    · exact kit_refB icX_UnknownTalk tX_UnknownTalk sX_InvalidCommand_UnknownTalk (fun e => absurd ((beq_iff_eq.mpr e).symm.trans nX_InvalidCommand_UnknownTalk) (by decide))
    · exact kit_refB icX_UnknownTalk tX_UnknownTalk sX_InvalidLink_UnknownTalk (fun e => absurd ((beq_iff_eq.mpr e).symm.trans nX_InvalidLink_UnknownTalk) (by decide))
    · exact kit_refB icX_UnknownTalk tX_UnknownTalk sX_InvalidTable_UnknownTalk (fun e => absurd ((beq_iff_eq.mpr e).symm.trans nX_InvalidTable_UnknownTalk) (by decide))
    · exact kit_refB icX_UnknownTalk tX_UnknownTalk sX_InvalidText_UnknownTalk (fun e => absurd ((beq_iff_eq.mpr e).symm.trans nX_InvalidText_UnknownTalk) (by decide))
    · exact kit_refB icX_UnknownTalk tX_UnknownTalk sX_NameTaken_UnknownTalk (fun e => absurd ((beq_iff_eq.mpr e).symm.trans nX_NameTaken_UnknownTalk) (by decide))
    · exact kit_refB icX_UnknownTalk tX_UnknownTalk sX_NotItsTurn_UnknownTalk (fun e => absurd ((beq_iff_eq.mpr e).symm.trans nX_NotItsTurn_UnknownTalk) (by decide))
    · exact kit_refB icX_UnknownTalk tX_UnknownTalk sX_PurseExceeded_UnknownTalk (fun e => absurd ((beq_iff_eq.mpr e).symm.trans nX_PurseExceeded_UnknownTalk) (by decide))
    · exact kit_refB icX_UnknownTalk tX_UnknownTalk sX_TooAlike_UnknownTalk (fun e => absurd ((beq_iff_eq.mpr e).symm.trans nX_TooAlike_UnknownTalk) (by decide))
    · exact kit_refB icX_UnknownTalk tX_UnknownTalk sX_TooManyRounds_UnknownTalk (fun e => absurd ((beq_iff_eq.mpr e).symm.trans nX_TooManyRounds_UnknownTalk) (by decide))
    · exact kit_refB icX_UnknownTalk tX_UnknownTalk sX_UnknownName_UnknownTalk (fun e => absurd ((beq_iff_eq.mpr e).symm.trans nX_UnknownName_UnknownTalk) (by decide))
    · exact kit_refB icX_UnknownTalk tX_UnknownTalk sX_UnknownStation_UnknownTalk (fun e => absurd ((beq_iff_eq.mpr e).symm.trans nX_UnknownStation_UnknownTalk) (by decide))
    · exact kit_refB icX_UnknownTalk tX_UnknownTalk sX_UnknownTalk_UnknownTalk (fun _ => rfl)
    ), (fun C b h => by
    simp only [sub_ValueError] at h
    rcases h with ⟨rfl, rfl⟩ | ⟨rfl, rfl⟩ | ⟨rfl, rfl⟩ | ⟨rfl, rfl⟩ | ⟨rfl, rfl⟩ | ⟨rfl, rfl⟩ | ⟨rfl, rfl⟩ | ⟨rfl, rfl⟩ | ⟨rfl, rfl⟩ | ⟨rfl, rfl⟩ | ⟨rfl, rfl⟩ | ⟨rfl, rfl⟩ | ⟨rfl, rfl⟩ | ⟨rfl, rfl⟩ | ⟨rfl, rfl⟩
    · exact kit_tyB (by decide +kernel) sB_Finished_ValueError
    · exact kit_tyB (by decide +kernel) sB_Impossible_ValueError
    · exact kit_tyB (by decide +kernel) sB_InvalidChange_ValueError
    · exact kit_tyB (by decide +kernel) sB_InvalidCommand_ValueError
    · exact kit_tyB (by decide +kernel) sB_InvalidLink_ValueError
    · exact kit_tyB (by decide +kernel) sB_InvalidTable_ValueError
    · exact kit_tyB (by decide +kernel) sB_InvalidText_ValueError
    · exact kit_tyB (by decide +kernel) sB_NameTaken_ValueError
    · exact kit_tyB (by decide +kernel) sB_NotItsTurn_ValueError
    · exact kit_tyB (by decide +kernel) sB_PurseExceeded_ValueError
    · exact kit_tyB (by decide +kernel) sB_TooAlike_ValueError
    · exact kit_tyB (by decide +kernel) sB_TooManyRounds_ValueError
    · exact kit_tyB (by decide +kernel) sB_UnknownName_ValueError
    · exact kit_tyB (by decide +kernel) sB_UnknownStation_ValueError
    · exact kit_tyB (by decide +kernel) sB_UnknownTalk_ValueError
    ), (fun C b h => by
    simp only [sub_WireError] at h
    rcases h with ⟨rfl, rfl⟩ | ⟨rfl, rfl⟩ | ⟨rfl, rfl⟩ | ⟨rfl, rfl⟩ | ⟨rfl, rfl⟩ | ⟨rfl, rfl⟩ | ⟨rfl, rfl⟩ | ⟨rfl, rfl⟩ | ⟨rfl, rfl⟩ | ⟨rfl, rfl⟩ | ⟨rfl, rfl⟩ | ⟨rfl, rfl⟩ | ⟨rfl, rfl⟩ | ⟨rfl, rfl⟩ | ⟨rfl, rfl⟩
    · exact PySem.W.exm_ref bX_WireError dX_WireError tX_WireError sX_Finished_WireError
    · exact PySem.W.exm_ref bX_WireError dX_WireError tX_WireError sX_Impossible_WireError
    · exact PySem.W.exm_ref bX_WireError dX_WireError tX_WireError sX_InvalidChange_WireError
    · exact PySem.W.exm_ref bX_WireError dX_WireError tX_WireError sX_InvalidCommand_WireError
    · exact PySem.W.exm_ref bX_WireError dX_WireError tX_WireError sX_InvalidLink_WireError
    · exact PySem.W.exm_ref bX_WireError dX_WireError tX_WireError sX_InvalidTable_WireError
    · exact PySem.W.exm_ref bX_WireError dX_WireError tX_WireError sX_InvalidText_WireError
    · exact PySem.W.exm_ref bX_WireError dX_WireError tX_WireError sX_NameTaken_WireError
    · exact PySem.W.exm_ref bX_WireError dX_WireError tX_WireError sX_NotItsTurn_WireError
    · exact PySem.W.exm_ref bX_WireError dX_WireError tX_WireError sX_PurseExceeded_WireError
    · exact PySem.W.exm_ref bX_WireError dX_WireError tX_WireError sX_TooAlike_WireError
    · exact PySem.W.exm_ref bX_WireError dX_WireError tX_WireError sX_TooManyRounds_WireError
    · exact PySem.W.exm_ref bX_WireError dX_WireError tX_WireError sX_UnknownName_WireError
    · exact PySem.W.exm_ref bX_WireError dX_WireError tX_WireError sX_UnknownStation_WireError
    · exact PySem.W.exm_ref bX_WireError dX_WireError tX_WireError sX_UnknownTalk_WireError
    ), (fun C b h => by
    simp only [sub_WireError] at h
    rcases h with ⟨rfl, rfl⟩ | ⟨rfl, rfl⟩ | ⟨rfl, rfl⟩ | ⟨rfl, rfl⟩ | ⟨rfl, rfl⟩ | ⟨rfl, rfl⟩ | ⟨rfl, rfl⟩ | ⟨rfl, rfl⟩ | ⟨rfl, rfl⟩ | ⟨rfl, rfl⟩ | ⟨rfl, rfl⟩ | ⟨rfl, rfl⟩ | ⟨rfl, rfl⟩ | ⟨rfl, rfl⟩ | ⟨rfl, rfl⟩
    · exact kit_refB icX_WireError tX_WireError sX_Finished_WireError (fun _ => rfl)
    · exact kit_refB icX_WireError tX_WireError sX_Impossible_WireError (fun _ => rfl)
    · exact kit_refB icX_WireError tX_WireError sX_InvalidChange_WireError (fun _ => rfl)
    · exact kit_refB icX_WireError tX_WireError sX_InvalidCommand_WireError (fun _ => rfl)
    · exact kit_refB icX_WireError tX_WireError sX_InvalidLink_WireError (fun _ => rfl)
    · exact kit_refB icX_WireError tX_WireError sX_InvalidTable_WireError (fun _ => rfl)
    · exact kit_refB icX_WireError tX_WireError sX_InvalidText_WireError (fun _ => rfl)
    · exact kit_refB icX_WireError tX_WireError sX_NameTaken_WireError (fun _ => rfl)
    · exact kit_refB icX_WireError tX_WireError sX_NotItsTurn_WireError (fun _ => rfl)
    · exact kit_refB icX_WireError tX_WireError sX_PurseExceeded_WireError (fun _ => rfl)
    · exact kit_refB icX_WireError tX_WireError sX_TooAlike_WireError (fun _ => rfl)
    · exact kit_refB icX_WireError tX_WireError sX_TooManyRounds_WireError (fun _ => rfl)
    · exact kit_refB icX_WireError tX_WireError sX_UnknownName_WireError (fun e => absurd ((beq_iff_eq.mpr e).symm.trans nX_UnknownName_WireError) (by decide))
    · exact kit_refB icX_WireError tX_WireError sX_UnknownStation_WireError (fun e => absurd ((beq_iff_eq.mpr e).symm.trans nX_UnknownStation_WireError) (by decide))
    · exact kit_refB icX_WireError tX_WireError sX_UnknownTalk_WireError (fun e => absurd ((beq_iff_eq.mpr e).symm.trans nX_UnknownTalk_WireError) (by decide))
    ), ⟨gX_InvalidChange, aX_InvalidChange, bX_InvalidChange, dX_InvalidChange⟩, ⟨gX_NameTaken, aX_NameTaken, bX_NameTaken, dX_NameTaken⟩, ⟨gX_NotItsTurn, aX_NotItsTurn, bX_NotItsTurn, dX_NotItsTurn⟩, ⟨gX_PurseExceeded, aX_PurseExceeded, bX_PurseExceeded, dX_PurseExceeded⟩, ⟨gX_TooAlike, aX_TooAlike, bX_TooAlike, dX_TooAlike⟩, ⟨gX_TooManyRounds, aX_TooManyRounds, bX_TooManyRounds, dX_TooManyRounds⟩, ⟨gX_UnknownName, aX_UnknownName, bX_UnknownName, dX_UnknownName⟩, ⟨gX_UnknownStation, aX_UnknownStation, bX_UnknownStation, dX_UnknownStation⟩, ⟨gX_UnknownTalk, aX_UnknownTalk, bX_UnknownTalk, dX_UnknownTalk⟩, xn_InvalidChange_change, xn_NameTaken_name, xn_NotItsTurn_station, xn_PurseExceeded_count, xn_TooAlike_first, xn_TooAlike_second, xn_TooManyRounds_rounds, xn_UnknownName_name, xn_UnknownStation_station, xn_UnknownTalk_talk⟩
  have F__law_source := fun_mk (st := st__law_source) l__law_source c__law_source k__law_source
  have b__law_source := F__law_source.binds (ps := ["_law_script"]) fun _ _ _ _ _ _ us hl => match us, hl with | [_], _ => rfl
  have F__law_draw := fun_mk (st := st__law_draw) l__law_draw c__law_draw k__law_draw
  have b__law_draw := F__law_draw.binds (ps := ["_law_source_here", "_law_bound"]) fun _ _ _ _ _ _ us hl => match us, hl with | [_, _], _ => rfl
  have F__law_pick := fun_mk (st := st__law_pick) l__law_pick c__law_pick k__law_pick
  have b__law_pick := F__law_pick.binds (ps := ["_law_source_here", "_law_items"]) fun _ _ _ _ _ _ us hl => match us, hl with | [_, _], _ => rfl
  have F__law_thing := fun_mk (st := st__law_thing) l__law_thing c__law_thing k__law_thing
  have b__law_thing := F__law_thing.binds (ps := ["_law_source_here", "_law_depth"]) fun _ _ _ _ _ _ us hl => match us, hl with | [_, _], _ => rfl
  have F__law_raise_plain := fun_mk (st := st__law_raise_plain) l__law_raise_plain c__law_raise_plain k__law_raise_plain
  have b__law_raise_plain := F__law_raise_plain.binds (ps := ["_law_number"]) fun _ _ _ _ _ _ us hl => match us, hl with | [_], _ => rfl
  have F__law_raise := fun_mk (st := st__law_raise) l__law_raise c__law_raise k__law_raise
  have b__law_raise := F__law_raise.binds (ps := ["_law_number", "_law_one", "_law_other"]) fun _ _ _ _ _ _ us hl => match us, hl with | [_, _, _], _ => rfl
  have F__law_raise_named := fun_mk (st := st__law_raise_named) l__law_raise_named c__law_raise_named k__law_raise_named
  have b__law_raise_named := F__law_raise_named.binds (ps := ["_law_number", "_law_one", "_law_other"]) fun _ _ _ _ _ _ us hl => match us, hl with | [_, _, _], _ => rfl
  have F__law_marks := fun_mk (st := st__law_marks) l__law_marks c__law_marks k__law_marks
  have b__law_marks := F__law_marks.binds (ps := ["_law_e"]) fun _ _ _ _ _ _ us hl => match us, hl with | [_], _ => rfl
  have F__law_wire_fields := fun_mk (st := st__law_wire_fields) l__law_wire_fields c__law_wire_fields k__law_wire_fields
  have b__law_wire_fields := F__law_wire_fields.binds (ps := ["_law_e", "_law_number"]) fun _ _ _ _ _ _ us hl => match us, hl with | [_, _], _ => rfl
  have F__law_unknown_fields := fun_mk (st := st__law_unknown_fields) l__law_unknown_fields c__law_unknown_fields k__law_unknown_fields
  have b__law_unknown_fields := F__law_unknown_fields.binds (ps := ["_law_e", "_law_number"]) fun _ _ _ _ _ _ us hl => match us, hl with | [_, _], _ => rfl
  have F__law_caught := fun_mk (st := st__law_caught) l__law_caught c__law_caught k__law_caught
  have b__law_caught := F__law_caught.binds (ps := ["_law_number", "_law_one", "_law_other", "_law_is_named"]) fun _ _ _ _ _ _ us hl => match us, hl with | [_, _, _, _], _ => rfl
  have F__law_expected := fun_mk (st := st__law_expected) l__law_expected c__law_expected k__law_expected
  have b__law_expected := F__law_expected.binds (ps := ["_law_number", "_law_one", "_law_other"]) fun _ _ _ _ _ _ us hl => match us, hl with | [_, _, _], _ => rfl
  have F_law := fun_mk (st := st_law) l_law c_law k_law
  have b_law := F_law.binds (ps := ["_law_script"]) fun _ _ _ _ _ _ us hl => match us, hl with | [_], _ => rfl
  have F_InvalidChange___init__ := fun_mk (st := st_InvalidChange___init__) l_InvalidChange___init__ c_InvalidChange___init__ k_InvalidChange___init__
  have b_InvalidChange___init__ := F_InvalidChange___init__.binds (ps := ["self", "change"]) fun _ _ _ _ _ _ us hl => match us, hl with | [_, _], _ => rfl
  have F_NameTaken___init__ := fun_mk (st := st_NameTaken___init__) l_NameTaken___init__ c_NameTaken___init__ k_NameTaken___init__
  have b_NameTaken___init__ := F_NameTaken___init__.binds (ps := ["self", "name"]) fun _ _ _ _ _ _ us hl => match us, hl with | [_, _], _ => rfl
  have F_NotItsTurn___init__ := fun_mk (st := st_NotItsTurn___init__) l_NotItsTurn___init__ c_NotItsTurn___init__ k_NotItsTurn___init__
  have b_NotItsTurn___init__ := F_NotItsTurn___init__.binds (ps := ["self", "station"]) fun _ _ _ _ _ _ us hl => match us, hl with | [_, _], _ => rfl
  have F_PurseExceeded___init__ := fun_mk (st := st_PurseExceeded___init__) l_PurseExceeded___init__ c_PurseExceeded___init__ k_PurseExceeded___init__
  have b_PurseExceeded___init__ := F_PurseExceeded___init__.binds (ps := ["self", "count"]) fun _ _ _ _ _ _ us hl => match us, hl with | [_, _], _ => rfl
  have F_TooAlike___init__ := fun_mk (st := st_TooAlike___init__) l_TooAlike___init__ c_TooAlike___init__ k_TooAlike___init__
  have b_TooAlike___init__ := F_TooAlike___init__.binds (ps := ["self", "first", "second"]) fun _ _ _ _ _ _ us hl => match us, hl with | [_, _, _], _ => rfl
  have F_TooManyRounds___init__ := fun_mk (st := st_TooManyRounds___init__) l_TooManyRounds___init__ c_TooManyRounds___init__ k_TooManyRounds___init__
  have b_TooManyRounds___init__ := F_TooManyRounds___init__.binds (ps := ["self", "rounds"]) fun _ _ _ _ _ _ us hl => match us, hl with | [_, _], _ => rfl
  have F_UnknownName___init__ := fun_mk (st := st_UnknownName___init__) l_UnknownName___init__ c_UnknownName___init__ k_UnknownName___init__
  have b_UnknownName___init__ := F_UnknownName___init__.binds (ps := ["self", "name"]) fun _ _ _ _ _ _ us hl => match us, hl with | [_, _], _ => rfl
  have F_UnknownStation___init__ := fun_mk (st := st_UnknownStation___init__) l_UnknownStation___init__ c_UnknownStation___init__ k_UnknownStation___init__
  have b_UnknownStation___init__ := F_UnknownStation___init__.binds (ps := ["self", "station"]) fun _ _ _ _ _ _ us hl => match us, hl with | [_, _], _ => rfl
  have F_UnknownTalk___init__ := fun_mk (st := st_UnknownTalk___init__) l_UnknownTalk___init__ c_UnknownTalk___init__ k_UnknownTalk___init__
  have b_UnknownTalk___init__ := F_UnknownTalk___init__.binds (ps := ["self", "talk"]) fun _ _ _ _ _ _ us hl => match us, hl with | [_, _], _ => rfl
  refine ⟨PySem.W.fnOf "law" "law" (defArgs st_law) (defBody st_law) (defScope st_law) .none kV_12 dc_12 pm_12 an_12 cd_12 ct_12, fun s v => .of_eq rfl, fun base _ _ => ?_⟩
  have S__law_source : ∀ {k : Nat} {sp : Sp}, FnG l.prog w K mg base CX0 k f__law_source (PySem.W.fnOf "_law_source" "_law_source" (defArgs st__law_source) (defBody st__law_source) (defScope st__law_source) .none kV_0 dc_0 pm_0 an_0 cd_0 ct_0) ["_law_script"] sp → FnG l.prog w K mg base CX0 k f__law_source (PySem.W.fnOf "_law_source" "_law_source" (defArgs st__law_source) (defBody st__law_source) (defScope st__law_source) .none kV_0 dc_0 pm_0 an_0 cd_0 ct_0) ["_law_script"] sp := fun g => g
  have S__law_draw : ∀ {k : Nat} {sp : Sp}, FnG l.prog w K mg base CX0 k f__law_draw (PySem.W.fnOf "_law_draw" "_law_draw" (defArgs st__law_draw) (defBody st__law_draw) (defScope st__law_draw) .none kV_1 dc_1 pm_1 an_1 cd_1 ct_1) ["_law_source_here", "_law_bound"] sp → FnG l.prog w K mg base CX0 k f__law_draw (PySem.W.fnOf "_law_draw" "_law_draw" (defArgs st__law_draw) (defBody st__law_draw) (defScope st__law_draw) .none kV_1 dc_1 pm_1 an_1 cd_1 ct_1) ["_law_source_here", "_law_bound"] sp := fun g => g
  have S__law_pick : ∀ {k : Nat} {sp : Sp}, FnG l.prog w K mg base CX0 k f__law_pick (PySem.W.fnOf "_law_pick" "_law_pick" (defArgs st__law_pick) (defBody st__law_pick) (defScope st__law_pick) .none kV_2 dc_2 pm_2 an_2 cd_2 ct_2) ["_law_source_here", "_law_items"] sp → FnG l.prog w K mg base CX0 k f__law_pick (PySem.W.fnOf "_law_pick" "_law_pick" (defArgs st__law_pick) (defBody st__law_pick) (defScope st__law_pick) .none kV_2 dc_2 pm_2 an_2 cd_2 ct_2) ["_law_source_here", "_law_items"] sp := fun g => g
  have S__law_thing : ∀ {k : Nat} {sp : Sp}, FnG l.prog w K mg base CX0 k f__law_thing (PySem.W.fnOf "_law_thing" "_law_thing" (defArgs st__law_thing) (defBody st__law_thing) (defScope st__law_thing) .none kV_3 dc_3 pm_3 an_3 cd_3 ct_3) ["_law_source_here", "_law_depth"] sp → FnG l.prog w K mg base CX0 k f__law_thing (PySem.W.fnOf "_law_thing" "_law_thing" (defArgs st__law_thing) (defBody st__law_thing) (defScope st__law_thing) .none kV_3 dc_3 pm_3 an_3 cd_3 ct_3) ["_law_source_here", "_law_depth"] sp := fun g => g
  have S__law_raise_plain : ∀ {k : Nat} {sp : Sp}, FnG l.prog w K mg base (L2.CX l.prog w) k f__law_raise_plain (PySem.W.fnOf "_law_raise_plain" "_law_raise_plain" (defArgs st__law_raise_plain) (defBody st__law_raise_plain) (defScope st__law_raise_plain) .none kV_4 dc_4 pm_4 an_4 cd_4 ct_4) ["_law_number"] sp → FnG l.prog w K mg base (L2.CX l.prog w) k f__law_raise_plain (PySem.W.fnOf "_law_raise_plain" "_law_raise_plain" (defArgs st__law_raise_plain) (defBody st__law_raise_plain) (defScope st__law_raise_plain) .none kV_4 dc_4 pm_4 an_4 cd_4 ct_4) ["_law_number"] sp := fun g => g
  have S__law_raise : ∀ {k : Nat} {sp : Sp}, FnG l.prog w K mg base (L2.CX l.prog w) k f__law_raise (PySem.W.fnOf "_law_raise" "_law_raise" (defArgs st__law_raise) (defBody st__law_raise) (defScope st__law_raise) .none kV_5 dc_5 pm_5 an_5 cd_5 ct_5) ["_law_number", "_law_one", "_law_other"] sp → FnG l.prog w K mg base (L2.CX l.prog w) k f__law_raise (PySem.W.fnOf "_law_raise" "_law_raise" (defArgs st__law_raise) (defBody st__law_raise) (defScope st__law_raise) .none kV_5 dc_5 pm_5 an_5 cd_5 ct_5) ["_law_number", "_law_one", "_law_other"] sp := fun g => g
  have S__law_raise_named : ∀ {k : Nat} {sp : Sp}, FnG l.prog w K mg base (L2.CX l.prog w) k f__law_raise_named (PySem.W.fnOf "_law_raise_named" "_law_raise_named" (defArgs st__law_raise_named) (defBody st__law_raise_named) (defScope st__law_raise_named) .none kV_6 dc_6 pm_6 an_6 cd_6 ct_6) ["_law_number", "_law_one", "_law_other"] sp → FnG l.prog w K mg base (L2.CX l.prog w) k f__law_raise_named (PySem.W.fnOf "_law_raise_named" "_law_raise_named" (defArgs st__law_raise_named) (defBody st__law_raise_named) (defScope st__law_raise_named) .none kV_6 dc_6 pm_6 an_6 cd_6 ct_6) ["_law_number", "_law_one", "_law_other"] sp := fun g => g
  have S__law_caught : ∀ {k : Nat} {sp : Sp}, FnG l.prog w K mg base CX0 k f__law_caught (PySem.W.fnOf "_law_caught" "_law_caught" (defArgs st__law_caught) (defBody st__law_caught) (defScope st__law_caught) .none kV_10 dc_10 pm_10 an_10 cd_10 ct_10) ["_law_number", "_law_one", "_law_other", "_law_is_named"] sp → FnG l.prog w K mg base CX0 k f__law_caught (PySem.W.fnOf "_law_caught" "_law_caught" (defArgs st__law_caught) (defBody st__law_caught) (defScope st__law_caught) .none kV_10 dc_10 pm_10 an_10 cd_10 ct_10) ["_law_number", "_law_one", "_law_other", "_law_is_named"] sp := fun g => g
  have S__law_expected : ∀ {k : Nat} {sp : Sp}, FnG l.prog w K mg base CX0 k f__law_expected (PySem.W.fnOf "_law_expected" "_law_expected" (defArgs st__law_expected) (defBody st__law_expected) (defScope st__law_expected) .none kV_11 dc_11 pm_11 an_11 cd_11 ct_11) ["_law_number", "_law_one", "_law_other"] sp → FnG l.prog w K mg base CX0 k f__law_expected (PySem.W.fnOf "_law_expected" "_law_expected" (defArgs st__law_expected) (defBody st__law_expected) (defScope st__law_expected) .none kV_11 dc_11 pm_11 an_11 cd_11 ct_11) ["_law_number", "_law_one", "_law_other"] sp := fun g => g
  have S_law : ∀ {k : Nat} {sp : Sp}, FnG l.prog w K mg base CX0 k fa (PySem.W.fnOf "law" "law" (defArgs st_law) (defBody st_law) (defScope st_law) .none kV_12 dc_12 pm_12 an_12 cd_12 ct_12) ["_law_script"] sp → FnG l.prog w K mg base CX0 k fa (PySem.W.fnOf "law" "law" (defArgs st_law) (defBody st_law) (defScope st_law) .none kV_12 dc_12 pm_12 an_12 cd_12 ct_12) ["_law_script"] sp := fun g => g
  have QP__law_marks : ∀ {k : Nat} {sp : Addr → Option Addr → Addr → Sp}, (∀ (a C : Addr) (oe : Obj) (d : Option Addr), Zc (.ref C) d oe → (∃ vs, oe.data = .fields vs) → FnP l.prog w K mg base (a, oe) k f__law_marks (PySem.W.fnOf "_law_marks" "_law_marks" (defArgs st__law_marks) (defBody st__law_marks) (defScope st__law_marks) .none kV_7 dc_7 pm_7 an_7 cd_7 ct_7) ["_law_e"] (sp a d C)) → CgP l.prog w K mg base k "_law_marks" sp := fun g => ⟨⟨f__law_marks, _, ["_law_e"], PySem.W.mg_of X G a__law_marks, k__law_marks, b__law_marks, g⟩⟩
  have QP__law_wire_fields : ∀ {k : Nat} {sp : Addr → Option Addr → Addr → Sp}, (∀ (a C : Addr) (oe : Obj) (d : Option Addr), Zc (.ref C) d oe → (∃ vs, oe.data = .fields vs) → FnP l.prog w K mg base (a, oe) k f__law_wire_fields (PySem.W.fnOf "_law_wire_fields" "_law_wire_fields" (defArgs st__law_wire_fields) (defBody st__law_wire_fields) (defScope st__law_wire_fields) .none kV_8 dc_8 pm_8 an_8 cd_8 ct_8) ["_law_e", "_law_number"] (sp a d C)) → CgP l.prog w K mg base k "_law_wire_fields" sp := fun g => ⟨⟨f__law_wire_fields, _, ["_law_e", "_law_number"], PySem.W.mg_of X G a__law_wire_fields, k__law_wire_fields, b__law_wire_fields, g⟩⟩
  have QP__law_unknown_fields : ∀ {k : Nat} {sp : Addr → Option Addr → Addr → Sp}, (∀ (a C : Addr) (oe : Obj) (d : Option Addr), Zc (.ref C) d oe → (∃ vs, oe.data = .fields vs) → FnP l.prog w K mg base (a, oe) k f__law_unknown_fields (PySem.W.fnOf "_law_unknown_fields" "_law_unknown_fields" (defArgs st__law_unknown_fields) (defBody st__law_unknown_fields) (defScope st__law_unknown_fields) .none kV_9 dc_9 pm_9 an_9 cd_9 ct_9) ["_law_e", "_law_number"] (sp a d C)) → CgP l.prog w K mg base k "_law_unknown_fields" sp := fun g => ⟨⟨f__law_unknown_fields, _, ["_law_e", "_law_number"], PySem.W.mg_of X G a__law_unknown_fields, k__law_unknown_fields, b__law_unknown_fields, g⟩⟩
  have Q__law_source : ∀ {k : Nat} {sp : Sp}, FnG l.prog w K mg base CX0 k f__law_source (PySem.W.fnOf "_law_source" "_law_source" (defArgs st__law_source) (defBody st__law_source) (defScope st__law_source) .none kV_0 dc_0 pm_0 an_0 cd_0 ct_0) ["_law_script"] sp → Cg l.prog w K mg base CX0 k "_law_source" sp := fun g => ⟨⟨f__law_source, _, ["_law_script"], g, PySem.W.mg_of X G a__law_source, k__law_source, b__law_source⟩⟩
  have Q__law_draw : ∀ {k : Nat} {sp : Sp}, FnG l.prog w K mg base CX0 k f__law_draw (PySem.W.fnOf "_law_draw" "_law_draw" (defArgs st__law_draw) (defBody st__law_draw) (defScope st__law_draw) .none kV_1 dc_1 pm_1 an_1 cd_1 ct_1) ["_law_source_here", "_law_bound"] sp → Cg l.prog w K mg base CX0 k "_law_draw" sp := fun g => ⟨⟨f__law_draw, _, ["_law_source_here", "_law_bound"], g, PySem.W.mg_of X G a__law_draw, k__law_draw, b__law_draw⟩⟩
  have Q__law_pick : ∀ {k : Nat} {sp : Sp}, FnG l.prog w K mg base CX0 k f__law_pick (PySem.W.fnOf "_law_pick" "_law_pick" (defArgs st__law_pick) (defBody st__law_pick) (defScope st__law_pick) .none kV_2 dc_2 pm_2 an_2 cd_2 ct_2) ["_law_source_here", "_law_items"] sp → Cg l.prog w K mg base CX0 k "_law_pick" sp := fun g => ⟨⟨f__law_pick, _, ["_law_source_here", "_law_items"], g, PySem.W.mg_of X G a__law_pick, k__law_pick, b__law_pick⟩⟩
  have Q__law_thing : ∀ {k : Nat} {sp : Sp}, FnG l.prog w K mg base CX0 k f__law_thing (PySem.W.fnOf "_law_thing" "_law_thing" (defArgs st__law_thing) (defBody st__law_thing) (defScope st__law_thing) .none kV_3 dc_3 pm_3 an_3 cd_3 ct_3) ["_law_source_here", "_law_depth"] sp → Cg l.prog w K mg base CX0 k "_law_thing" sp := fun g => ⟨⟨f__law_thing, _, ["_law_source_here", "_law_depth"], g, PySem.W.mg_of X G a__law_thing, k__law_thing, b__law_thing⟩⟩
  have Q__law_raise_plain : ∀ {k : Nat} {sp : Sp}, FnG l.prog w K mg base (L2.CX l.prog w) k f__law_raise_plain (PySem.W.fnOf "_law_raise_plain" "_law_raise_plain" (defArgs st__law_raise_plain) (defBody st__law_raise_plain) (defScope st__law_raise_plain) .none kV_4 dc_4 pm_4 an_4 cd_4 ct_4) ["_law_number"] sp → Cg l.prog w K mg base (L2.CX l.prog w) k "_law_raise_plain" sp := fun g => ⟨⟨f__law_raise_plain, _, ["_law_number"], g, PySem.W.mg_of X G a__law_raise_plain, k__law_raise_plain, b__law_raise_plain⟩⟩
  have QC__law_raise_plain : ∀ {k : Nat} {sp : Sp}, FnG l.prog w K mg base CX0 k f__law_raise_plain (PySem.W.fnOf "_law_raise_plain" "_law_raise_plain" (defArgs st__law_raise_plain) (defBody st__law_raise_plain) (defScope st__law_raise_plain) .none kV_4 dc_4 pm_4 an_4 cd_4 ct_4) ["_law_number"] sp → Cg l.prog w K mg base CX0 k "_law_raise_plain" sp := fun g => ⟨⟨f__law_raise_plain, _, ["_law_number"], g, PySem.W.mg_of X G a__law_raise_plain, k__law_raise_plain, b__law_raise_plain⟩⟩
  have Q__law_raise : ∀ {k : Nat} {sp : Sp}, FnG l.prog w K mg base (L2.CX l.prog w) k f__law_raise (PySem.W.fnOf "_law_raise" "_law_raise" (defArgs st__law_raise) (defBody st__law_raise) (defScope st__law_raise) .none kV_5 dc_5 pm_5 an_5 cd_5 ct_5) ["_law_number", "_law_one", "_law_other"] sp → Cg l.prog w K mg base (L2.CX l.prog w) k "_law_raise" sp := fun g => ⟨⟨f__law_raise, _, ["_law_number", "_law_one", "_law_other"], g, PySem.W.mg_of X G a__law_raise, k__law_raise, b__law_raise⟩⟩
  have QC__law_raise : ∀ {k : Nat} {sp : Sp}, FnG l.prog w K mg base CX0 k f__law_raise (PySem.W.fnOf "_law_raise" "_law_raise" (defArgs st__law_raise) (defBody st__law_raise) (defScope st__law_raise) .none kV_5 dc_5 pm_5 an_5 cd_5 ct_5) ["_law_number", "_law_one", "_law_other"] sp → Cg l.prog w K mg base CX0 k "_law_raise" sp := fun g => ⟨⟨f__law_raise, _, ["_law_number", "_law_one", "_law_other"], g, PySem.W.mg_of X G a__law_raise, k__law_raise, b__law_raise⟩⟩
  have Q__law_raise_named : ∀ {k : Nat} {sp : Sp}, FnG l.prog w K mg base (L2.CX l.prog w) k f__law_raise_named (PySem.W.fnOf "_law_raise_named" "_law_raise_named" (defArgs st__law_raise_named) (defBody st__law_raise_named) (defScope st__law_raise_named) .none kV_6 dc_6 pm_6 an_6 cd_6 ct_6) ["_law_number", "_law_one", "_law_other"] sp → Cg l.prog w K mg base (L2.CX l.prog w) k "_law_raise_named" sp := fun g => ⟨⟨f__law_raise_named, _, ["_law_number", "_law_one", "_law_other"], g, PySem.W.mg_of X G a__law_raise_named, k__law_raise_named, b__law_raise_named⟩⟩
  have QC__law_raise_named : ∀ {k : Nat} {sp : Sp}, FnG l.prog w K mg base CX0 k f__law_raise_named (PySem.W.fnOf "_law_raise_named" "_law_raise_named" (defArgs st__law_raise_named) (defBody st__law_raise_named) (defScope st__law_raise_named) .none kV_6 dc_6 pm_6 an_6 cd_6 ct_6) ["_law_number", "_law_one", "_law_other"] sp → Cg l.prog w K mg base CX0 k "_law_raise_named" sp := fun g => ⟨⟨f__law_raise_named, _, ["_law_number", "_law_one", "_law_other"], g, PySem.W.mg_of X G a__law_raise_named, k__law_raise_named, b__law_raise_named⟩⟩
  have Q__law_caught : ∀ {k : Nat} {sp : Sp}, FnG l.prog w K mg base CX0 k f__law_caught (PySem.W.fnOf "_law_caught" "_law_caught" (defArgs st__law_caught) (defBody st__law_caught) (defScope st__law_caught) .none kV_10 dc_10 pm_10 an_10 cd_10 ct_10) ["_law_number", "_law_one", "_law_other", "_law_is_named"] sp → Cg l.prog w K mg base CX0 k "_law_caught" sp := fun g => ⟨⟨f__law_caught, _, ["_law_number", "_law_one", "_law_other", "_law_is_named"], g, PySem.W.mg_of X G a__law_caught, k__law_caught, b__law_caught⟩⟩
  have Q__law_expected : ∀ {k : Nat} {sp : Sp}, FnG l.prog w K mg base CX0 k f__law_expected (PySem.W.fnOf "_law_expected" "_law_expected" (defArgs st__law_expected) (defBody st__law_expected) (defScope st__law_expected) .none kV_11 dc_11 pm_11 an_11 cd_11 ct_11) ["_law_number", "_law_one", "_law_other"] sp → Cg l.prog w K mg base CX0 k "_law_expected" sp := fun g => ⟨⟨f__law_expected, _, ["_law_number", "_law_one", "_law_other"], g, PySem.W.mg_of X G a__law_expected, k__law_expected, b__law_expected⟩⟩
  have O_InvalidChange : OxF K c_InvalidChange tlV _ _ _ "ValueError.__init__" := ⟨famV, lX_InvalidChange, pX_InvalidChange, bX_InvalidChange, tX_InvalidChange, kX_InvalidChange⟩
  have XF_InvalidChange : CEK l.prog w K mg base 1 "InvalidChange" c_InvalidChange ["change"] ["change"] [0] := ⟨PySem.W.mg_of X G aC_InvalidChange, ⟨_, _, _, _, _, O_InvalidChange⟩, f_InvalidChange___init__, (PySem.W.fnOf "__init__" "InvalidChange.__init__" (defArgs st_InvalidChange___init__) (defBody st_InvalidChange___init__) (defScope st_InvalidChange___init__) .none kV_13 dc_13 pm_13 an_13 cd_13 ct_13), ["self", "change"], iX_InvalidChange, jX_InvalidChange, xi_InvalidChange (D := ⟨c_Finished, c_Impossible, c_InvalidChange, c_InvalidCommand, c_InvalidLink, c_InvalidTable, c_InvalidText, c_NameTaken, c_NotItsTurn, c_PurseExceeded, c_TooAlike, c_TooManyRounds, c_Unknown, c_UnknownName, c_UnknownStation, c_UnknownTalk, c_WireError⟩) F_InvalidChange___init__ ⟨_, _, _, _, O_InvalidChange⟩ (mc := .type "type") ⟨⟨rd_WireError, gc_WireError⟩, wX_WireError, by decide +kernel⟩ (PySem.W.mg_of X G aC_WireError) xn_InvalidChange_change, b_InvalidChange___init__, fun s u ws h => match ws, h with | [_], _ => .of_eq rfl⟩
  have O_NameTaken : OxF K c_NameTaken tlV _ _ _ "ValueError.__init__" := ⟨famV, lX_NameTaken, pX_NameTaken, bX_NameTaken, tX_NameTaken, kX_NameTaken⟩
  have XF_NameTaken : CEK l.prog w K mg base 1 "NameTaken" c_NameTaken ["name"] ["name"] [0] := ⟨PySem.W.mg_of X G aC_NameTaken, ⟨_, _, _, _, _, O_NameTaken⟩, f_NameTaken___init__, (PySem.W.fnOf "__init__" "NameTaken.__init__" (defArgs st_NameTaken___init__) (defBody st_NameTaken___init__) (defScope st_NameTaken___init__) .none kV_14 dc_14 pm_14 an_14 cd_14 ct_14), ["self", "name"], iX_NameTaken, jX_NameTaken, xi_NameTaken (D := ⟨c_Finished, c_Impossible, c_InvalidChange, c_InvalidCommand, c_InvalidLink, c_InvalidTable, c_InvalidText, c_NameTaken, c_NotItsTurn, c_PurseExceeded, c_TooAlike, c_TooManyRounds, c_Unknown, c_UnknownName, c_UnknownStation, c_UnknownTalk, c_WireError⟩) F_NameTaken___init__ ⟨_, _, _, _, O_NameTaken⟩ (mc := .type "type") ⟨⟨rd_WireError, gc_WireError⟩, wX_WireError, by decide +kernel⟩ (PySem.W.mg_of X G aC_WireError) xn_NameTaken_name, b_NameTaken___init__, fun s u ws h => match ws, h with | [_], _ => .of_eq rfl⟩
  have O_NotItsTurn : OxF K c_NotItsTurn tlV _ _ _ "ValueError.__init__" := ⟨famV, lX_NotItsTurn, pX_NotItsTurn, bX_NotItsTurn, tX_NotItsTurn, kX_NotItsTurn⟩
  have XF_NotItsTurn : CEK l.prog w K mg base 1 "NotItsTurn" c_NotItsTurn ["station"] ["station"] [0] := ⟨PySem.W.mg_of X G aC_NotItsTurn, ⟨_, _, _, _, _, O_NotItsTurn⟩, f_NotItsTurn___init__, (PySem.W.fnOf "__init__" "NotItsTurn.__init__" (defArgs st_NotItsTurn___init__) (defBody st_NotItsTurn___init__) (defScope st_NotItsTurn___init__) .none kV_15 dc_15 pm_15 an_15 cd_15 ct_15), ["self", "station"], iX_NotItsTurn, jX_NotItsTurn, xi_NotItsTurn (D := ⟨c_Finished, c_Impossible, c_InvalidChange, c_InvalidCommand, c_InvalidLink, c_InvalidTable, c_InvalidText, c_NameTaken, c_NotItsTurn, c_PurseExceeded, c_TooAlike, c_TooManyRounds, c_Unknown, c_UnknownName, c_UnknownStation, c_UnknownTalk, c_WireError⟩) F_NotItsTurn___init__ ⟨_, _, _, _, O_NotItsTurn⟩ (mc := .type "type") ⟨⟨rd_WireError, gc_WireError⟩, wX_WireError, by decide +kernel⟩ (PySem.W.mg_of X G aC_WireError) xn_NotItsTurn_station, b_NotItsTurn___init__, fun s u ws h => match ws, h with | [_], _ => .of_eq rfl⟩
  have O_PurseExceeded : OxF K c_PurseExceeded tlV _ _ _ "ValueError.__init__" := ⟨famV, lX_PurseExceeded, pX_PurseExceeded, bX_PurseExceeded, tX_PurseExceeded, kX_PurseExceeded⟩
  have XF_PurseExceeded : CEK l.prog w K mg base 1 "PurseExceeded" c_PurseExceeded ["count"] ["count"] [0] := ⟨PySem.W.mg_of X G aC_PurseExceeded, ⟨_, _, _, _, _, O_PurseExceeded⟩, f_PurseExceeded___init__, (PySem.W.fnOf "__init__" "PurseExceeded.__init__" (defArgs st_PurseExceeded___init__) (defBody st_PurseExceeded___init__) (defScope st_PurseExceeded___init__) .none kV_16 dc_16 pm_16 an_16 cd_16 ct_16), ["self", "count"], iX_PurseExceeded, jX_PurseExceeded, xi_PurseExceeded (D := ⟨c_Finished, c_Impossible, c_InvalidChange, c_InvalidCommand, c_InvalidLink, c_InvalidTable, c_InvalidText, c_NameTaken, c_NotItsTurn, c_PurseExceeded, c_TooAlike, c_TooManyRounds, c_Unknown, c_UnknownName, c_UnknownStation, c_UnknownTalk, c_WireError⟩) F_PurseExceeded___init__ ⟨_, _, _, _, O_PurseExceeded⟩ (mc := .type "type") ⟨⟨rd_WireError, gc_WireError⟩, wX_WireError, by decide +kernel⟩ (PySem.W.mg_of X G aC_WireError) xn_PurseExceeded_count, b_PurseExceeded___init__, fun s u ws h => match ws, h with | [_], _ => .of_eq rfl⟩
  have O_TooAlike : OxF K c_TooAlike tlV _ _ _ "ValueError.__init__" := ⟨famV, lX_TooAlike, pX_TooAlike, bX_TooAlike, tX_TooAlike, kX_TooAlike⟩
  have XF_TooAlike : CEK l.prog w K mg base 1 "TooAlike" c_TooAlike ["first", "second"] ["second", "first"] [1, 0] := ⟨PySem.W.mg_of X G aC_TooAlike, ⟨_, _, _, _, _, O_TooAlike⟩, f_TooAlike___init__, (PySem.W.fnOf "__init__" "TooAlike.__init__" (defArgs st_TooAlike___init__) (defBody st_TooAlike___init__) (defScope st_TooAlike___init__) .none kV_17 dc_17 pm_17 an_17 cd_17 ct_17), ["self", "first", "second"], iX_TooAlike, jX_TooAlike, xi_TooAlike (D := ⟨c_Finished, c_Impossible, c_InvalidChange, c_InvalidCommand, c_InvalidLink, c_InvalidTable, c_InvalidText, c_NameTaken, c_NotItsTurn, c_PurseExceeded, c_TooAlike, c_TooManyRounds, c_Unknown, c_UnknownName, c_UnknownStation, c_UnknownTalk, c_WireError⟩) F_TooAlike___init__ ⟨_, _, _, _, O_TooAlike⟩ (mc := .type "type") ⟨⟨rd_WireError, gc_WireError⟩, wX_WireError, by decide +kernel⟩ (PySem.W.mg_of X G aC_WireError) xn_TooAlike_first xn_TooAlike_second, b_TooAlike___init__, fun s u ws h => match ws, h with | [_, _], _ => .of_eq rfl⟩
  have O_TooManyRounds : OxF K c_TooManyRounds tlV _ _ _ "ValueError.__init__" := ⟨famV, lX_TooManyRounds, pX_TooManyRounds, bX_TooManyRounds, tX_TooManyRounds, kX_TooManyRounds⟩
  have XF_TooManyRounds : CEK l.prog w K mg base 1 "TooManyRounds" c_TooManyRounds ["rounds"] ["rounds"] [0] := ⟨PySem.W.mg_of X G aC_TooManyRounds, ⟨_, _, _, _, _, O_TooManyRounds⟩, f_TooManyRounds___init__, (PySem.W.fnOf "__init__" "TooManyRounds.__init__" (defArgs st_TooManyRounds___init__) (defBody st_TooManyRounds___init__) (defScope st_TooManyRounds___init__) .none kV_18 dc_18 pm_18 an_18 cd_18 ct_18), ["self", "rounds"], iX_TooManyRounds, jX_TooManyRounds, xi_TooManyRounds (D := ⟨c_Finished, c_Impossible, c_InvalidChange, c_InvalidCommand, c_InvalidLink, c_InvalidTable, c_InvalidText, c_NameTaken, c_NotItsTurn, c_PurseExceeded, c_TooAlike, c_TooManyRounds, c_Unknown, c_UnknownName, c_UnknownStation, c_UnknownTalk, c_WireError⟩) F_TooManyRounds___init__ ⟨_, _, _, _, O_TooManyRounds⟩ (mc := .type "type") ⟨⟨rd_WireError, gc_WireError⟩, wX_WireError, by decide +kernel⟩ (PySem.W.mg_of X G aC_WireError) xn_TooManyRounds_rounds, b_TooManyRounds___init__, fun s u ws h => match ws, h with | [_], _ => .of_eq rfl⟩
  have O_UnknownName : OxF K c_UnknownName tlK _ _ _ "KeyError.__init__" := ⟨famK, lX_UnknownName, pX_UnknownName, bX_UnknownName, tX_UnknownName, kX_UnknownName⟩
  have XF_UnknownName : CEK l.prog w K mg base 1 "UnknownName" c_UnknownName ["name"] ["name"] [0] := ⟨PySem.W.mg_of X G aC_UnknownName, ⟨_, _, _, _, _, O_UnknownName⟩, f_UnknownName___init__, (PySem.W.fnOf "__init__" "UnknownName.__init__" (defArgs st_UnknownName___init__) (defBody st_UnknownName___init__) (defScope st_UnknownName___init__) .none kV_19 dc_19 pm_19 an_19 cd_19 ct_19), ["self", "name"], iX_UnknownName, jX_UnknownName, xi_UnknownName (D := ⟨c_Finished, c_Impossible, c_InvalidChange, c_InvalidCommand, c_InvalidLink, c_InvalidTable, c_InvalidText, c_NameTaken, c_NotItsTurn, c_PurseExceeded, c_TooAlike, c_TooManyRounds, c_Unknown, c_UnknownName, c_UnknownStation, c_UnknownTalk, c_WireError⟩) F_UnknownName___init__ ⟨_, _, _, _, O_UnknownName⟩ (mc := .type "type") ⟨⟨rd_Unknown, gc_Unknown⟩, wX_Unknown, by decide +kernel⟩ (PySem.W.mg_of X G aC_Unknown) xn_UnknownName_name, b_UnknownName___init__, fun s u ws h => match ws, h with | [_], _ => .of_eq rfl⟩
  have O_UnknownStation : OxF K c_UnknownStation tlK _ _ _ "KeyError.__init__" := ⟨famK, lX_UnknownStation, pX_UnknownStation, bX_UnknownStation, tX_UnknownStation, kX_UnknownStation⟩
  have XF_UnknownStation : CEK l.prog w K mg base 1 "UnknownStation" c_UnknownStation ["station"] ["station"] [0] := ⟨PySem.W.mg_of X G aC_UnknownStation, ⟨_, _, _, _, _, O_UnknownStation⟩, f_UnknownStation___init__, (PySem.W.fnOf "__init__" "UnknownStation.__init__" (defArgs st_UnknownStation___init__) (defBody st_UnknownStation___init__) (defScope st_UnknownStation___init__) .none kV_20 dc_20 pm_20 an_20 cd_20 ct_20), ["self", "station"], iX_UnknownStation, jX_UnknownStation, xi_UnknownStation (D := ⟨c_Finished, c_Impossible, c_InvalidChange, c_InvalidCommand, c_InvalidLink, c_InvalidTable, c_InvalidText, c_NameTaken, c_NotItsTurn, c_PurseExceeded, c_TooAlike, c_TooManyRounds, c_Unknown, c_UnknownName, c_UnknownStation, c_UnknownTalk, c_WireError⟩) F_UnknownStation___init__ ⟨_, _, _, _, O_UnknownStation⟩ (mc := .type "type") ⟨⟨rd_Unknown, gc_Unknown⟩, wX_Unknown, by decide +kernel⟩ (PySem.W.mg_of X G aC_Unknown) xn_UnknownStation_station, b_UnknownStation___init__, fun s u ws h => match ws, h with | [_], _ => .of_eq rfl⟩
  have O_UnknownTalk : OxF K c_UnknownTalk tlK _ _ _ "KeyError.__init__" := ⟨famK, lX_UnknownTalk, pX_UnknownTalk, bX_UnknownTalk, tX_UnknownTalk, kX_UnknownTalk⟩
  have XF_UnknownTalk : CEK l.prog w K mg base 1 "UnknownTalk" c_UnknownTalk ["talk"] ["talk"] [0] := ⟨PySem.W.mg_of X G aC_UnknownTalk, ⟨_, _, _, _, _, O_UnknownTalk⟩, f_UnknownTalk___init__, (PySem.W.fnOf "__init__" "UnknownTalk.__init__" (defArgs st_UnknownTalk___init__) (defBody st_UnknownTalk___init__) (defScope st_UnknownTalk___init__) .none kV_21 dc_21 pm_21 an_21 cd_21 ct_21), ["self", "talk"], iX_UnknownTalk, jX_UnknownTalk, xi_UnknownTalk (D := ⟨c_Finished, c_Impossible, c_InvalidChange, c_InvalidCommand, c_InvalidLink, c_InvalidTable, c_InvalidText, c_NameTaken, c_NotItsTurn, c_PurseExceeded, c_TooAlike, c_TooManyRounds, c_Unknown, c_UnknownName, c_UnknownStation, c_UnknownTalk, c_WireError⟩) F_UnknownTalk___init__ ⟨_, _, _, _, O_UnknownTalk⟩ (mc := .type "type") ⟨⟨rd_Unknown, gc_Unknown⟩, wX_Unknown, by decide +kernel⟩ (PySem.W.mg_of X G aC_Unknown) xn_UnknownTalk_talk, b_UnknownTalk___init__, fun s u ws h => match ws, h with | [_], _ => .of_eq rfl⟩
  clear a__law_source l__law_source c__law_source k__law_source a__law_draw l__law_draw c__law_draw k__law_draw a__law_pick l__law_pick c__law_pick k__law_pick a__law_thing l__law_thing c__law_thing k__law_thing a__law_raise_plain l__law_raise_plain c__law_raise_plain k__law_raise_plain a__law_raise l__law_raise c__law_raise k__law_raise a__law_raise_named l__law_raise_named c__law_raise_named k__law_raise_named a__law_marks l__law_marks c__law_marks k__law_marks a__law_wire_fields l__law_wire_fields c__law_wire_fields k__law_wire_fields a__law_unknown_fields l__law_unknown_fields c__law_unknown_fields k__law_unknown_fields a__law_caught l__law_caught c__law_caught k__law_caught a__law_expected l__law_expected c__law_expected k__law_expected a_law l_law c_law k_law aC_Finished aC_Impossible aC_InvalidChange aC_InvalidCommand aC_InvalidLink aC_InvalidTable aC_InvalidText aC_NameTaken aC_NotItsTurn aC_PurseExceeded aC_TooAlike aC_TooManyRounds aC_Unknown aC_UnknownName aC_UnknownStation aC_UnknownTalk aC_WireError z_IndexError z_KeyError z_ValueError z_dict z_enumerate z_int z_isinstance z_len z_list z_range z_repr z_tuple eX_Finished kX_Finished bX_Finished tX_Finished eX_Impossible kX_Impossible bX_Impossible tX_Impossible eX_InvalidCommand kX_InvalidCommand bX_InvalidCommand tX_InvalidCommand eX_InvalidLink kX_InvalidLink bX_InvalidLink tX_InvalidLink eX_InvalidTable kX_InvalidTable bX_InvalidTable tX_InvalidTable eX_InvalidText kX_InvalidText bX_InvalidText tX_InvalidText hnO htO cX_Finished mX_Finished gX_Finished aX_Finished dX_Finished cX_Impossible mX_Impossible gX_Impossible aX_Impossible dX_Impossible cX_InvalidChange mX_InvalidChange gX_InvalidChange aX_InvalidChange bX_InvalidChange dX_InvalidChange cX_InvalidCommand mX_InvalidCommand gX_InvalidCommand aX_InvalidCommand dX_InvalidCommand cX_InvalidLink mX_InvalidLink gX_InvalidLink aX_InvalidLink dX_InvalidLink cX_InvalidTable mX_InvalidTable gX_InvalidTable aX_InvalidTable dX_InvalidTable cX_InvalidText mX_InvalidText gX_InvalidText aX_InvalidText dX_InvalidText cX_NameTaken mX_NameTaken gX_NameTaken aX_NameTaken bX_NameTaken dX_NameTaken cX_NotItsTurn mX_NotItsTurn gX_NotItsTurn aX_NotItsTurn bX_NotItsTurn dX_NotItsTurn cX_PurseExceeded mX_PurseExceeded gX_PurseExceeded aX_PurseExceeded bX_PurseExceeded dX_PurseExceeded cX_TooAlike mX_TooAlike gX_TooAlike aX_TooAlike bX_TooAlike dX_TooAlike cX_TooManyRounds mX_TooManyRounds gX_TooManyRounds aX_TooManyRounds bX_TooManyRounds dX_TooManyRounds cX_UnknownName mX_UnknownName gX_UnknownName aX_UnknownName bX_UnknownName dX_UnknownName cX_UnknownStation mX_UnknownStation gX_UnknownStation aX_UnknownStation bX_UnknownStation dX_UnknownStation cX_UnknownTalk mX_UnknownTalk gX_UnknownTalk aX_UnknownTalk bX_UnknownTalk dX_UnknownTalk icX_Finished icX_Impossible icX_InvalidChange tX_InvalidChange icX_InvalidCommand icX_InvalidLink icX_InvalidTable icX_InvalidText icX_NameTaken tX_NameTaken icX_NotItsTurn tX_NotItsTurn icX_PurseExceeded tX_PurseExceeded icX_TooAlike tX_TooAlike icX_TooManyRounds tX_TooManyRounds bX_Unknown dX_Unknown tX_Unknown icX_Unknown icX_UnknownName tX_UnknownName icX_UnknownStation tX_UnknownStation icX_UnknownTalk tX_UnknownTalk bX_WireError dX_WireError tX_WireError icX_WireError xn_InvalidChange_change xn_NameTaken_name xn_NotItsTurn_station xn_PurseExceeded_count xn_TooAlike_first xn_TooAlike_second xn_TooManyRounds_rounds xn_UnknownName_name xn_UnknownStation_station xn_UnknownTalk_talk iX_InvalidChange l_InvalidChange___init__ c_InvalidChange___init__ k_InvalidChange___init__ lX_InvalidChange pX_InvalidChange jX_InvalidChange rd_WireError gc_WireError wX_WireError kX_InvalidChange iX_NameTaken l_NameTaken___init__ c_NameTaken___init__ k_NameTaken___init__ lX_NameTaken pX_NameTaken jX_NameTaken kX_NameTaken iX_NotItsTurn l_NotItsTurn___init__ c_NotItsTurn___init__ k_NotItsTurn___init__ lX_NotItsTurn pX_NotItsTurn jX_NotItsTurn kX_NotItsTurn iX_PurseExceeded l_PurseExceeded___init__ c_PurseExceeded___init__ k_PurseExceeded___init__ lX_PurseExceeded pX_PurseExceeded jX_PurseExceeded kX_PurseExceeded iX_TooAlike l_TooAlike___init__ c_TooAlike___init__ k_TooAlike___init__ lX_TooAlike pX_TooAlike jX_TooAlike kX_TooAlike iX_TooManyRounds l_TooManyRounds___init__ c_TooManyRounds___init__ k_TooManyRounds___init__ lX_TooManyRounds pX_TooManyRounds jX_TooManyRounds kX_TooManyRounds iX_UnknownName l_UnknownName___init__ c_UnknownName___init__ k_UnknownName___init__ lX_UnknownName pX_UnknownName jX_UnknownName rd_Unknown gc_Unknown wX_Unknown kX_UnknownName iX_UnknownStation l_UnknownStation___init__ c_UnknownStation___init__ k_UnknownStation___init__ lX_UnknownStation pX_UnknownStation jX_UnknownStation kX_UnknownStation iX_UnknownTalk l_UnknownTalk___init__ c_UnknownTalk___init__ k_UnknownTalk___init__ lX_UnknownTalk pX_UnknownTalk jX_UnknownTalk kX_UnknownTalk sX_Finished_Finished sX_Impossible_Finished sX_InvalidChange_Finished sX_InvalidCommand_Finished sX_InvalidLink_Finished sX_InvalidTable_Finished sX_InvalidText_Finished sX_NameTaken_Finished sX_NotItsTurn_Finished sX_PurseExceeded_Finished sX_TooAlike_Finished sX_TooManyRounds_Finished sX_UnknownName_Finished sX_UnknownStation_Finished sX_UnknownTalk_Finished nX_Impossible_Finished nX_InvalidChange_Finished nX_InvalidCommand_Finished nX_InvalidLink_Finished nX_InvalidTable_Finished nX_InvalidText_Finished nX_NameTaken_Finished nX_NotItsTurn_Finished nX_PurseExceeded_Finished nX_TooAlike_Finished nX_TooManyRounds_Finished nX_UnknownName_Finished nX_UnknownStation_Finished nX_UnknownTalk_Finished nX_Finished_Impossible nX_InvalidChange_Impossible nX_InvalidCommand_Impossible nX_InvalidLink_Impossible nX_InvalidTable_Impossible nX_InvalidText_Impossible nX_NameTaken_Impossible nX_NotItsTurn_Impossible nX_PurseExceeded_Impossible nX_TooAlike_Impossible nX_TooManyRounds_Impossible nX_UnknownName_Impossible nX_UnknownStation_Impossible nX_UnknownTalk_Impossible sX_Finished_Impossible sX_Impossible_Impossible sX_InvalidChange_Impossible sX_InvalidCommand_Impossible sX_InvalidLink_Impossible sX_InvalidTable_Impossible sX_InvalidText_Impossible sX_NameTaken_Impossible sX_NotItsTurn_Impossible sX_PurseExceeded_Impossible sX_TooAlike_Impossible sX_TooManyRounds_Impossible sX_UnknownName_Impossible sX_UnknownStation_Impossible sX_UnknownTalk_Impossible sB_Finished_IndexError sB_Impossible_IndexError sB_InvalidChange_IndexError sB_InvalidCommand_IndexError sB_InvalidLink_IndexError sB_InvalidTable_IndexError sB_InvalidText_IndexError sB_NameTaken_IndexError sB_NotItsTurn_IndexError sB_PurseExceeded_IndexError sB_TooAlike_IndexError sB_TooManyRounds_IndexError sB_UnknownName_IndexError sB_UnknownStation_IndexError sB_UnknownTalk_IndexError nX_Finished_InvalidChange nX_Impossible_InvalidChange nX_InvalidCommand_InvalidChange nX_InvalidLink_InvalidChange nX_InvalidTable_InvalidChange nX_InvalidText_InvalidChange nX_NameTaken_InvalidChange nX_NotItsTurn_InvalidChange nX_PurseExceeded_InvalidChange nX_TooAlike_InvalidChange nX_TooManyRounds_InvalidChange nX_UnknownName_InvalidChange nX_UnknownStation_InvalidChange nX_UnknownTalk_InvalidChange sX_Finished_InvalidChange sX_Impossible_InvalidChange sX_InvalidChange_InvalidChange sX_InvalidCommand_InvalidChange sX_InvalidLink_InvalidChange sX_InvalidTable_InvalidChange sX_InvalidText_InvalidChange sX_NameTaken_InvalidChange sX_NotItsTurn_InvalidChange sX_PurseExceeded_InvalidChange sX_TooAlike_InvalidChange sX_TooManyRounds_InvalidChange sX_UnknownName_InvalidChange sX_UnknownStation_InvalidChange sX_UnknownTalk_InvalidChange nX_Finished_InvalidCommand nX_Impossible_InvalidCommand nX_InvalidChange_InvalidCommand nX_InvalidLink_InvalidCommand nX_InvalidTable_InvalidCommand nX_InvalidText_InvalidCommand nX_NameTaken_InvalidCommand nX_NotItsTurn_InvalidCommand nX_PurseExceeded_InvalidCommand nX_TooAlike_InvalidCommand nX_TooManyRounds_InvalidCommand nX_UnknownName_InvalidCommand nX_UnknownStation_InvalidCommand nX_UnknownTalk_InvalidCommand sX_Finished_InvalidCommand sX_Impossible_InvalidCommand sX_InvalidChange_InvalidCommand sX_InvalidCommand_InvalidCommand sX_InvalidLink_InvalidCommand sX_InvalidTable_InvalidCommand sX_InvalidText_InvalidCommand sX_NameTaken_InvalidCommand sX_NotItsTurn_InvalidCommand sX_PurseExceeded_InvalidCommand sX_TooAlike_InvalidCommand sX_TooManyRounds_InvalidCommand sX_UnknownName_InvalidCommand sX_UnknownStation_InvalidCommand sX_UnknownTalk_InvalidCommand nX_Finished_InvalidLink nX_Impossible_InvalidLink nX_InvalidChange_InvalidLink nX_InvalidCommand_InvalidLink nX_InvalidTable_InvalidLink nX_InvalidText_InvalidLink nX_NameTaken_InvalidLink nX_NotItsTurn_InvalidLink nX_PurseExceeded_InvalidLink nX_TooAlike_InvalidLink nX_TooManyRounds_InvalidLink nX_UnknownName_InvalidLink nX_UnknownStation_InvalidLink nX_UnknownTalk_InvalidLink sX_Finished_InvalidLink sX_Impossible_InvalidLink sX_InvalidChange_InvalidLink sX_InvalidCommand_InvalidLink sX_InvalidLink_InvalidLink sX_InvalidTable_InvalidLink sX_InvalidText_InvalidLink sX_NameTaken_InvalidLink sX_NotItsTurn_InvalidLink sX_PurseExceeded_InvalidLink sX_TooAlike_InvalidLink sX_TooManyRounds_InvalidLink sX_UnknownName_InvalidLink sX_UnknownStation_InvalidLink sX_UnknownTalk_InvalidLink nX_Finished_InvalidTable nX_Impossible_InvalidTable nX_InvalidChange_InvalidTable nX_InvalidCommand_InvalidTable nX_InvalidLink_InvalidTable nX_InvalidText_InvalidTable nX_NameTaken_InvalidTable nX_NotItsTurn_InvalidTable nX_PurseExceeded_InvalidTable nX_TooAlike_InvalidTable nX_TooManyRounds_InvalidTable nX_UnknownName_InvalidTable nX_UnknownStation_InvalidTable nX_UnknownTalk_InvalidTable sX_Finished_InvalidTable sX_Impossible_InvalidTable sX_InvalidChange_InvalidTable sX_InvalidCommand_InvalidTable sX_InvalidLink_InvalidTable sX_InvalidTable_InvalidTable sX_InvalidText_InvalidTable sX_NameTaken_InvalidTable sX_NotItsTurn_InvalidTable sX_PurseExceeded_InvalidTable sX_TooAlike_InvalidTable sX_TooManyRounds_InvalidTable sX_UnknownName_InvalidTable sX_UnknownStation_InvalidTable sX_UnknownTalk_InvalidTable nX_Finished_InvalidText nX_Impossible_InvalidText nX_InvalidChange_InvalidText nX_InvalidCommand_InvalidText nX_InvalidLink_InvalidText nX_InvalidTable_InvalidText nX_NameTaken_InvalidText nX_NotItsTurn_InvalidText nX_PurseExceeded_InvalidText nX_TooAlike_InvalidText nX_TooManyRounds_InvalidText nX_UnknownName_InvalidText nX_UnknownStation_InvalidText nX_UnknownTalk_InvalidText sX_Finished_InvalidText sX_Impossible_InvalidText sX_InvalidChange_InvalidText sX_InvalidCommand_InvalidText sX_InvalidLink_InvalidText sX_InvalidTable_InvalidText sX_InvalidText_InvalidText sX_NameTaken_InvalidText sX_NotItsTurn_InvalidText sX_PurseExceeded_InvalidText sX_TooAlike_InvalidText sX_TooManyRounds_InvalidText sX_UnknownName_InvalidText sX_UnknownStation_InvalidText sX_UnknownTalk_InvalidText sB_Finished_KeyError sB_Impossible_KeyError sB_InvalidChange_KeyError sB_InvalidCommand_KeyError sB_InvalidLink_KeyError sB_InvalidTable_KeyError sB_InvalidText_KeyError sB_NameTaken_KeyError sB_NotItsTurn_KeyError sB_PurseExceeded_KeyError sB_TooAlike_KeyError sB_TooManyRounds_KeyError sB_UnknownName_KeyError sB_UnknownStation_KeyError sB_UnknownTalk_KeyError nX_Finished_NameTaken nX_Impossible_NameTaken nX_InvalidChange_NameTaken nX_InvalidCommand_NameTaken nX_InvalidLink_NameTaken nX_InvalidTable_NameTaken nX_InvalidText_NameTaken nX_NotItsTurn_NameTaken nX_PurseExceeded_NameTaken nX_TooAlike_NameTaken nX_TooManyRounds_NameTaken nX_UnknownName_NameTaken nX_UnknownStation_NameTaken nX_UnknownTalk_NameTaken sX_Finished_NameTaken sX_Impossible_NameTaken sX_InvalidChange_NameTaken sX_InvalidCommand_NameTaken sX_InvalidLink_NameTaken sX_InvalidTable_NameTaken sX_InvalidText_NameTaken sX_NameTaken_NameTaken sX_NotItsTurn_NameTaken sX_PurseExceeded_NameTaken sX_TooAlike_NameTaken sX_TooManyRounds_NameTaken sX_UnknownName_NameTaken sX_UnknownStation_NameTaken sX_UnknownTalk_NameTaken nX_Finished_NotItsTurn nX_Impossible_NotItsTurn nX_InvalidChange_NotItsTurn nX_InvalidCommand_NotItsTurn nX_InvalidLink_NotItsTurn nX_InvalidTable_NotItsTurn nX_InvalidText_NotItsTurn nX_NameTaken_NotItsTurn nX_PurseExceeded_NotItsTurn nX_TooAlike_NotItsTurn nX_TooManyRounds_NotItsTurn nX_UnknownName_NotItsTurn nX_UnknownStation_NotItsTurn nX_UnknownTalk_NotItsTurn sX_Finished_NotItsTurn sX_Impossible_NotItsTurn sX_InvalidChange_NotItsTurn sX_InvalidCommand_NotItsTurn sX_InvalidLink_NotItsTurn sX_InvalidTable_NotItsTurn sX_InvalidText_NotItsTurn sX_NameTaken_NotItsTurn sX_NotItsTurn_NotItsTurn sX_PurseExceeded_NotItsTurn sX_TooAlike_NotItsTurn sX_TooManyRounds_NotItsTurn sX_UnknownName_NotItsTurn sX_UnknownStation_NotItsTurn sX_UnknownTalk_NotItsTurn nX_Finished_PurseExceeded nX_Impossible_PurseExceeded nX_InvalidChange_PurseExceeded nX_InvalidCommand_PurseExceeded nX_InvalidLink_PurseExceeded nX_InvalidTable_PurseExceeded nX_InvalidText_PurseExceeded nX_NameTaken_PurseExceeded nX_NotItsTurn_PurseExceeded nX_TooAlike_PurseExceeded nX_TooManyRounds_PurseExceeded nX_UnknownName_PurseExceeded nX_UnknownStation_PurseExceeded nX_UnknownTalk_PurseExceeded sX_Finished_PurseExceeded sX_Impossible_PurseExceeded sX_InvalidChange_PurseExceeded sX_InvalidCommand_PurseExceeded sX_InvalidLink_PurseExceeded sX_InvalidTable_PurseExceeded sX_InvalidText_PurseExceeded sX_NameTaken_PurseExceeded sX_NotItsTurn_PurseExceeded sX_PurseExceeded_PurseExceeded sX_TooAlike_PurseExceeded sX_TooManyRounds_PurseExceeded sX_UnknownName_PurseExceeded sX_UnknownStation_PurseExceeded sX_UnknownTalk_PurseExceeded nX_Finished_TooAlike nX_Impossible_TooAlike nX_InvalidChange_TooAlike nX_InvalidCommand_TooAlike nX_InvalidLink_TooAlike nX_InvalidTable_TooAlike nX_InvalidText_TooAlike nX_NameTaken_TooAlike nX_NotItsTurn_TooAlike nX_PurseExceeded_TooAlike nX_TooManyRounds_TooAlike nX_UnknownName_TooAlike nX_UnknownStation_TooAlike nX_UnknownTalk_TooAlike sX_Finished_TooAlike sX_Impossible_TooAlike sX_InvalidChange_TooAlike sX_InvalidCommand_TooAlike sX_InvalidLink_TooAlike sX_InvalidTable_TooAlike sX_InvalidText_TooAlike sX_NameTaken_TooAlike sX_NotItsTurn_TooAlike sX_PurseExceeded_TooAlike sX_TooAlike_TooAlike sX_TooManyRounds_TooAlike sX_UnknownName_TooAlike sX_UnknownStation_TooAlike sX_UnknownTalk_TooAlike nX_Finished_TooManyRounds nX_Impossible_TooManyRounds nX_InvalidChange_TooManyRounds nX_InvalidCommand_TooManyRounds nX_InvalidLink_TooManyRounds nX_InvalidTable_TooManyRounds nX_InvalidText_TooManyRounds nX_NameTaken_TooManyRounds nX_NotItsTurn_TooManyRounds nX_PurseExceeded_TooManyRounds nX_TooAlike_TooManyRounds nX_UnknownName_TooManyRounds nX_UnknownStation_TooManyRounds nX_UnknownTalk_TooManyRounds sX_Finished_TooManyRounds sX_Impossible_TooManyRounds sX_InvalidChange_TooManyRounds sX_InvalidCommand_TooManyRounds sX_InvalidLink_TooManyRounds sX_InvalidTable_TooManyRounds sX_InvalidText_TooManyRounds sX_NameTaken_TooManyRounds sX_NotItsTurn_TooManyRounds sX_PurseExceeded_TooManyRounds sX_TooAlike_TooManyRounds sX_TooManyRounds_TooManyRounds sX_UnknownName_TooManyRounds sX_UnknownStation_TooManyRounds sX_UnknownTalk_TooManyRounds sX_Finished_Unknown sX_Impossible_Unknown sX_InvalidChange_Unknown sX_InvalidCommand_Unknown sX_InvalidLink_Unknown sX_InvalidTable_Unknown sX_InvalidText_Unknown sX_NameTaken_Unknown sX_NotItsTurn_Unknown sX_PurseExceeded_Unknown sX_TooAlike_Unknown sX_TooManyRounds_Unknown sX_UnknownName_Unknown sX_UnknownStation_Unknown sX_UnknownTalk_Unknown nX_Finished_Unknown nX_Impossible_Unknown nX_InvalidChange_Unknown nX_InvalidCommand_Unknown nX_InvalidLink_Unknown nX_InvalidTable_Unknown nX_InvalidText_Unknown nX_NameTaken_Unknown nX_NotItsTurn_Unknown nX_PurseExceeded_Unknown nX_TooAlike_Unknown nX_TooManyRounds_Unknown nX_Finished_UnknownName nX_Impossible_UnknownName nX_InvalidChange_UnknownName nX_InvalidCommand_UnknownName nX_InvalidLink_UnknownName nX_InvalidTable_UnknownName nX_InvalidText_UnknownName nX_NameTaken_UnknownName nX_NotItsTurn_UnknownName nX_PurseExceeded_UnknownName nX_TooAlike_UnknownName nX_TooManyRounds_UnknownName nX_UnknownStation_UnknownName nX_UnknownTalk_UnknownName sX_Finished_UnknownName sX_Impossible_UnknownName sX_InvalidChange_UnknownName sX_InvalidCommand_UnknownName sX_InvalidLink_UnknownName sX_InvalidTable_UnknownName sX_InvalidText_UnknownName sX_NameTaken_UnknownName sX_NotItsTurn_UnknownName sX_PurseExceeded_UnknownName sX_TooAlike_UnknownName sX_TooManyRounds_UnknownName sX_UnknownName_UnknownName sX_UnknownStation_UnknownName sX_UnknownTalk_UnknownName nX_Finished_UnknownStation nX_Impossible_UnknownStation nX_InvalidChange_UnknownStation nX_InvalidCommand_UnknownStation nX_InvalidLink_UnknownStation nX_InvalidTable_UnknownStation nX_InvalidText_UnknownStation nX_NameTaken_UnknownStation nX_NotItsTurn_UnknownStation nX_PurseExceeded_UnknownStation nX_TooAlike_UnknownStation nX_TooManyRounds_UnknownStation nX_UnknownName_UnknownStation nX_UnknownTalk_UnknownStation sX_Finished_UnknownStation sX_Impossible_UnknownStation sX_InvalidChange_UnknownStation sX_InvalidCommand_UnknownStation sX_InvalidLink_UnknownStation sX_InvalidTable_UnknownStation sX_InvalidText_UnknownStation sX_NameTaken_UnknownStation sX_NotItsTurn_UnknownStation sX_PurseExceeded_UnknownStation sX_TooAlike_UnknownStation sX_TooManyRounds_UnknownStation sX_UnknownName_UnknownStation sX_UnknownStation_UnknownStation sX_UnknownTalk_UnknownStation nX_Finished_UnknownTalk nX_Impossible_UnknownTalk nX_InvalidChange_UnknownTalk nX_InvalidCommand_UnknownTalk nX_InvalidLink_UnknownTalk nX_InvalidTable_UnknownTalk nX_InvalidText_UnknownTalk nX_NameTaken_UnknownTalk nX_NotItsTurn_UnknownTalk nX_PurseExceeded_UnknownTalk nX_TooAlike_UnknownTalk nX_TooManyRounds_UnknownTalk nX_UnknownName_UnknownTalk nX_UnknownStation_UnknownTalk sX_Finished_UnknownTalk sX_Impossible_UnknownTalk sX_InvalidChange_UnknownTalk sX_InvalidCommand_UnknownTalk sX_InvalidLink_UnknownTalk sX_InvalidTable_UnknownTalk sX_InvalidText_UnknownTalk sX_NameTaken_UnknownTalk sX_NotItsTurn_UnknownTalk sX_PurseExceeded_UnknownTalk sX_TooAlike_UnknownTalk sX_TooManyRounds_UnknownTalk sX_UnknownName_UnknownTalk sX_UnknownStation_UnknownTalk sX_UnknownTalk_UnknownTalk sB_Finished_ValueError sB_Impossible_ValueError sB_InvalidChange_ValueError sB_InvalidCommand_ValueError sB_InvalidLink_ValueError sB_InvalidTable_ValueError sB_InvalidText_ValueError sB_NameTaken_ValueError sB_NotItsTurn_ValueError sB_PurseExceeded_ValueError sB_TooAlike_ValueError sB_TooManyRounds_ValueError sB_UnknownName_ValueError sB_UnknownStation_ValueError sB_UnknownTalk_ValueError sX_Finished_WireError sX_Impossible_WireError sX_InvalidChange_WireError sX_InvalidCommand_WireError sX_InvalidLink_WireError sX_InvalidTable_WireError sX_InvalidText_WireError sX_NameTaken_WireError sX_NotItsTurn_WireError sX_PurseExceeded_WireError sX_TooAlike_WireError sX_TooManyRounds_WireError sX_UnknownName_WireError sX_UnknownStation_WireError sX_UnknownTalk_WireError nX_UnknownName_WireError nX_UnknownStation_WireError nX_UnknownTalk_WireError b__law_source b__law_draw b__law_pick b__law_thing b__law_raise_plain b__law_raise b__law_raise_named b__law_marks b__law_wire_fields b__law_unknown_fields b__law_caught b__law_expected b_law b_InvalidChange___init__ b_NameTaken___init__ b_NotItsTurn___init__ b_PurseExceeded___init__ b_TooAlike___init__ b_TooManyRounds___init__ b_UnknownName___init__ b_UnknownStation___init__ b_UnknownTalk___init__
  have g_src := S__law_source (ok_source (n := 0) T F__law_source)
  have g_drw := S__law_draw (ok_drw (n := 0) T F__law_draw)
  have g_pck := S__law_pick (ok_pck (n := 1) T (Q__law_draw (g_drw.mono (by omega))) F__law_pick)
  have g_thg := rec_fn (P := l.prog) (w := w) (K := K) (mg := mg) (base := base) (n := 2) (asp := asp_thg) (fun d prev hp g => ok_thg_step (n := 2 + d) T d hp (Q__law_draw (g_drw.mono (by omega))) (Q__law_pick (g_pck.mono (by omega))) (Q__law_thing g) F__law_thing)
  have g_rsp := S__law_raise_plain (ok_rsp (n := 0) T F__law_raise_plain)
  have g_rse := S__law_raise (ok_rse (n := 1) T ⟨XF_InvalidChange, XF_PurseExceeded, XF_TooAlike, XF_TooManyRounds, XF_NotItsTurn, XF_NameTaken, XF_UnknownStation, XF_UnknownTalk, XF_UnknownName⟩ (Q__law_raise_plain (g_rsp.mono (by omega))) F__law_raise)
  have g_rsn := S__law_raise_named (ok_rsn (n := 3) T ⟨XF_InvalidChange.mono (by omega), XF_PurseExceeded.mono (by omega), XF_TooAlike.mono (by omega), XF_TooManyRounds.mono (by omega), XF_NotItsTurn.mono (by omega), XF_NameTaken.mono (by omega), XF_UnknownStation.mono (by omega), XF_UnknownTalk.mono (by omega), XF_UnknownName.mono (by omega)⟩ (Q__law_raise (g_rse.mono (by omega))) F__law_raise_named)
  have g_cgt := S__law_caught (ok_cgt (n := 5) T (Q__law_raise_named (g_rsn.mono (by omega))) (Q__law_raise (g_rse.mono (by omega))) (QP__law_marks fun a C oe d hz hf => ok_mrk (n := 4) T hz hf F__law_marks) (QP__law_wire_fields fun a C oe d hz hf => ok_wfl (n := 4) T hz hf F__law_wire_fields) (QP__law_unknown_fields fun a C oe d hz hf => ok_ufl (n := 4) T hz hf F__law_unknown_fields) F__law_caught)
  have g_exp := S__law_expected (ok_exp (n := 0) T F__law_expected)
  have g_law := S_law (ok_law (n := 6) T (Q__law_source (g_src.mono (by omega))) (Q__law_thing ((g_thg 3).mono (by omega))) (Q__law_caught (g_cgt.mono (by omega))) (Q__law_expected (g_exp.mono (by omega))) F_law)
  exact g_law.mono (by omega)
end K01
theorem PySem.Challenge.cw_lyingwire_k01_errors_holds : PySem.Challenge.rw_lyingwire_k01_errors.Holds :=
  K01.early K01.all_mk

