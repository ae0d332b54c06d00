import PyProof.Rows.All
import Wide.All
import OpenK.AllK
import Wide.FinOn
import PySem.Challenge.RW_xm0606_01
set_option Elab.async false
set_option maxRecDepth 100000
set_option maxHeartbeats 0
set_option genSizeOf false
set_option genSizeOfSpec false
set_option genInjectivity false
set_option linter.all false
namespace Mine
open PySem PySem.W PyProof.Rows PySem.Calls
noncomputable def bod : List Stmt := PySem.Challenge.pw_xm0606_01.main.body
noncomputable def stA : List Stmt → Nat → Stmt
  | [], _ => .Pass default
  | s :: _, 0 => s
  | _ :: r, n + 1 => stA r n
noncomputable def clsB : Stmt → List Stmt
  | .ClassDef _ _ _ b _ _ _ _ _ _ _ => b
  | _ => []
noncomputable def kC (a : Addr) (o : Obj) : Addr × Obj := (a, o)
noncomputable def vs (x : String) (t : Nat) : Value := .str (Str.ofString x) t
noncomputable def vi (x t : Nat) : Value := .int x t
noncomputable def kE (P : Params) (x : String) (t : Nat) (v : Value) : DictEntry := { hash := PyData.keyHash P (Str.ofString x), key := vs x t, val := v }
noncomputable def dO (es : List DictEntry) (n : Nat) : Obj := { cls := .type "dict", data := .dict es.toArray n }
noncomputable def mkF (s : Stmt) (q : String) (dV pm : Value) (cd : Addr) : Obj := match s with
  | .FunctionDef n a b _ _ _ sc _ _ _ => { cls := .type "function", data := .func { name := n, qualname := Str.ofString q, params := a, body := .stmts b, scope := sc, globals := 3, closure := [], defaults := dV, kwdefaults := .none, pyModule := pm, code := .ref cd } }
  | _ => default
noncomputable def cO (n q : String) (t l k r : Nat) (b : Bool) (T : Nat) : Obj :=
  { cls := .type "code", data := .fields #[vs n t, vs q (t + 1), vs "/claim/cut.py" (t + 2), vi l 0, vi k 0, vi 0 0, vi 0 0, vi 3 0, .ref r, .bool true, vi 181 0, .ref (r + 1), .none,
    (match b with | true => .ref (r + 2) | false => .none), (match b with | true => .ref (r + 3) | false => .none), .ref (match b with | true => r + 4 | false => r + 2), vi T 0, vi l 0, vs "/claim/cut.py" (T + 1)] }
noncomputable def kO (x : String) (bs mro : List Value) (ns : Addr) (sub : List Value) (b : Option Value) (t1 t2 : Nat) (nw : String) : Obj :=
  { cls := .type "type", data := .cls { name := Str.ofString x, bases := bs, mro := mro, ns := ns, qualname := Str.ofString x, subclasses := sub }, slots := #[b, none, some (vs x t1), some (vs x t2), some (.builtin nw), some (.bool true)] }
noncomputable def KK (P : Params) : Frag := [
  kC (nat_lit 3) (dO [kE P "__name__" (nat_lit 165) (vs "law_xm0606_01" (nat_lit 676)), kE P "__doc__" (nat_lit 166) (.none), kE P "__package__" (nat_lit 167) (.none), kE P "__loader__" (nat_lit 168) (.builtin "__main__.__loader__#opaque"), kE P "__spec__" (nat_lit 169) (.none), kE P "__annotations__" (nat_lit 170) (.ref (nat_lit 6)), kE P "__builtins__" (nat_lit 171) (.ref (nat_lit 4)), kE P "__file__" (nat_lit 173) (vs "/claim/cut.py" (nat_lit 172)), kE P "__cached__" (nat_lit 174) (.none), kE P "_wall" (nat_lit 193) (.ref (nat_lit 21)), kE P "LendError" (nat_lit 227) (.ref (nat_lit 39)), kE P "TraitFault" (nat_lit 243) (.ref (nat_lit 52)), kE P "head_pairs" (nat_lit 255) (.ref (nat_lit 61)), kE P "could_be" (nat_lit 269) (.ref (nat_lit 68)), kE P "match_type" (nat_lit 285) (.ref (nat_lit 75)), kE P "match_all" (nat_lit 299) (.ref (nat_lit 82)), kE P "COPY" (nat_lit 303) (vs "Copy" (nat_lit 302)), kE P "parts_of" (nat_lit 311) (.ref (nat_lit 89)), kE P "rebuilt" (nat_lit 320) (.ref (nat_lit 96)), kE P "substituted" (nat_lit 326) (.ref (nat_lit 101)), kE P "region_text" (nat_lit 333) (.ref (nat_lit 108)), kE P "type_text" (nat_lit 339) (.ref (nat_lit 113)), kE P "MOST_DEEP" (nat_lit 343) (vi (nat_lit 60) (nat_lit 342)), kE P "names_of" (nat_lit 349) (.ref (nat_lit 118)), kE P "matches_impl" (nat_lit 360) (.ref (nat_lit 125)), kE P "is_plainly_copy" (nat_lit 367) (.ref (nat_lit 132)), kE P "Selection" (nat_lit 449) (.ref (nat_lit 180)), kE P "select" (nat_lit 463) (.ref (nat_lit 191)), kE P "DROP" (nat_lit 467) (vs "Drop" (nat_lit 466)), kE P "param_names" (nat_lit 473) (.ref (nat_lit 196)), kE P "substitution_of" (nat_lit 483) (.ref (nat_lit 203)), kE P "closed_ref" (nat_lit 489) (.ref (nat_lit 208)), kE P "resolved_ref" (nat_lit 495) (.ref (nat_lit 213)), kE P "drop_impl" (nat_lit 504) (.ref (nat_lit 220)), kE P "Sig" (nat_lit 549) (.ref (nat_lit 237)), kE P "TraitRow" (nat_lit 584) (.ref (nat_lit 258)), kE P "ImplRow" (nat_lit 628) (.ref (nat_lit 280)), kE P "World" (nat_lit 675) (.ref (nat_lit 309)), kE P "_law_pool" (nat_lit 688) (.ref (nat_lit 320)), kE P "_law_take" (nat_lit 697) (.ref (nat_lit 327)), kE P "_law_one" (nat_lit 705) (.ref (nat_lit 334)), kE P "_law_twins" (nat_lit 720) (.ref (nat_lit 341)), kE P "_law_closed" (nat_lit 727) (.ref (nat_lit 348)), kE P "_law_refs_right" (nat_lit 733) (.ref (nat_lit 353)), kE P "_law_names_right" (nat_lit 739) (.ref (nat_lit 358)), kE P "_law_impl" (nat_lit 757) (.ref (nat_lit 365)), kE P "_law_table" (nat_lit 770) (.ref (nat_lit 372)), kE P "_law_due" (nat_lit 776) (.ref (nat_lit 377)), kE P "_law_meant" (nat_lit 784) (.ref (nat_lit 384)), kE P "_law_world" (nat_lit 790) (.ref (nat_lit 389)), kE P "_law_meant_right" (nat_lit 807) (.ref (nat_lit 396)), kE P "_law_drops_right" (nat_lit 813) (.ref (nat_lit 401)), kE P "law" (nat_lit 823) (.ref (nat_lit 408))] (nat_lit 53)),
  kC (nat_lit 29) { cls := .type "tuple", data := .seq #[vi (nat_lit 0) (nat_lit 208)] },
  kC (nat_lit 35) (cO "__init__" "LendError.__init__" (nat_lit 209) (nat_lit 7) (nat_lit 3) (nat_lit 30) true (nat_lit 215)),
  kC (nat_lit 36) (mkF (stA (clsB (stA bod 2)) 0) "LendError.__init__" (.ref (nat_lit 29)) (vs "lendcore.errors" (nat_lit 194)) (nat_lit 35)),
  kC (nat_lit 38) (dO [kE P "__module__" (nat_lit 203) (vs "lendcore.errors" (nat_lit 194)), kE P "__firstlineno__" (nat_lit 207) (vi (nat_lit 5) (nat_lit 206)), kE P "__init__" (nat_lit 217) (.ref (nat_lit 36)), kE P "__static_attributes__" (nat_lit 220) (.ref (nat_lit 37)), kE P "__weakref__" (nat_lit 222) (.ref (nat_lit 40)), kE P "__doc__" (nat_lit 223) (.none)] (nat_lit 3)),
  kC (nat_lit 39) (kO "LendError" [.type "Exception"] [.ref (nat_lit 39), .type "Exception", .type "BaseException", .type "object"] (nat_lit 38) [.ref (nat_lit 52)] (some (.ref (nat_lit 22))) (nat_lit 196) (nat_lit 204) "Exception.__new__"),
  kC (nat_lit 51) (dO [kE P "__module__" (nat_lit 235) (vs "lendcore.errors" (nat_lit 194)), kE P "__firstlineno__" (nat_lit 239) (vi (nat_lit 11) (nat_lit 238)), kE P "__static_attributes__" (nat_lit 240) (.ref (nat_lit 50)), kE P "__doc__" (nat_lit 241) (.none)] (nat_lit 2)),
  kC (nat_lit 52) (kO "TraitFault" [.ref (nat_lit 39)] [.ref (nat_lit 52), .ref (nat_lit 39), .type "Exception", .type "BaseException", .type "object"] (nat_lit 51) [] (some (.ref (nat_lit 43))) (nat_lit 228) (nat_lit 236) "Exception.__new__"),
  kC (nat_lit 60) (cO "head_pairs" "head_pairs" (nat_lit 246) (nat_lit 14) (nat_lit 2) (nat_lit 55) true (nat_lit 253)),
  kC (nat_lit 61) (mkF (stA bod 5) "head_pairs" (.none) (vs "lendcore.type_heads" (nat_lit 244)) (nat_lit 60)),
  kC (nat_lit 67) (cO "could_be" "could_be" (nat_lit 256) (nat_lit 32) (nat_lit 2) (nat_lit 62) true (nat_lit 267)),
  kC (nat_lit 68) (mkF (stA bod 6) "could_be" (.none) (vs "lendcore.type_heads" (nat_lit 244)) (nat_lit 67)),
  kC (nat_lit 74) (cO "match_type" "match_type" (nat_lit 270) (nat_lit 52) (nat_lit 4) (nat_lit 69) true (nat_lit 283)),
  kC (nat_lit 75) (mkF (stA bod 7) "match_type" (.none) (vs "lendcore.type_heads" (nat_lit 244)) (nat_lit 74)),
  kC (nat_lit 81) (cO "match_all" "match_all" (nat_lit 286) (nat_lit 73) (nat_lit 4) (nat_lit 76) true (nat_lit 297)),
  kC (nat_lit 82) (mkF (stA bod 8) "match_all" (.none) (vs "lendcore.type_heads" (nat_lit 244)) (nat_lit 81)),
  kC (nat_lit 88) (cO "parts_of" "parts_of" (nat_lit 304) (nat_lit 85) (nat_lit 1) (nat_lit 83) true (nat_lit 309)),
  kC (nat_lit 89) (mkF (stA bod 11) "parts_of" (.none) (vs "lendcore.types" (nat_lit 300)) (nat_lit 88)),
  kC (nat_lit 95) (cO "rebuilt" "rebuilt" (nat_lit 312) (nat_lit 94) (nat_lit 2) (nat_lit 90) true (nat_lit 318)),
  kC (nat_lit 96) (mkF (stA bod 12) "rebuilt" (.none) (vs "lendcore.types" (nat_lit 300)) (nat_lit 95)),
  kC (nat_lit 100) (cO "substituted" "substituted" (nat_lit 321) (nat_lit 105) (nat_lit 2) (nat_lit 97) false (nat_lit 324)),
  kC (nat_lit 101) (mkF (stA bod 13) "substituted" (.none) (vs "lendcore.types" (nat_lit 300)) (nat_lit 100)),
  kC (nat_lit 107) (cO "region_text" "region_text" (nat_lit 327) (nat_lit 109) (nat_lit 1) (nat_lit 102) true (nat_lit 331)),
  kC (nat_lit 108) (mkF (stA bod 14) "region_text" (.none) (vs "lendcore.types" (nat_lit 300)) (nat_lit 107)),
  kC (nat_lit 112) (cO "type_text" "type_text" (nat_lit 334) (nat_lit 113) (nat_lit 1) (nat_lit 109) false (nat_lit 337)),
  kC (nat_lit 113) (mkF (stA bod 15) "type_text" (.none) (vs "lendcore.types" (nat_lit 300)) (nat_lit 112)),
  kC (nat_lit 117) (cO "names_of" "names_of" (nat_lit 344) (nat_lit 137) (nat_lit 1) (nat_lit 114) false (nat_lit 347)),
  kC (nat_lit 118) (mkF (stA bod 18) "names_of" (.none) (vs "lendcore.traits" (nat_lit 340)) (nat_lit 117)),
  kC (nat_lit 124) (cO "matches_impl" "matches_impl" (nat_lit 350) (nat_lit 139) (nat_lit 3) (nat_lit 119) true (nat_lit 358)),
  kC (nat_lit 125) (mkF (stA bod 19) "matches_impl" (.none) (vs "lendcore.traits" (nat_lit 340)) (nat_lit 124)),
  kC (nat_lit 131) (cO "is_plainly_copy" "is_plainly_copy" (nat_lit 361) (nat_lit 145) (nat_lit 1) (nat_lit 126) true (nat_lit 365)),
  kC (nat_lit 132) (mkF (stA bod 20) "is_plainly_copy" (.none) (vs "lendcore.traits" (nat_lit 340)) (nat_lit 131)),
  kC (nat_lit 145) (cO "__init__" "Selection.__init__" (nat_lit 380) (nat_lit 153) (nat_lit 3) (nat_lit 140) true (nat_lit 386)),
  kC (nat_lit 146) (mkF (stA (clsB (stA bod 21)) 0) "Selection.__init__" (.none) (vs "lendcore.traits" (nat_lit 340)) (nat_lit 145)),
  kC (nat_lit 152) (cO "bound_of" "Selection.bound_of" (nat_lit 389) (nat_lit 158) (nat_lit 3) (nat_lit 147) true (nat_lit 395)),
  kC (nat_lit 153) (mkF (stA (clsB (stA bod 21)) 1) "Selection.bound_of" (.none) (vs "lendcore.traits" (nat_lit 340)) (nat_lit 152)),
  kC (nat_lit 157) (cO "needs_of" "Selection.needs_of" (nat_lit 398) (nat_lit 163) (nat_lit 3) (nat_lit 154) false (nat_lit 401)),
  kC (nat_lit 158) (mkF (stA (clsB (stA bod 21)) 2) "Selection.needs_of" (.none) (vs "lendcore.traits" (nat_lit 340)) (nat_lit 157)),
  kC (nat_lit 164) (cO "candidates" "Selection.candidates" (nat_lit 404) (nat_lit 170) (nat_lit 5) (nat_lit 159) true (nat_lit 419)),
  kC (nat_lit 165) (mkF (stA (clsB (stA bod 21)) 3) "Selection.candidates" (.none) (vs "lendcore.traits" (nat_lit 340)) (nat_lit 164)),
  kC (nat_lit 171) (cO "asked" "Selection.asked" (nat_lit 422) (nat_lit 184) (nat_lit 5) (nat_lit 166) true (nat_lit 430)),
  kC (nat_lit 172) (mkF (stA (clsB (stA bod 21)) 4) "Selection.asked" (.none) (vs "lendcore.traits" (nat_lit 340)) (nat_lit 171)),
  kC (nat_lit 176) (cO "answer_of" "Selection.answer_of" (nat_lit 433) (nat_lit 191) (nat_lit 5) (nat_lit 173) false (nat_lit 436)),
  kC (nat_lit 177) (mkF (stA (clsB (stA bod 21)) 5) "Selection.answer_of" (.none) (vs "lendcore.traits" (nat_lit 340)) (nat_lit 176)),
  kC (nat_lit 179) (dO [kE P "__module__" (nat_lit 375) (vs "lendcore.traits" (nat_lit 340)), kE P "__firstlineno__" (nat_lit 379) (vi (nat_lit 151) (nat_lit 378)), kE P "__init__" (nat_lit 388) (.ref (nat_lit 146)), kE P "bound_of" (nat_lit 397) (.ref (nat_lit 153)), kE P "needs_of" (nat_lit 403) (.ref (nat_lit 158)), kE P "candidates" (nat_lit 421) (.ref (nat_lit 165)), kE P "asked" (nat_lit 432) (.ref (nat_lit 172)), kE P "answer_of" (nat_lit 438) (.ref (nat_lit 177)), kE P "__static_attributes__" (nat_lit 442) (.ref (nat_lit 178)), kE P "__dict__" (nat_lit 444) (.ref (nat_lit 181)), kE P "__weakref__" (nat_lit 446) (.ref (nat_lit 182)), kE P "__doc__" (nat_lit 447) (.none)] (nat_lit 4)),
  kC (nat_lit 180) (kO "Selection" [.type "object"] [.ref (nat_lit 180), .type "object"] (nat_lit 179) [] (none) (nat_lit 368) (nat_lit 376) "object.__new__"),
  kC (nat_lit 190) (cO "select" "select" (nat_lit 450) (nat_lit 204) (nat_lit 5) (nat_lit 185) true (nat_lit 461)),
  kC (nat_lit 191) (mkF (stA bod 22) "select" (.none) (vs "lendcore.traits" (nat_lit 340)) (nat_lit 190)),
  kC (nat_lit 195) (cO "param_names" "param_names" (nat_lit 468) (nat_lit 219) (nat_lit 2) (nat_lit 192) false (nat_lit 471)),
  kC (nat_lit 196) (mkF (stA bod 25) "param_names" (.none) (vs "lendcore.generics" (nat_lit 464)) (nat_lit 195)),
  kC (nat_lit 202) (cO "substitution_of" "substitution_of" (nat_lit 474) (nat_lit 221) (nat_lit 3) (nat_lit 197) true (nat_lit 481)),
  kC (nat_lit 203) (mkF (stA bod 26) "substitution_of" (.none) (vs "lendcore.generics" (nat_lit 464)) (nat_lit 202)),
  kC (nat_lit 207) (cO "closed_ref" "closed_ref" (nat_lit 484) (nat_lit 226) (nat_lit 2) (nat_lit 204) false (nat_lit 487)),
  kC (nat_lit 208) (mkF (stA bod 27) "closed_ref" (.none) (vs "lendcore.generics" (nat_lit 464)) (nat_lit 207)),
  kC (nat_lit 212) (cO "resolved_ref" "resolved_ref" (nat_lit 490) (nat_lit 231) (nat_lit 2) (nat_lit 209) false (nat_lit 493)),
  kC (nat_lit 213) (mkF (stA bod 28) "resolved_ref" (.none) (vs "lendcore.generics" (nat_lit 464)) (nat_lit 212)),
  kC (nat_lit 219) (cO "drop_impl" "drop_impl" (nat_lit 496) (nat_lit 248) (nat_lit 2) (nat_lit 214) true (nat_lit 502)),
  kC (nat_lit 220) (mkF (stA bod 29) "drop_impl" (.none) (vs "lendcore.generics" (nat_lit 464)) (nat_lit 219)),
  kC (nat_lit 233) (cO "__init__" "Sig.__init__" (nat_lit 519) (nat_lit 258) (nat_lit 9) (nat_lit 228) true (nat_lit 531)),
  kC (nat_lit 234) (mkF (stA (clsB (stA bod 31)) 0) "Sig.__init__" (.none) (vs "lendcore.world" (nat_lit 505)) (nat_lit 233)),
  kC (nat_lit 236) (dO [kE P "__module__" (nat_lit 514) (vs "lendcore.world" (nat_lit 505)), kE P "__firstlineno__" (nat_lit 518) (vi (nat_lit 256) (nat_lit 517)), kE P "__init__" (nat_lit 533) (.ref (nat_lit 234)), kE P "__static_attributes__" (nat_lit 542) (.ref (nat_lit 235)), kE P "__dict__" (nat_lit 544) (.ref (nat_lit 238)), kE P "__weakref__" (nat_lit 546) (.ref (nat_lit 239)), kE P "__doc__" (nat_lit 547) (.none)] (nat_lit 4)),
  kC (nat_lit 237) (kO "Sig" [.type "object"] [.ref (nat_lit 237), .type "object"] (nat_lit 236) [] (none) (nat_lit 507) (nat_lit 515) "object.__new__"),
  kC (nat_lit 254) (cO "__init__" "TraitRow.__init__" (nat_lit 562) (nat_lit 269) (nat_lit 5) (nat_lit 249) true (nat_lit 570)),
  kC (nat_lit 255) (mkF (stA (clsB (stA bod 32)) 0) "TraitRow.__init__" (.none) (vs "lendcore.world" (nat_lit 505)) (nat_lit 254)),
  kC (nat_lit 257) (dO [kE P "__module__" (nat_lit 557) (vs "lendcore.world" (nat_lit 505)), kE P "__firstlineno__" (nat_lit 561) (vi (nat_lit 267) (nat_lit 560)), kE P "__init__" (nat_lit 572) (.ref (nat_lit 255)), kE P "__static_attributes__" (nat_lit 577) (.ref (nat_lit 256)), kE P "__dict__" (nat_lit 579) (.ref (nat_lit 259)), kE P "__weakref__" (nat_lit 581) (.ref (nat_lit 260)), kE P "__doc__" (nat_lit 582) (.none)] (nat_lit 4)),
  kC (nat_lit 258) (kO "TraitRow" [.type "object"] [.ref (nat_lit 258), .type "object"] (nat_lit 257) [] (none) (nat_lit 550) (nat_lit 558) "object.__new__"),
  kC (nat_lit 270) { cls := .type "tuple", data := .seq #[vi (nat_lit 0) (nat_lit 597)] },
  kC (nat_lit 276) (cO "__init__" "ImplRow.__init__" (nat_lit 598) (nat_lit 276) (nat_lit 9) (nat_lit 271) true (nat_lit 610)),
  kC (nat_lit 277) (mkF (stA (clsB (stA bod 33)) 0) "ImplRow.__init__" (.ref (nat_lit 270)) (vs "lendcore.world" (nat_lit 505)) (nat_lit 276)),
  kC (nat_lit 279) (dO [kE P "__module__" (nat_lit 592) (vs "lendcore.world" (nat_lit 505)), kE P "__firstlineno__" (nat_lit 596) (vi (nat_lit 274) (nat_lit 595)), kE P "__init__" (nat_lit 612) (.ref (nat_lit 277)), kE P "__static_attributes__" (nat_lit 621) (.ref (nat_lit 278)), kE P "__dict__" (nat_lit 623) (.ref (nat_lit 281)), kE P "__weakref__" (nat_lit 625) (.ref (nat_lit 282)), kE P "__doc__" (nat_lit 626) (.none)] (nat_lit 4)),
  kC (nat_lit 280) (kO "ImplRow" [.type "object"] [.ref (nat_lit 280), .type "object"] (nat_lit 279) [] (none) (nat_lit 585) (nat_lit 593) "object.__new__"),
  kC (nat_lit 292) { cls := .type "tuple", data := .seq #[.none] },
  kC (nat_lit 298) (cO "__init__" "World.__init__" (nat_lit 641) (nat_lit 287) (nat_lit 2) (nat_lit 293) true (nat_lit 646)),
  kC (nat_lit 299) (mkF (stA (clsB (stA bod 34)) 0) "World.__init__" (.ref (nat_lit 292)) (vs "lendcore.world" (nat_lit 505)) (nat_lit 298)),
  kC (nat_lit 308) (dO [kE P "__module__" (nat_lit 636) (vs "lendcore.world" (nat_lit 505)), kE P "__firstlineno__" (nat_lit 640) (vi (nat_lit 285) (nat_lit 639)), kE P "__init__" (nat_lit 648) (.ref (nat_lit 299)), kE P "is_field_seen" (nat_lit 659) (.ref (nat_lit 306)), kE P "__static_attributes__" (nat_lit 668) (.ref (nat_lit 307)), kE P "__dict__" (nat_lit 670) (.ref (nat_lit 310)), kE P "__weakref__" (nat_lit 672) (.ref (nat_lit 311)), kE P "__doc__" (nat_lit 673) (.none)] (nat_lit 4)),
  kC (nat_lit 309) (kO "World" [.type "object"] [.ref (nat_lit 309), .type "object"] (nat_lit 308) [] (none) (nat_lit 629) (nat_lit 637) "object.__new__"),
  kC (nat_lit 319) (cO "_law_pool" "_law_pool" (nat_lit 678) (nat_lit 300) (nat_lit 2) (nat_lit 314) true (nat_lit 686)),
  kC (nat_lit 320) (mkF (stA bod 36) "_law_pool" (.none) (vs "law_xm0606_01" (nat_lit 676)) (nat_lit 319)),
  kC (nat_lit 326) (cO "_law_take" "_law_take" (nat_lit 689) (nat_lit 305) (nat_lit 2) (nat_lit 321) true (nat_lit 695)),
  kC (nat_lit 327) (mkF (stA bod 37) "_law_take" (.none) (vs "law_xm0606_01" (nat_lit 676)) (nat_lit 326)),
  kC (nat_lit 333) (cO "_law_one" "_law_one" (nat_lit 698) (nat_lit 312) (nat_lit 2) (nat_lit 328) true (nat_lit 703)),
  kC (nat_lit 334) (mkF (stA bod 38) "_law_one" (.none) (vs "law_xm0606_01" (nat_lit 676)) (nat_lit 333)),
  kC (nat_lit 340) (cO "_law_twins" "_law_twins" (nat_lit 706) (nat_lit 314) (nat_lit 3) (nat_lit 335) true (nat_lit 718)),
  kC (nat_lit 341) (mkF (stA bod 39) "_law_twins" (.none) (vs "law_xm0606_01" (nat_lit 676)) (nat_lit 340)),
  kC (nat_lit 347) (cO "_law_closed" "_law_closed" (nat_lit 721) (nat_lit 328) (nat_lit 1) (nat_lit 342) true (nat_lit 725)),
  kC (nat_lit 348) (mkF (stA bod 40) "_law_closed" (.none) (vs "law_xm0606_01" (nat_lit 676)) (nat_lit 347)),
  kC (nat_lit 352) (cO "_law_refs_right" "_law_refs_right" (nat_lit 728) (nat_lit 330) (nat_lit 1) (nat_lit 349) false (nat_lit 731)),
  kC (nat_lit 353) (mkF (stA bod 41) "_law_refs_right" (.none) (vs "law_xm0606_01" (nat_lit 676)) (nat_lit 352)),
  kC (nat_lit 357) (cO "_law_names_right" "_law_names_right" (nat_lit 734) (nat_lit 339) (nat_lit 1) (nat_lit 354) false (nat_lit 737)),
  kC (nat_lit 358) (mkF (stA bod 42) "_law_names_right" (.none) (vs "law_xm0606_01" (nat_lit 676)) (nat_lit 357)),
  kC (nat_lit 364) (cO "_law_impl" "_law_impl" (nat_lit 740) (nat_lit 350) (nat_lit 3) (nat_lit 359) true (nat_lit 755)),
  kC (nat_lit 365) (mkF (stA bod 43) "_law_impl" (.none) (vs "law_xm0606_01" (nat_lit 676)) (nat_lit 364)),
  kC (nat_lit 371) (cO "_law_table" "_law_table" (nat_lit 758) (nat_lit 362) (nat_lit 3) (nat_lit 366) true (nat_lit 768)),
  kC (nat_lit 372) (mkF (stA bod 44) "_law_table" (.none) (vs "law_xm0606_01" (nat_lit 676)) (nat_lit 371)),
  kC (nat_lit 376) (cO "_law_due" "_law_due" (nat_lit 771) (nat_lit 378) (nat_lit 5) (nat_lit 373) false (nat_lit 774)),
  kC (nat_lit 377) (mkF (stA bod 45) "_law_due" (.none) (vs "law_xm0606_01" (nat_lit 676)) (nat_lit 376)),
  kC (nat_lit 383) (cO "_law_meant" "_law_meant" (nat_lit 777) (nat_lit 394) (nat_lit 2) (nat_lit 378) true (nat_lit 782)),
  kC (nat_lit 384) (mkF (stA bod 46) "_law_meant" (.none) (vs "law_xm0606_01" (nat_lit 676)) (nat_lit 383)),
  kC (nat_lit 388) (cO "_law_world" "_law_world" (nat_lit 785) (nat_lit 399) (nat_lit 2) (nat_lit 385) false (nat_lit 788)),
  kC (nat_lit 389) (mkF (stA bod 47) "_law_world" (.none) (vs "law_xm0606_01" (nat_lit 676)) (nat_lit 388)),
  kC (nat_lit 395) (cO "_law_meant_right" "_law_meant_right" (nat_lit 791) (nat_lit 406) (nat_lit 1) (nat_lit 390) true (nat_lit 805)),
  kC (nat_lit 396) (mkF (stA bod 48) "_law_meant_right" (.none) (vs "law_xm0606_01" (nat_lit 676)) (nat_lit 395)),
  kC (nat_lit 400) (cO "_law_drops_right" "_law_drops_right" (nat_lit 808) (nat_lit 421) (nat_lit 1) (nat_lit 397) false (nat_lit 811)),
  kC (nat_lit 401) (mkF (stA bod 49) "_law_drops_right" (.none) (vs "law_xm0606_01" (nat_lit 676)) (nat_lit 400)),
  kC (nat_lit 407) (cO "law" "law" (nat_lit 814) (nat_lit 437) (nat_lit 1) (nat_lit 402) true (nat_lit 821)),
  kC (nat_lit 408) (mkF (stA bod 50) "law" (.none) (vs "law_xm0606_01" (nat_lit 676)) (nat_lit 407))]
end Mine
namespace Mine
open PySem PySem.W PyProof.Rows PySem.Calls
noncomputable def oT (v : List Value) : Obj := { cls := .type "tuple", data := .seq v.toArray }
noncomputable def oF (v : List Value) : Obj := { cls := .none, data := .fields v.toArray }
noncomputable def tE : Obj := oT []
noncomputable def fE : Obj := oF []
noncomputable def oB (a b : Value) : Obj := { cls := .type "builtin_function_or_method", data := .fields #[a, b] }
noncomputable def oG (v : List Value) : Obj := { cls := .type "getset_descriptor", data := .fields v.toArray }
noncomputable def oU (a : Addr) : Obj := { cls := .type "super", data := .fields #[.ref a, .ref a, .ref a] }
noncomputable def oR (c n : Addr) (v : Value) : Obj := { cls := .type "frame", slots := #[some (.ref c), some (.ref 3), some (.ref n), none, some v, none, some (.ref 0)] }
noncomputable def cK (n : String) (t l r : Nat) : Obj :=
  { cls := .type "code", data := .fields #[vs n t, vs n (t + 1), vs "/claim/cut.py" (t + 2), vi l 0, vi 0 0, vi 0 0, vi 0 0, vi 0 0, .ref r, .bool false, vi 181 0, .ref (r + 1), .none, .none, .none, .none, vi (t + 3) 0, vi l 0, vs "/claim/cut.py" (t + 4)] }
noncomputable def mN (s : Stmt) (q : String) : Obj := match s with
  | .FunctionDef n a b _ _ _ sc _ _ _ => { cls := .none, data := .func { name := n, qualname := Str.ofString q, params := a, body := .stmts b, scope := sc, globals := 0, closure := [], defaults := .none, kwdefaults := .none } }
  | _ => default
noncomputable def lcs : List (Str × NameKind) → Nat → List Value
  | [], _ => []
  | (x, .local) :: r, t => .str x t :: lcs r (t + 1)
  | _ :: r, t => lcs r t
noncomputable def scN : Stmt → List (Str × NameKind)
  | .FunctionDef _ _ _ _ _ _ sc _ _ _ => sc.names
  | _ => []
noncomputable def fA (s : Stmt) (q : String) : List (Option Obj) := [some tE, some fE, some (mN s q), none, none]
noncomputable def fB (s : Stmt) (q : String) (t : Nat) : List (Option Obj) := [some tE, some fE, some (oT (lcs (scN s) t)), some tE, some (mN s q), none, none]
noncomputable def mrg : List (Option Obj) → Frag → List Obj
  | [], _ => []
  | some o :: r, K => o :: mrg r K
  | none :: r, (_, o) :: K => o :: mrg r K
  | none :: _, [] => []
noncomputable def FO (P : Params) : List (List (Option Obj)) := [
  ((boot_heap P).objs.toList.map some),
  [some (tE), some fE, some (cK "<module>" 182 1 11), some (oR 13 3 (vs "__main__" 164))],
  [some tE, some fE, some (oT [vs "k" 190]), some tE, some (mN (stA bod 0) "_wall"), some (cO "_wall" "_wall" 187 1 1 15 true 191), some (mkF (stA bod 0) "_wall" .none (vs "__main__" 164) 20), some (oT [.type "Exception"]), some (oB (.builtin "type.__prepare__") (.type "type")), some (dO [kE P "__module__" 203 (vs "lendcore.errors" 194), kE P "__qualname__" 205 (vs "LendError" 204), kE P "__firstlineno__" 207 (vi 5 206), kE P "__init__" 217 (.ref 36), kE P "__static_attributes__" 220 (.ref 37)] 5), some tE, some (oF [vi 7 0, vi 4 0, .ref 35]), some (cK "LendError" 198 5 25), some (oR 27 24 (vs "lendcore.errors" 194)), none],
  fB (stA (clsB (stA bod 2)) 0) "LendError.__init__" 212,
  [some (oT [vs "message" 218, vs "spot" 219]), none, none, some (oG [vs "__weakref__" 221, .ref 39, .builtin "ExceptionGroup.__weakref__", .none]), some (oU 39), some (oB (.builtin "object.__init_subclass__") (.ref 39)), some (oT [.ref 39]), some (oB (.builtin "type.__prepare__") (.type "type")), some (dO [kE P "__module__" 235 (vs "lendcore.errors" 194), kE P "__qualname__" 237 (vs "TraitFault" 236), kE P "__firstlineno__" 239 (vi 11 238), kE P "__static_attributes__" 240 (.ref 50)] 4), some tE, some fE, some (cK "TraitFault" 230 11 46), some (oR 48 45 (vs "lendcore.errors" 194)), some tE, none, none, some (oU 52), some (oB (.builtin "object.__init_subclass__") (.ref 52))],
  fB (stA bod 5) "head_pairs" 249,
  fB (stA bod 6) "could_be" 259,
  fB (stA bod 7) "match_type" 273,
  fB (stA bod 8) "match_all" 289,
  fB (stA bod 11) "parts_of" 307,
  fB (stA bod 12) "rebuilt" 315,
  fA (stA bod 13) "substituted",
  fB (stA bod 14) "region_text" 330,
  fA (stA bod 15) "type_text",
  fA (stA bod 18) "names_of",
  fB (stA bod 19) "matches_impl" 353,
  fB (stA bod 20) "is_plainly_copy" 364,
  [some tE, some (oB (.builtin "type.__prepare__") (.type "type")), some (dO [kE P "__module__" 375 (vs "lendcore.traits" 340), kE P "__qualname__" 377 (vs "Selection" 376), kE P "__firstlineno__" 379 (vi 151 378), kE P "__init__" 388 (.ref 146), kE P "bound_of" 397 (.ref 153), kE P "needs_of" 403 (.ref 158), kE P "candidates" 421 (.ref 165), kE P "asked" 432 (.ref 172), kE P "answer_of" 438 (.ref 177), kE P "__static_attributes__" 442 (.ref 178)] 10), some tE, some (oF [vi 153 0, vi 4 0, .ref 145, vi 158 0, vi 4 0, .ref 152, vi 163 0, vi 4 0, .ref 157, vi 170 0, vi 4 0, .ref 164, vi 184 0, vi 4 0, .ref 171, vi 191 0, vi 4 0, .ref 176]), some (cK "Selection" 370 151 136), some (oR 138 135 (vs "lendcore.traits" 340))],
  fB (stA (clsB (stA bod 21)) 0) "Selection.__init__" 383,
  fB (stA (clsB (stA bod 21)) 1) "Selection.bound_of" 392,
  fA (stA (clsB (stA bod 21)) 2) "Selection.needs_of",
  fB (stA (clsB (stA bod 21)) 3) "Selection.candidates" 407,
  fB (stA (clsB (stA bod 21)) 4) "Selection.asked" 425,
  fA (stA (clsB (stA bod 21)) 5) "Selection.answer_of",
  [some (oT [vs "bounds" 439, vs "known" 440, vs "world" 441]), none, none, some (oG [vs "__dict__" 443, .ref 180, .builtin "function.__dict__", .builtin "function.__dict__#set"]), some (oG [vs "__weakref__" 445, .ref 180, .builtin "ExceptionGroup.__weakref__", .none]), some (oU 180), some (oB (.builtin "object.__init_subclass__") (.ref 180))],
  fB (stA bod 22) "select" 453,
  fA (stA bod 25) "param_names",
  fB (stA bod 26) "substitution_of" 477,
  fA (stA bod 27) "closed_ref",
  fA (stA bod 28) "resolved_ref",
  fB (stA bod 29) "drop_impl" 499,
  [some tE, some (oB (.builtin "type.__prepare__") (.type "type")), some (dO [kE P "__module__" 514 (vs "lendcore.world" 505), kE P "__qualname__" 516 (vs "Sig" 515), kE P "__firstlineno__" 518 (vi 256 517), kE P "__init__" 533 (.ref 234), kE P "__static_attributes__" 542 (.ref 235)] 5), some tE, some (oF [vi 258 0, vi 4 0, .ref 233]), some (cK "Sig" 509 256 224), some (oR 226 223 (vs "lendcore.world" 505))],
  fB (stA (clsB (stA bod 31)) 0) "Sig.__init__" 522,
  [some (oT [vs "has_body" 534, vs "inputs" 535, vs "output" 536, vs "own" 537, vs "params" 538, vs "path" 539, vs "regions" 540, vs "self_kind" 541]), none, none, some (oG [vs "__dict__" 543, .ref 237, .builtin "function.__dict__", .builtin "function.__dict__#set"]), some (oG [vs "__weakref__" 545, .ref 237, .builtin "ExceptionGroup.__weakref__", .none]), some (oU 237), some (oB (.builtin "object.__init_subclass__") (.ref 237)), some tE, some (oB (.builtin "type.__prepare__") (.type "type")), some (dO [kE P "__module__" 557 (vs "lendcore.world" 505), kE P "__qualname__" 559 (vs "TraitRow" 558), kE P "__firstlineno__" 561 (vi 267 560), kE P "__init__" 572 (.ref 255), kE P "__static_attributes__" 577 (.ref 256)] 5), some tE, some (oF [vi 269 0, vi 4 0, .ref 254]), some (cK "TraitRow" 552 267 245), some (oR 247 244 (vs "lendcore.world" 505))],
  fB (stA (clsB (stA bod 32)) 0) "TraitRow.__init__" 565,
  [some (oT [vs "defaults" 573, vs "methods" 574, vs "params" 575, vs "path" 576]), none, none, some (oG [vs "__dict__" 578, .ref 258, .builtin "function.__dict__", .builtin "function.__dict__#set"]), some (oG [vs "__weakref__" 580, .ref 258, .builtin "ExceptionGroup.__weakref__", .none]), some (oU 258), some (oB (.builtin "object.__init_subclass__") (.ref 258)), some tE, some (oB (.builtin "type.__prepare__") (.type "type")), some (dO [kE P "__module__" 592 (vs "lendcore.world" 505), kE P "__qualname__" 594 (vs "ImplRow" 593), kE P "__firstlineno__" 596 (vi 274 595), kE P "__init__" 612 (.ref 277), kE P "__static_attributes__" 621 (.ref 278)] 5), some tE, some (oF [vi 276 0, vi 4 0, .ref 276]), some (cK "ImplRow" 587 274 266), some (oR 268 265 (vs "lendcore.world" 505)), none],
  fB (stA (clsB (stA bod 33)) 0) "ImplRow.__init__" 601,
  [some (oT [vs "methods" 613, vs "number" 614, vs "params" 615, vs "regions" 616, vs "self_type" 617, vs "spot" 618, vs "trait" 619, vs "trait_args" 620]), none, none, some (oG [vs "__dict__" 622, .ref 280, .builtin "function.__dict__", .builtin "function.__dict__#set"]), some (oG [vs "__weakref__" 624, .ref 280, .builtin "ExceptionGroup.__weakref__", .none]), some (oU 280), some (oB (.builtin "object.__init_subclass__") (.ref 280)), some tE, some (oB (.builtin "type.__prepare__") (.type "type")), some (dO [kE P "__module__" 636 (vs "lendcore.world" 505), kE P "__qualname__" 638 (vs "World" 637), kE P "__firstlineno__" 640 (vi 285 639), kE P "__init__" 648 (.ref 299), kE P "is_field_seen" 659 (.ref 306), kE P "__static_attributes__" 668 (.ref 307)] 6), some tE, some (oF [vi 287 0, vi 4 0, .ref 298, vi 297 0, vi 4 0, .ref 305]), some (cK "World" 631 285 288), some (oR 290 287 (vs "lendcore.world" 505)), none],
  fB (stA (clsB (stA bod 34)) 0) "World.__init__" 644,
  [some tE, some fE, some (oT [vs "self" 652, vs "path" 653, vs "number" 654, vs "k" 655, vs "module" 656]), some tE, some (mN (stA (clsB (stA bod 34)) 1) "World.is_field_seen"), some (cO "is_field_seen" "World.is_field_seen" 649 297 5 300 true 657), some (mkF (stA (clsB (stA bod 34)) 1) "World.is_field_seen" .none (vs "lendcore.world" 505) 305), some (oT [vs "adts" 660, vs "bodies" 661, vs "consts" 662, vs "impls" 663, vs "modules" 664, vs "sigs" 665, vs "traits" 666, vs "variants" 667]), none, none, some (oG [vs "__dict__" 669, .ref 309, .builtin "function.__dict__", .builtin "function.__dict__#set"]), some (oG [vs "__weakref__" 671, .ref 309, .builtin "ExceptionGroup.__weakref__", .none]), some (oU 309), some (oB (.builtin "object.__init_subclass__") (.ref 309))],
  fB (stA bod 36) "_law_pool" 681,
  fB (stA bod 37) "_law_take" 692,
  fB (stA bod 38) "_law_one" 701,
  fB (stA bod 39) "_law_twins" 709,
  fB (stA bod 40) "_law_closed" 724,
  fA (stA bod 41) "_law_refs_right",
  fA (stA bod 42) "_law_names_right",
  fB (stA bod 43) "_law_impl" 743,
  fB (stA bod 44) "_law_table" 761,
  fA (stA bod 45) "_law_due",
  fB (stA bod 46) "_law_meant" 780,
  fA (stA bod 47) "_law_world",
  fB (stA bod 48) "_law_meant_right" 794,
  fA (stA bod 49) "_law_drops_right",
  fB (stA bod 50) "law" 817]
noncomputable def FL (P : Params) : List Obj := mrg (FO P).flatten (KK P).tail
noncomputable def c12 : List (Nat × Addr) := [(1, 20), (5, 27), (11, 48), (14, 60), (32, 67), (52, 74), (73, 81), (85, 88), (94, 95), (105, 100), (109, 107), (113, 112), (137, 117), (139, 124), (145, 131), (151, 138), (204, 190), (219, 195), (221, 202), (226, 207), (231, 212), (248, 219), (256, 226), (267, 247), (274, 268), (285, 290), (300, 319), (305, 326), (312, 333), (314, 340), (328, 347), (330, 352), (339, 357), (350, 364), (362, 371), (378, 376), (394, 383), (399, 388), (406, 395), (421, 400), (437, 407)]
noncomputable def o12 (m : Nat) : Obj := oF ((c12.take m).flatMap fun p => [vi p.1 0, vi 0 0, .ref p.2])
noncomputable def o2 (P : Params) : Obj := { cls := .none, data := .dict [kE P "type.__subclasses__.Exception.0" 224 (vi 39 0), kE P "type.__subclasses__.Exception.n" 225 (vi 1 0)].toArray 2 }
noncomputable def o3 (P : Params) (v : Value) (m : Nat) : Obj := match KK P with
  | (_, { data := .dict es _, .. }) :: _ => dO (kE P "__name__" 165 v :: (es.toList.take m).tail) m
  | _ => default
noncomputable def evn : List Obj → List Obj
  | a :: _ :: r => a :: evn r
  | l => l
noncomputable def bt : Nat → List Obj → BT
  | n + 1, a :: r => .node a (bt n (evn r)) (bt n (evn r.tail))
  | _, _ => .nil
noncomputable def SL (P : Params) (n : Nat) (v : Value) (m k : Nat) : List Obj := ((((FL P).take n).set 2 (o2 P)).set 3 (o3 P v m)).set 12 (o12 k)
noncomputable def SK (l : List Obj) (n t : Nat) (os : OsState) : SharedT := ⟨bt 12 l, n, {}, #[], {}, t, os⟩
noncomputable def pw : Program := PySem.Challenge.pw_xm0606_01
noncomputable def eK : Env := { scope := pw.main.scope, locals := mainNs, globals := mainNs, cells := [], code := .ref 13, frame := some 14 }
noncomputable def cdK : Code := .body (behindTheImports PySem.Challenge.pw_xm0606_01) eK
noncomputable def ps (a b c d : Nat) : Pos := ⟨a, b, c, d⟩
noncomputable def B0 : List Frame := [topFrame (ps 0 0 0 0)]
noncomputable def l0 (P : Params) : List Obj := (FL P).take 15
noncomputable def l1 (P : Params) : List Obj := (SL P 43 (vs "lendcore.errors" 194) 11 2).set 39 (kO "LendError" [.type "Exception"] [.ref 39, .type "Exception", .type "BaseException", .type "object"] 38 [] (some (.ref 22)) 196 204 "Exception.__new__")
noncomputable def l2 (P : Params) : List Obj := SL P 83 (vs "lendcore.types" 300) 17 7
noncomputable def l3 (P : Params) : List Obj := SL P 133 (vs "lendcore.traits" 340) 26 15
noncomputable def l4 (P : Params) : List Obj := SL P 185 (vs "lendcore.traits" 340) 27 16
noncomputable def l5 (P : Params) : List Obj := SL P 242 (vs "lendcore.world" 505) 35 23
noncomputable def l6 (P : Params) : List Obj := SL P 285 (vs "lendcore.world" 505) 37 25
noncomputable def l7 (P : Params) : List Obj := SL P 335 (vs "law_xm0606_01" 676) 41 29
noncomputable def l8 (P : Params) : List Obj := SL P 409 (vs "law_xm0606_01" 676) 53 41
open PySem.W.Fast in
theorem sg1 (w : World) (os : OsState) : segRunT treeTable PySem.Challenge.pw_xm0606_01 w 11 (some (.ref 6)) 1 500 (SK (l0 w.params) 15 187 os) (piecesOf ((bod.drop 0).take 3) eK cdK (ps 0 0 0 0) B0) = some (.next, SK (l1 w.params) 43 228 os, cdK, ps 5 0 10 24) := by
  rw [te14364793385576792824, te10110043849684766642]; kernel_rfl
open PySem.W.Fast in
theorem sg2 (w : World) (os : OsState) : segRunT treeTable PySem.Challenge.pw_xm0606_01 w 11 (some (.ref 6)) 1 500 (SK (l1 w.params) 43 228 os) (piecesOf ((bod.drop 3).take 8) eK cdK (ps 5 0 10 24) B0) = some (.next, SK (l2 w.params) 83 304 os, cdK, ps 84 0 84 4) := by
  rw [te14364793385576792824, te10110043849684766642]; kernel_rfl
open PySem.W.Fast in
theorem sg3 (w : World) (os : OsState) : segRunT treeTable PySem.Challenge.pw_xm0606_01 w 11 (some (.ref 6)) 1 500 (SK (l2 w.params) 83 304 os) (piecesOf ((bod.drop 11).take 10) eK cdK (ps 84 0 84 4) B0) = some (.next, SK (l3 w.params) 133 368 os, cdK, ps 145 0 150 46) := by
  rw [te14364793385576792824, te10110043849684766642]; kernel_rfl
open PySem.W.Fast in
theorem sg4 (w : World) (os : OsState) : segRunT treeTable PySem.Challenge.pw_xm0606_01 w 11 (some (.ref 6)) 1 500 (SK (l3 w.params) 133 368 os) (piecesOf ((bod.drop 21).take 1) eK cdK (ps 145 0 150 46) B0) = some (.next, SK (l4 w.params) 185 450 os, cdK, ps 151 0 203 88) := by
  rw [te14364793385576792824, te10110043849684766642]; kernel_rfl
open PySem.W.Fast in
theorem sg5 (w : World) (os : OsState) : segRunT treeTable PySem.Challenge.pw_xm0606_01 w 11 (some (.ref 6)) 1 500 (SK (l4 w.params) 185 450 os) (piecesOf ((bod.drop 22).take 10) eK cdK (ps 151 0 203 88) B0) = some (.next, SK (l5 w.params) 242 550 os, cdK, ps 256 0 266 32) := by
  rw [te14364793385576792824, te10110043849684766642]; kernel_rfl
open PySem.W.Fast in
theorem sg6 (w : World) (os : OsState) : segRunT treeTable PySem.Challenge.pw_xm0606_01 w 11 (some (.ref 6)) 1 500 (SK (l5 w.params) 242 550 os) (piecesOf ((bod.drop 32).take 2) eK cdK (ps 256 0 266 32) B0) = some (.next, SK (l6 w.params) 285 629 os, cdK, ps 274 0 284 24) := by
  rw [te14364793385576792824, te10110043849684766642]; kernel_rfl
open PySem.W.Fast in
theorem sg7 (w : World) (os : OsState) : segRunT treeTable PySem.Challenge.pw_xm0606_01 w 11 (some (.ref 6)) 1 500 (SK (l6 w.params) 285 629 os) (piecesOf ((bod.drop 34).take 5) eK cdK (ps 274 0 284 24) B0) = some (.next, SK (l7 w.params) 335 706 os, cdK, ps 312 0 313 49) := by
  rw [te14364793385576792824, te10110043849684766642]; kernel_rfl
open PySem.W.Fast in
theorem sg8 (w : World) (os : OsState) : segRunT treeTable PySem.Challenge.pw_xm0606_01 w 11 (some (.ref 6)) 1 500 (SK (l7 w.params) 335 706 os) (piecesOf ((bod.drop 39).take 12) eK cdK (ps 312 0 313 49) B0) = some (.next, SK (l8 w.params) 409 824 os, cdK, ps 437 0 447 97) := by
  rw [te14364793385576792824, te10110043849684766642]; kernel_rfl
noncomputable def h0 (P : Params) : Heap := ⟨(l0 P).toArray, {}⟩
noncomputable def HE (P : Params) : Heap := ⟨(l8 P).toArray, {}⟩
open PySem.W.Fast in
theorem sgA (w : World) (os : OsState) : topGo treeTable PySem.Challenge.pw_xm0606_01 w 11 (some (.ref 6)) 12 ⟨boot_heap w.params, #[], boot_drawn, boot_toks, os⟩ (topStub PySem.Challenge.pw_xm0606_01) = some (⟨h0 w.params, #[], {}, 187, os⟩, ⟨denote treeTable cdK, cdK, ps 0 0 0 0, B0⟩) := by
  rw [te14364793385576792824, te15667345088766844465, te11892475500146522536]; kernel_rfl
open PySem.W.Fast in
theorem sgB (w : World) (os : OsState) : segRun treeTable PySem.Challenge.pw_xm0606_01 w 11 (some (.ref 6)) 1 1 ⟨h0 w.params, #[], {}, 187, os⟩ (blockOf (behindTheImports PySem.Challenge.pw_xm0606_01) eK cdK (ps 0 0 0 0) B0) = some (.next, (SK (l0 w.params) 15 187 os).abs, cdK, ps 0 0 0 0) := by
  rw [te14364793385576792824, te14374325043358763698]; kernel_rfl
open PySem.W.Fast in
theorem sgZ (w : World) (os : OsState) : topRun treeTable PySem.Challenge.pw_xm0606_01 w 11 (some (.ref 6)) 2 (SK (l8 w.params) 409 824 os).abs ⟨doneF .next, cdK, ps 437 0 447 97, B0⟩ = some ⟨HE w.params, #[], {}, 824, os⟩ := by
  rw [te14364793385576792824, te14082659384304107361]; kernel_rfl
theorem bodIs : behindTheImports PySem.Challenge.pw_xm0606_01 = (bod.drop 0).take 3 ++ ((bod.drop 3).take 8 ++ ((bod.drop 11).take 10 ++ ((bod.drop 21).take 1 ++ ((bod.drop 22).take 10 ++ ((bod.drop 32).take 2 ++ ((bod.drop 34).take 5 ++ ((bod.drop 39).take 12 ++ []))))))) := by kernel_rfl
theorem runK (w : World) (os : OsState) : topRun treeTable PySem.Challenge.pw_xm0606_01 w 11 (some (.ref 6)) (12 + (1 + (500 + (500 + (500 + (500 + (500 + (500 + (500 + (500 + 2)))))))))) ⟨boot_heap w.params, #[], boot_drawn, boot_toks, os⟩ (topStub PySem.Challenge.pw_xm0606_01) = some ⟨HE w.params, #[], {}, 824, os⟩ := by
  refine go_top (sgA w os) (piece_block (sgB w os) ?_)
  rw [bodIs]
  refine piece_app (segRun_of (sg1 w os)) ?_
  refine piece_app (segRun_of (sg2 w os)) ?_
  refine piece_app (segRun_of (sg3 w os)) ?_
  refine piece_app (segRun_of (sg4 w os)) ?_
  refine piece_app (segRun_of (sg5 w os)) ?_
  refine piece_app (segRun_of (sg6 w os)) ?_
  refine piece_app (segRun_of (sg7 w os)) ?_
  refine piece_app (segRun_of (sg8 w os)) ?_
  exact piece_nil (sgZ w os)
noncomputable def keepIx : List Nat := [0, 2, 3, 5, 6, 7, 8, 10, 11, 12, 13, 14, 15, 17, 18, 19, 20, 21, 22, 24, 25, 26, 27, 28, 29, 31, 32, 33, 34, 36, 37, 38, 39, 40, 41, 42, 43, 44, 45, 46, 47, 48, 49, 50]
noncomputable def qV : Program := view PySem.Challenge.pw_xm0606_01 keepIx
noncomputable def asK : List Addr := [nat_lit 3, nat_lit 29, nat_lit 35, nat_lit 36, nat_lit 38, nat_lit 39, nat_lit 51, nat_lit 52, nat_lit 60, nat_lit 61, nat_lit 67, nat_lit 68, nat_lit 74, nat_lit 75, nat_lit 81, nat_lit 82, nat_lit 88, nat_lit 89, nat_lit 95, nat_lit 96, nat_lit 100, nat_lit 101, nat_lit 107, nat_lit 108, nat_lit 112, nat_lit 113, nat_lit 117, nat_lit 118, nat_lit 124, nat_lit 125, nat_lit 131, nat_lit 132, nat_lit 145, nat_lit 146, nat_lit 152, nat_lit 153, nat_lit 157, nat_lit 158, nat_lit 164, nat_lit 165, nat_lit 171, nat_lit 172, nat_lit 176, nat_lit 177, nat_lit 179, nat_lit 180, nat_lit 190, nat_lit 191, nat_lit 195, nat_lit 196, nat_lit 202, nat_lit 203, nat_lit 207, nat_lit 208, nat_lit 212, nat_lit 213, nat_lit 219, nat_lit 220, nat_lit 233, nat_lit 234, nat_lit 236, nat_lit 237, nat_lit 254, nat_lit 255, nat_lit 257, nat_lit 258, nat_lit 270, nat_lit 276, nat_lit 277, nat_lit 279, nat_lit 280, nat_lit 292, nat_lit 298, nat_lit 299, nat_lit 308, nat_lit 309, nat_lit 319, nat_lit 320, nat_lit 326, nat_lit 327, nat_lit 333, nat_lit 334, nat_lit 340, nat_lit 341, nat_lit 347, nat_lit 348, nat_lit 352, nat_lit 353, nat_lit 357, nat_lit 358, nat_lit 364, nat_lit 365, nat_lit 371, nat_lit 372, nat_lit 376, nat_lit 377, nat_lit 383, nat_lit 384, nat_lit 388, nat_lit 389, nat_lit 395, nat_lit 396, nat_lit 400, nat_lit 401, nat_lit 407, nat_lit 408]
noncomputable def seeK (s : Shared) : List (Option Obj) := asK.map s.heap.get?
noncomputable def valK (w : World) : List (Option Obj) := (KK w.params).map fun p => some p.2
noncomputable def XtK (s : Shared) : Bool := xlAt qV [] s && recOk [] s
noncomputable def loK : List Str := [Str.ofString "LendError"]
theorem opK : ∀ w : World, (fencedOpening treeTable PySem.Challenge.pw_xm0606_01 w 6000).map (fun s => (s.heap, s.gens, s.drawn, s.toks)) = some (boot_heap w.params, #[], boot_drawn, boot_toks) :=
  boot_open (by kernel_rfl) (by kernel_rfl) (fun s => by kernel_rfl)
open PySem.W.Fast in
theorem lk1 (w : World) (os : OsState) : (staticsOk (importedModules PySem.Challenge.pw_xm0606_01.main.body) (boot_heap w.params) (HE w.params) && namesBound PySem.Challenge.pw_xm0606_01 (HE w.params) && gensDone ⟨HE w.params, #[], {}, 824, os⟩ && laidKept (boot_heap w.params) (HE w.params)) = true := by
  rw [te5923862056798008813]; kernel_rfl
noncomputable def sE (w : World) (os : OsState) := openSeen qV loK (importedModules PySem.Challenge.pw_xm0606_01.main.body) XtK true ⟨HE w.params, #[], {}, 824, os⟩
open PySem.W.Fast in
theorem ls0 (w : World) (os : OsState) : (sE w os).1 = expectedOf qV := by
  unfold sE; rw [te5923862056798008813, te4187177175401517315]; kernel_rfl
open PySem.W.Fast in
theorem ls1 (w : World) (os : OsState) : (sE w os).2.1 = bltViewBooted := by
  unfold sE; rw [te5923862056798008813, te4187177175401517315]; kernel_rfl
open PySem.W.Fast in
theorem ls2 (w : World) (os : OsState) : (sE w os).2.2.1 = true := by
  unfold sE; rw [te5923862056798008813, te4187177175401517315]; kernel_rfl
open PySem.W.Fast in
theorem ls3 (w : World) (os : OsState) : (sE w os).2.2.2.1 = true := by
  unfold sE; rw [te5923862056798008813, te4187177175401517315]; kernel_rfl
open PySem.W.Fast in
theorem ls4 (w : World) (os : OsState) : (sE w os).2.2.2.2.1 = pinGoodD (drecsOf qV) := by
  unfold sE; rw [te5923862056798008813, te4187177175401517315]; kernel_rfl
open PySem.W.Fast in
theorem ls5 (w : World) (os : OsState) : (sE w os).2.2.2.2.2.1 = plainGoodE qV (looseW qV loK) := by
  unfold sE; rw [te5923862056798008813, te4187177175401517315]; kernel_rfl
open PySem.W.Fast in
theorem ls6 (w : World) (os : OsState) : (sE w os).2.2.2.2.2.2.1 = plainGoodD qV loK := by
  unfold sE; rw [te5923862056798008813, te4187177175401517315]; kernel_rfl
open PySem.W.Fast in
theorem ls7 (w : World) (os : OsState) : (sE w os).2.2.2.2.2.2.2.1 = wideGood qV := by
  unfold sE; rw [te5923862056798008813, te4187177175401517315]; kernel_rfl
open PySem.W.Fast in
theorem ls8 (w : World) (os : OsState) : (sE w os).2.2.2.2.2.2.2.2 = clsGoodW qV loK := by
  unfold sE; rw [te5923862056798008813, te4187177175401517315]; kernel_rfl
theorem lk2 (w : World) (os : OsState) : openSeen qV loK (importedModules PySem.Challenge.pw_xm0606_01.main.body) XtK true ⟨HE w.params, #[], {}, 824, os⟩ = openGood qV loK := Prod.ext (ls0 w os) (Prod.ext (ls1 w os) (Prod.ext (ls2 w os) (Prod.ext (ls3 w os) (Prod.ext (ls4 w os) (Prod.ext (ls5 w os) (Prod.ext (ls6 w os) (Prod.ext (ls7 w os) (ls8 w os))))))))
theorem lk3 (w : World) (os : OsState) : seeK ⟨HE w.params, #[], {}, 824, os⟩ = valK w := by kernel_rfl
theorem left : LeftO PySem.Challenge.pw_xm0606_01 qV loK XtK seeK valK 6000 :=
  LeftO.of_pieces opK (fun w => by kernel_rfl) runK (by kernel_rfl) fun w => funext fun os => by rw [lk1, lk2, lk3]
end Mine
set_option genInjectivity true
namespace Mine
open PySem PySem.W PyProof.Rows PySem.Calls
theorem no {α : Type} {p : Prop} {x : α} (h : none = some x) : p := by cases h
inductive D where
  | none
  | bool (b : Bool)
  | int (i : Int)
  | str (s : List Nat)
  | tup (vs : List D)
  | lst (vs : List D)
  | dct (kvs : List (D × D))
  | ins (c : Addr) (d : D)
  | src
  | raw (v : Value)
  deriving Inhabited
inductive V where
  | dat (d : D)
  | tup (vs : List V)
  | ins (c : Addr) (kvs : List (D × V))
  | lvi (c : Addr) (i : Nat)
  | obj (i : Nat)
  | ext
  | exi (c : Addr)
  deriving Inhabited
inductive AObj where
  | list (vs : List V)
  | dict (kvs : List (D × V))
  | fz (d : D)
  deriving Inhabited
mutual
noncomputable def hashD (P : Params) : D → Int
  | .str cs => PyData.keyHash P ⟨cs.toArray⟩
  | .int i => hashInt i
  | .bool b => hashInt (if b then 1 else 0)
  | .tup vs => reduceHash (Builtin.Tuple.tupleHashOf (hashDs P vs))
  | _ => 0
noncomputable def hashDs (P : Params) : List D → List Int
  | [] => []
  | v :: vs => hashD P v :: hashDs P vs
end
noncomputable abbrev Vw := Addr → Obj → Prop
noncomputable def SeqAt (F : Vw) (v : Value) (c : String) (items : List Value) : Prop := ∃ a o n, v = .ref a ∧ F a o ∧ o.cls = .type c ∧ o.data = .seq (List.toArray items) n
noncomputable def DictAt (F : Vw) (v : Value) (es : List DictEntry) : Prop := ∃ a n, v = .ref a ∧ @LT.lt Nat _ 3 a ∧ F a (dictOf es n)
noncomputable def InsAt (F : Vw) (v : Value) (c dx : Addr) : Prop := ∃ a, v = .ref a ∧ F a (instObj c dx)
mutual
noncomputable def DRep (P : Params) (src : Option Addr) (F : Vw) : Value → D → Prop
  | v, .none => v = .none
  | v, .bool b => v = .bool b
  | v, .int i => ∃ t, v = .int i t
  | v, .str s => ∃ x t, v = .str x t ∧ x.cps.toList = s
  | v, .tup ds => ∃ items, SeqAt F v "tuple" items ∧ DReps P src F items ds
  | v, .lst ds => ∃ items, SeqAt F v "list" items ∧ DReps P src F items ds
  | v, .dct ks => ∃ es, DictAt F v es ∧ DRepK P src F es ks
  | v, .ins c d => ∃ dx, InsAt F v c dx ∧ DRep P src F (.ref dx) d
  | v, .src => ∃ a, v = .ref a ∧ src = some a
  | _, .raw _ => True
noncomputable def DReps (P : Params) (src : Option Addr) (F : Vw) : List Value → List D → Prop
  | vs, [] => vs = []
  | vs, d :: ds => ∃ v ws, vs = v :: ws ∧ DRep P src F v d ∧ DReps P src F ws ds
noncomputable def DRepK (P : Params) (src : Option Addr) (F : Vw) : List DictEntry → List (D × D) → Prop
  | es, [] => es = []
  | es, (k, v) :: ks => ∃ e es', es = e :: es' ∧ (DRep P src F e.key k ∧ DRep P src F e.val v) ∧ e.hash = hashD P k ∧ DRepK P src F es' ks
end
mutual
noncomputable def Rep (P : Params) (src : Option Addr) (xa : Option Addr) (ρ : List Addr) (F : Vw) : Value → V → Prop
  | v, .dat d => DRep P src F v d
  | v, .tup ds => ∃ items, SeqAt F v "tuple" items ∧ Reps P src xa ρ F items ds
  | v, .ins c ks => ∃ dx, InsAt F v c dx ∧ ∃ es, DictAt F (.ref dx) es ∧ RepK P src xa ρ F es ks
  | v, .lvi c i => ∃ dx, InsAt F v c dx ∧ ρ[i]? = some dx
  | v, .obj i => ∃ a, v = .ref a ∧ ρ[i]? = some a
  | v, .ext => ∃ a, v = .ref a ∧ xa = some a
  | v, .exi c => ∃ dx, InsAt F v c dx ∧ xa = some dx
noncomputable def Reps (P : Params) (src : Option Addr) (xa : Option Addr) (ρ : List Addr) (F : Vw) : List Value → List V → Prop
  | vs, [] => vs = []
  | vs, d :: ds => ∃ v ws, vs = v :: ws ∧ Rep P src xa ρ F v d ∧ Reps P src xa ρ F ws ds
noncomputable def RepK (P : Params) (src : Option Addr) (xa : Option Addr) (ρ : List Addr) (F : Vw) : List DictEntry → List (D × V) → Prop
  | es, [] => es = []
  | es, (k, v) :: ks => ∃ e es', es = e :: es' ∧ (DRep P src F e.key k ∧ Rep P src xa ρ F e.val v) ∧ e.hash = hashD P k ∧ RepK P src xa ρ F es' ks
end
section
variable {P : Params} {src xa : Option Addr} {ρ ρ' : List Addr} {F F' : Vw} {a c dx : Addr} {o : Obj} {items : List Value} {es : List DictEntry} {n i : Nat} {ds : List D} {ks : List (D × D)} {vs : List V} {kvs : List (D × V)} {v : Value} {ws : List Value} {d k : D} {x : V} {e : DictEntry}
theorem DReps.nil : DReps P src F [] [] := rfl
theorem DRepK.nil : DRepK P src F [] [] := rfl
theorem Reps.nil : Reps P src xa ρ F [] [] := rfl
theorem RepK.nil : RepK P src xa ρ F [] [] := rfl
theorem DReps.cons (h1 : DRep P src F v d) (h2 : DReps P src F ws ds) : DReps P src F (v :: ws) (d :: ds) := ⟨v, ws, rfl, h1, h2⟩
theorem DRepK.cons {d : D} (h1 : DRep P src F e.key k) (h2 : DRep P src F e.val d) (h3 : e.hash = hashD P k) (h4 : DRepK P src F es ks) : DRepK P src F (e :: es) ((k, d) :: ks) := ⟨e, es, rfl, ⟨h1, h2⟩, h3, h4⟩
theorem Reps.cons (h1 : Rep P src xa ρ F v x) (h2 : Reps P src xa ρ F ws vs) : Reps P src xa ρ F (v :: ws) (x :: vs) := ⟨v, ws, rfl, h1, h2⟩
theorem RepK.cons (h1 : DRep P src F e.key k) (h2 : Rep P src xa ρ F e.val x) (h3 : e.hash = hashD P k) (h4 : RepK P src xa ρ F es kvs) : RepK P src xa ρ F (e :: es) ((k, x) :: kvs) := ⟨e, es, rfl, ⟨h1, h2⟩, h3, h4⟩
end
section
variable {P : Params} {src : Option Addr} {xa : Option Addr} {ρ ρ' : List Addr} {F F' : Vw}
noncomputable def NF (o : Obj) : Prop := ¬ ((o.cls = .type "frame" ∧ ∃ es n, o.data = .dict es n) ∨ ∃ vs, o.data = .fields vs)
theorem nf_seq {o : Obj} {vs : Array Value} {n : Nat} (d : o.data = .seq vs n) : NF o := fun h => h.elim (fun h => h.2.elim fun _ q => q.elim fun _ q => nomatch d.symm.trans q) fun h => h.elim fun _ q => nomatch d.symm.trans q
theorem nf_dict (es : List DictEntry) (n : Nat) : NF (dictOf es n) := fun h => h.elim (fun h => absurd (Value.type.inj h.1) (by decide)) fun h => h.elim fun _ q => nomatch q
theorem nf_inst (c dx : Addr) : NF (instObj c dx) := fun h => h.elim (fun h => nomatch h.1) fun h => h.elim fun _ q => nomatch q
theorem SeqAt.monoN (hF : ∀ a o, NF o → F a o → F' a o) {v : Value} {c : String} {items : List Value} (h : SeqAt F v c items) : SeqAt F' v c items := h.imp fun _ h => h.imp fun _ h => h.imp fun _ h => ⟨h.1, hF _ _ (nf_seq h.2.2.2) h.2.1, h.2.2⟩
theorem DictAt.monoN (hF : ∀ a o, NF o → F a o → F' a o) {v : Value} {es : List DictEntry} (h : DictAt F v es) : DictAt F' v es := h.imp fun _ h => h.imp fun _ h => ⟨h.1, h.2.1, hF _ _ (nf_dict _ _) h.2.2⟩
theorem InsAt.monoN (hF : ∀ a o, NF o → F a o → F' a o) {v : Value} {c dx : Addr} (h : InsAt F v c dx) : InsAt F' v c dx := h.imp fun _ h => ⟨h.1, hF _ _ (nf_inst _ _) h.2⟩
theorem DRep.monoN (hF : ∀ a o, NF o → F a o → F' a o) {v : Value} {d : D} : DRep P src F v d → DRep P src F' v d :=
  D.rec (motive_1 := fun d => ∀ v, DRep P src F v d → DRep P src F' v d) (motive_2 := fun ds => ∀ vs, DReps P src F vs ds → DReps P src F' vs ds)
    (motive_3 := fun ks => ∀ es, DRepK P src F es ks → DRepK P src F' es ks) (motive_4 := fun p => ∀ v w, DRep P src F v p.1 ∧ DRep P src F w p.2 → DRep P src F' v p.1 ∧ DRep P src F' w p.2)
    (fun _ h => h) (fun _ _ h => h) (fun _ _ h => h) (fun _ _ h => h) (fun _ ih _ h => h.imp fun i h => ⟨h.1.monoN hF, ih i h.2⟩) (fun _ ih _ h => h.imp fun i h => ⟨h.1.monoN hF, ih i h.2⟩)
    (fun _ ih _ h => h.imp fun i h => ⟨h.1.monoN hF, ih i h.2⟩) (fun _ _ ih _ h => h.imp fun i h => ⟨h.1.monoN hF, ih _ h.2⟩) (fun _ h => h) (fun _ _ h => h)
    (fun _ h => h) (fun _ _ ih1 ih2 _ h => h.imp fun _ h => h.imp fun _ h => ⟨h.1, ih1 _ h.2.1, ih2 _ h.2.2⟩)
    (fun _ h => h) (fun _ _ ih1 ih2 _ h => h.imp fun _ h => h.imp fun _ h => ⟨h.1, ih1 _ _ h.2.1, h.2.2.1, ih2 _ h.2.2.2⟩)
    (fun _ _ ih1 ih2 _ _ h => ⟨ih1 _ h.1, ih2 _ h.2⟩) d v
theorem DReps.monoN (hF : ∀ a o, NF o → F a o → F' a o) {ds : List D} : ∀ {vs : List Value}, DReps P src F vs ds → DReps P src F' vs ds :=
  List.rec (motive := fun ds => ∀ {vs : List Value}, DReps P src F vs ds → DReps P src F' vs ds) (fun h => h) (fun _ _ ih _ h => h.imp fun _ h => h.imp fun _ h => ⟨h.1, h.2.1.monoN hF, ih h.2.2⟩) ds
theorem DRepK.monoN (hF : ∀ a o, NF o → F a o → F' a o) {ds : List (D × D)} : ∀ {vs : List DictEntry}, DRepK P src F vs ds → DRepK P src F' vs ds :=
  List.rec (motive := fun ds => ∀ {vs : List DictEntry}, DRepK P src F vs ds → DRepK P src F' vs ds) (fun h => h) (fun _ _ ih _ h => h.imp fun _ h => h.imp fun _ h => ⟨h.1, ⟨h.2.1.1.monoN hF, h.2.1.2.monoN hF⟩, h.2.2.1, ih h.2.2.2⟩) ds
theorem Rep.monoN (hr : ∀ (i : Nat) (a : Addr), ρ[i]? = some a → ρ'[i]? = some a) (hF : ∀ a o, NF o → F a o → F' a o) {v : Value} {d : V} : Rep P src xa ρ F v d → Rep P src xa ρ' F' v d :=
  V.rec (motive_1 := fun d => ∀ v, Rep P src xa ρ F v d → Rep P src xa ρ' F' v d) (motive_2 := fun ds => ∀ vs, Reps P src xa ρ F vs ds → Reps P src xa ρ' F' vs ds)
    (motive_3 := fun ks => ∀ es, RepK P src xa ρ F es ks → RepK P src xa ρ' F' es ks) (motive_4 := fun p => ∀ v w, DRep P src F v p.1 ∧ Rep P src xa ρ F w p.2 → DRep P src F' v p.1 ∧ Rep P src xa ρ' F' w p.2)
    (fun _ _ h => DRep.monoN hF h) (fun _ ih _ h => h.imp fun i h => ⟨h.1.monoN hF, ih i h.2⟩) (fun _ _ ih _ h => h.imp fun i h => ⟨h.1.monoN hF, h.2.imp fun i h => ⟨h.1.monoN hF, ih i h.2⟩⟩)
    (fun _ _ _ h => h.imp fun i h => ⟨h.1.monoN hF, hr _ _ h.2⟩) (fun _ _ h => h.imp fun i h => ⟨h.1, hr _ _ h.2⟩) (fun _ h => h) (fun _ _ h => h.imp fun i h => ⟨h.1.monoN hF, h.2⟩)
    (fun _ h => h) (fun _ _ ih1 ih2 _ h => h.imp fun _ h => h.imp fun _ h => ⟨h.1, ih1 _ h.2.1, ih2 _ h.2.2⟩)
    (fun _ h => h) (fun _ _ ih1 ih2 _ h => h.imp fun _ h => h.imp fun _ h => ⟨h.1, ih1 _ _ h.2.1, h.2.2.1, ih2 _ h.2.2.2⟩)
    (fun _ _ ih2 _ _ h => ⟨DRep.monoN hF h.1, ih2 _ h.2⟩) d v
theorem Reps.monoN (hr : ∀ (i : Nat) (a : Addr), ρ[i]? = some a → ρ'[i]? = some a) (hF : ∀ a o, NF o → F a o → F' a o) {ds : List V} : ∀ {vs : List Value}, Reps P src xa ρ F vs ds → Reps P src xa ρ' F' vs ds :=
  List.rec (motive := fun ds => ∀ {vs : List Value}, Reps P src xa ρ F vs ds → Reps P src xa ρ' F' vs ds) (fun h => h) (fun _ _ ih _ h => h.imp fun _ h => h.imp fun _ h => ⟨h.1, h.2.1.monoN hr hF, ih h.2.2⟩) ds
theorem RepK.monoN (hr : ∀ (i : Nat) (a : Addr), ρ[i]? = some a → ρ'[i]? = some a) (hF : ∀ a o, NF o → F a o → F' a o) {ds : List (D × V)} : ∀ {vs : List DictEntry}, RepK P src xa ρ F vs ds → RepK P src xa ρ' F' vs ds :=
  List.rec (motive := fun ds => ∀ {vs : List DictEntry}, RepK P src xa ρ F vs ds → RepK P src xa ρ' F' vs ds) (fun h => h) (fun _ _ ih _ h => h.imp fun _ h => h.imp fun _ h => ⟨h.1, ⟨h.2.1.1.monoN hF, h.2.1.2.monoN hr hF⟩, h.2.2.1, ih h.2.2.2⟩) ds
theorem SeqAt.mono (hF : ∀ a o, F a o → F' a o) {v : Value} {c : String} {items : List Value} (h : SeqAt F v c items) : SeqAt F' v c items := h.monoN fun a o _ => hF a o
theorem DictAt.mono (hF : ∀ a o, F a o → F' a o) {v : Value} {es : List DictEntry} (h : DictAt F v es) : DictAt F' v es := h.monoN fun a o _ => hF a o
theorem InsAt.mono (hF : ∀ a o, F a o → F' a o) {v : Value} {c dx : Addr} (h : InsAt F v c dx) : InsAt F' v c dx := h.monoN fun a o _ => hF a o
theorem DRep.mono (hF : ∀ a o, F a o → F' a o) {v : Value} {d : D} (h : DRep P src F v d) : DRep P src F' v d := h.monoN fun a o _ => hF a o
theorem DReps.mono (hF : ∀ a o, F a o → F' a o) {ds : List D} {vs : List Value} (h : DReps P src F vs ds) : DReps P src F' vs ds := h.monoN fun a o _ => hF a o
theorem DRepK.mono (hF : ∀ a o, F a o → F' a o) {ds : List (D × D)} {vs : List DictEntry} (h : DRepK P src F vs ds) : DRepK P src F' vs ds := h.monoN fun a o _ => hF a o
theorem Rep.mono (hr : ∀ (i : Nat) (a : Addr), ρ[i]? = some a → ρ'[i]? = some a) (hF : ∀ a o, F a o → F' a o) {v : Value} {d : V} (h : Rep P src xa ρ F v d) : Rep P src xa ρ' F' v d := h.monoN hr fun a o _ => hF a o
theorem Reps.mono (hr : ∀ (i : Nat) (a : Addr), ρ[i]? = some a → ρ'[i]? = some a) (hF : ∀ a o, F a o → F' a o) {ds : List V} {vs : List Value} (h : Reps P src xa ρ F vs ds) : Reps P src xa ρ' F' vs ds := h.monoN hr fun a o _ => hF a o
theorem RepK.mono (hr : ∀ (i : Nat) (a : Addr), ρ[i]? = some a → ρ'[i]? = some a) (hF : ∀ a o, F a o → F' a o) {ds : List (D × V)} {vs : List DictEntry} (h : RepK P src xa ρ F vs ds) : RepK P src xa ρ' F' vs ds := h.monoN hr fun a o _ => hF a o
theorem Reps.length {ds : List V} : ∀ {vs : List Value}, Reps P src xa ρ F vs ds → vs.length = ds.length :=
  List.rec (motive := fun ds => ∀ {vs : List Value}, Reps P src xa ρ F vs ds → vs.length = ds.length) (fun h => congrArg _ h) (fun _ _ ih _ h => h.elim fun _ h => h.elim fun _ h => (congrArg _ h.1).trans (congrArg (· + 1) (ih h.2.2))) ds
theorem Reps.append {ws : List Value} {es : List V} {ds : List V} : ∀ {vs : List Value}, Reps P src xa ρ F vs ds → Reps P src xa ρ F ws es → Reps P src xa ρ F (vs ++ ws) (ds ++ es) :=
  List.rec (motive := fun ds => ∀ {vs : List Value}, Reps P src xa ρ F vs ds → Reps P src xa ρ F ws es → Reps P src xa ρ F (vs ++ ws) (ds ++ es)) (fun h k => by cases h; exact k)
    (fun _ _ ih _ h k => h.elim fun v h => h.elim fun w h => ⟨v, w ++ ws, congrArg (· ++ ws) h.1, h.2.1, ih h.2.2 k⟩) ds
theorem Reps.get {ds : List V} : ∀ {vs : List Value}, Reps P src xa ρ F vs ds → ∀ {i : Nat} {d : V}, ds[i]? = some d → ∃ v, vs[i]? = some v ∧ Rep P src xa ρ F v d :=
  List.rec (motive := fun ds => ∀ {vs : List Value}, Reps P src xa ρ F vs ds → ∀ {i : Nat} {d : V}, ds[i]? = some d → ∃ v, vs[i]? = some v ∧ Rep P src xa ρ F v d) (fun _ _ _ e => no e)
    (fun _ _ ih _ h i d e => h.elim fun v h => h.elim fun w h => h.1 ▸ Nat.casesOn (motive := fun i => (_ :: _)[i]? = some d → ∃ u, (v :: w)[i]? = some u ∧ Rep P src xa ρ F u d) i (fun e => ⟨v, rfl, Option.some.inj e ▸ h.2.1⟩) (fun _ e => ih h.2.2 e) e) ds
theorem Reps.drop (n : Nat) : ∀ {ds : List V} {vs : List Value}, Reps P src xa ρ F vs ds → Reps P src xa ρ F (vs.drop n) (ds.drop n) := by
  induction n with
  | zero => exact fun h => h
  | succ n ih =>
    intro ds vs h
    cases ds with
    | nil => cases h; exact .nil
    | cons d ds => exact h.elim fun v h => h.elim fun w h => h.1 ▸ ih h.2.2
theorem Reps.take (n : Nat) : ∀ {ds : List V} {vs : List Value}, Reps P src xa ρ F vs ds → Reps P src xa ρ F (vs.take n) (ds.take n) := by
  induction n with
  | zero => exact fun _ => .nil
  | succ n ih =>
    intro ds vs h
    cases ds with
    | nil => cases h; exact .nil
    | cons d ds => exact h.elim fun v h => h.elim fun w h => h.1 ▸ .cons h.2.1 (ih h.2.2)
theorem DReps.reps {ds : List D} : ∀ {vs : List Value}, DReps P src F vs ds → Reps P src xa ρ F vs (ds.map V.dat) :=
  List.rec (motive := fun ds => ∀ {vs : List Value}, DReps P src F vs ds → Reps P src xa ρ F vs (ds.map V.dat)) (fun h => h) (fun _ _ ih _ h => h.imp fun _ h => h.imp fun _ h => ⟨h.1, h.2.1, ih h.2.2⟩) ds
theorem DRepK.repK {ds : List (D × D)} : ∀ {es : List DictEntry}, DRepK P src F es ds → RepK P src xa ρ F es (ds.map fun p => (p.1, V.dat p.2)) :=
  List.rec (motive := fun ds => ∀ {es : List DictEntry}, DRepK P src F es ds → RepK P src xa ρ F es (ds.map fun p => (p.1, V.dat p.2))) (fun h => h) (fun _ _ ih _ h => h.imp fun _ h => h.imp fun _ h => ⟨h.1, h.2.1, h.2.2.1, ih h.2.2.2⟩) ds
theorem RepK.length {ds : List (D × V)} : ∀ {es : List DictEntry}, RepK P src xa ρ F es ds → es.length = ds.length :=
  List.rec (motive := fun ds => ∀ {es : List DictEntry}, RepK P src xa ρ F es ds → es.length = ds.length) (fun h => congrArg _ h) (fun _ _ ih _ h => h.elim fun _ h => h.elim fun _ h => (congrArg _ h.1).trans (congrArg (· + 1) (ih h.2.2.2))) ds
end
set_option genInjectivity false
structure Cx where
  prog : Program
  w : World
  K : Frag
  h₀ : Heap
  mg : Str → Option Value
  mb : Str → Option Value
  kin : K.In h₀
  g : h₀.Ns mainGlobals mg
  b : h₀.Ns builtinsNs mb
  lim : h₀.NoLimit
  eK : K = KK w.params
  eb : ∀ x : Str, x ≠ "__name__" → mb x = bootBuiltins x
abbrev Cx.tf (_ : Cx) : Addr := 52
theorem kin_of {w : World} {s : Shared} (e : seeK s = valK w) : (KK w.params).In s.heap := Frag.in_of (as := asK) rfl e
noncomputable def w0 : World := { draws := fun _ _ => 0, params := { strHash := fun _ => 0, shareClass := fun _ => 0, mergeTok := fun t => t, idOf := fun _ => 0, idOfShared := fun _ _ => 0, followText := fun _ => false, idOfImm := fun _ => 0 } }
theorem cx_ne : Nonempty Cx := by
  obtain ⟨⟨s, hs⟩, h⟩ := left.behind (XP := fun _ _ => True) (fun _ _ => trivial) (by kernel_rfl) w0
  obtain ⟨_, _, _, s1, _, _, _, _, G, e⟩ := h s hs
  exact ⟨⟨PySem.Challenge.pw_xm0606_01, w0, KK w0.params, s1.heap, _, _, kin_of e, G.T.g, G.T.b, G.T.nolimit, rfl, G.T.builtins⟩⟩
noncomputable def Same (s s' : Shared) : Prop := s'.gens = s.gens ∧ s'.drawn = s.drawn ∧ s'.os = s.os
def Target (C : Cx) : Prop := ∀ (s : Shared) (la : Addr) (vs : List Value) (ns : List Int) (Res : Result → Shared → Prop), C.h₀ = s.heap → s.heap.IsList la vs.toArray → IntsAre vs ns → ns.length ≤ 63 →
  (∀ s', (∀ b o, s.heap.get? b = some o → s'.heap.get? b = some o) → Same s s' → Res (.ok (.ret (.bool true))) s') → codeAny (model C.prog C.w) callerA (.call (.ref 408) ⟨[.ref la], []⟩) Res s
noncomputable def X : Cx := @Classical.epsilon Cx cx_ne fun C => ¬ Target C
theorem all_targets (h : Target X) (C : Cx) : Target C := Classical.byContradiction fun n => Classical.epsilon_spec (p := fun C => ¬ Target C) ⟨C, n⟩ h
structure Rn where
  env : Env
  wr : List Addr
  fs : List Env
  hid : List Addr
  src : Option Addr
  xa : Option Addr
  d : Nat
  top : Bool := true
  sub : ∀ e ∈ fs, ∀ L, e.frame = some L → L ∈ wr ∨ L ∈ hid
noncomputable def frs (R : Rn) : List Addr := R.fs.filterMap (·.frame)
theorem mem_frs {R : Rn} {a : Addr} : a ∈ frs R ↔ ∃ e ∈ R.fs, e.frame = some a := by unfold frs; exact List.mem_filterMap
theorem frs_sub {R : Rn} {a : Addr} (h : a ∈ frs R) : a ∈ R.wr ∨ a ∈ R.hid := let ⟨e, he, q⟩ := mem_frs.mp h; R.sub e he a q
structure St where
  loc : List (Option V)
  objs : List AObj
  ext : Option AObj
noncomputable def AObj.live : AObj → Bool
  | .fz _ => false
  | _ => true
noncomputable def liveA : List Addr → List AObj → List Addr
  | a :: ρ, o :: os => match o.live with
    | true => a :: liveA ρ os
    | false => liveA ρ os
  | _, _ => []
noncomputable def ownOf (X : Cx) (R : Rn) (ρ : List Addr) (os : List AObj) : List Addr := R.src.toList ++ (R.wr ++ (R.xa.toList ++ liveA ρ os))
noncomputable def vw (off : List Addr) (h : Heap) : Vw := fun b o => b ∉ off ∧ h.get? b = some o
noncomputable abbrev vwOf (X : Cx) (R : Rn) (ρ : List Addr) (os : List AObj) (h : Heap) : Vw := vw (ownOf X R ρ os ++ R.hid) h
noncomputable abbrev RepOf (X : Cx) (R : Rn) (ρ : List Addr) (os : List AObj) (h : Heap) : Value → V → Prop := Rep X.w.params R.src R.xa ρ (vwOf X R ρ os h)
noncomputable abbrev RepsOf (X : Cx) (R : Rn) (ρ : List Addr) (os : List AObj) (h : Heap) : List Value → List V → Prop := Reps X.w.params R.src R.xa ρ (vwOf X R ρ os h)
noncomputable def ObjRep (P : Params) (src : Option Addr) (xa : Option Addr) (ρ : List Addr) (F : Vw) (h : Heap) (a : Addr) : AObj → Prop
  | .list vs => ∃ items n, h.get? a = some (listOf (List.toArray items) n) ∧ Reps P src xa ρ F items vs
  | .dict kvs => ∃ es n, h.get? a = some (dictOf es n) ∧ RepK P src xa ρ F es kvs
  | .fz d => DRep P src F (.ref a) d
noncomputable def VarIs (env : Env) (m : Str → Option Value) (h : Heap) (x : Str) (k : NameKind) (v : Value) : Prop :=
  (k = .local ∧ m x = some v) ∨ ((k = .cell ∨ k = .free) ∧ ∃ c, env.cells.lookup x = some c ∧ h.IsCell c (some v))
inductive LocAt (env : Env) (m : Str → Option Value) (h : Heap) (r : Value → V → Prop) (i : Nat) (d : V) : Prop
  | mk (x : Str) (k : NameKind) (v : Value) (h1 : env.scope.names[i]? = some (x, k)) (h2 : VarIs env m h x k v) (h3 : r v d)
inductive SrcAt (h : Heap) (a : Addr) : Prop
  | mk (x : Int) (tx : Tok) (y : Int) (ty : Tok) (hl : h.IsList a #[.int x tx, .int y ty]) (h1 : 0 ≤ x) (h2 : 0 ≤ y) (h3 : y < 2147483647)
structure EnvOk (R : Rn) : Prop where
  kind : R.env.scope.kind = .function
  glob : R.env.globals = mainGlobals
  blt : R.env.builtins = builtinsNs
  nodup : (R.env.scope.names.map (·.1)).Nodup
  Lw : R.env.locals ∈ R.wr
  noDebug : ∀ p ∈ R.env.scope.names, (p.1 == ("__debug__" : Str)) = false ∧ (p.1 == ("__classdict__" : Str)) = false
  cells : ∀ p ∈ R.env.cells, p.2 ≠ R.env.locals ∧ (p.2 ∈ R.wr ∨ p.2 ∈ R.hid)
  cellsNd : (R.env.cells.map (·.2)).Nodup
  own : R.top = true → ∀ (i : Nat) (x : Str), R.env.scope.names[i]? = some (x, .cell) → ∃ c, R.env.cells.lookup x = some c ∧ c ∈ R.wr
  all : ∀ (i : Nat) (x : Str) (k : NameKind), R.env.scope.names[i]? = some (x, k) → (k = .cell ∨ k = .free) → ∃ c, R.env.cells.lookup x = some c
  hd : R.top = true → ∃ outer, R.fs = R.env :: outer ∧ R.env.frame = some R.env.locals
structure Sat (X : Cx) (R : Rn) (ρ : List Addr) (st : St) (h : Heap) : Prop where
  env : EnvOk R
  nodup : (ownOf X R ρ st.objs).Nodup
  dis : ∀ a ∈ ownOf X R ρ st.objs, a ∉ R.hid
  hi : ∀ a ∈ ownOf X R ρ st.objs, @LT.lt Nat _ 3 a
  there : ∀ a ∈ ownOf X R ρ st.objs ++ R.hid, ∃ o, h.get? a = some o
  base : ∀ b o, X.h₀.get? b = some o → h.get? b = some o
  baseOff : ∀ b o, X.h₀.get? b = some o → b ∉ ownOf X R ρ st.objs ++ R.hid
  src : ∀ a, R.src = some a → SrcAt h a
  len : st.objs.length = ρ.length
  objs : ∀ (i : Nat) (o : AObj), st.objs[i]? = some o → ∃ a, ρ[i]? = some a ∧ ObjRep X.w.params R.src R.xa ρ (vwOf X R ρ st.objs h) h a o
  ext : ∀ o, st.ext = some o → ∃ a, R.xa = some a ∧ o.live = true ∧ ObjRep X.w.params R.src R.xa ρ (vwOf X R ρ st.objs h) h a o
  loc : ∃ m, h.Ns R.env.locals m ∧ ∀ (i : Nat) (d : V), st.loc[i]? = some (some d) → LocAt R.env m h (RepOf X R ρ st.objs h) i d
  cellsAre : ∀ p ∈ R.env.cells, ∃ v, h.IsCell p.2 v
  ff : ∀ e ∈ R.fs, e.scope.kind ≠ .module ∧ ∃ L o, e.frame = some L ∧ X.h₀.get? L = none ∧ h.get? L = some o ∧ o.cls = .type "frame" ∧ ∃ es n, o.data = .dict es n
structure Stp (fr own own' : List Addr) (h h' : Heap) : Prop where
  keep : ∀ b o, b ∉ own → h.get? b = some o → b ∉ own' ∧ (b ∉ fr → h'.get? b = some o) ∧ ∃ sl, h'.get? b = some { o with slots := sl }
  fresh : ∀ a ∈ own', a ∈ own ∨ h.get? a = none
theorem Stp.of {fr own own' : List Addr} {h h' : Heap} (k : ∀ b o, b ∉ own → h.get? b = some o → b ∉ own' ∧ h'.get? b = some o) (f : ∀ a ∈ own', a ∈ own ∨ h.get? a = none) : Stp fr own own' h h' :=
  ⟨fun b o n e => ⟨(k b o n e).1, fun _ => (k b o n e).2, _, (k b o n e).2⟩, f⟩
theorem Stp.refl (fr own : List Addr) (h : Heap) : Stp fr own own h h := .of (fun _ _ n e => ⟨n, e⟩) fun _ m => .inl m
theorem Stp.trans {fr a b c : List Addr} {h h' h'' : Heap} (x : Stp fr a b h h') (y : Stp fr b c h' h'') : Stp fr a c h h'' := by
  refine ⟨fun q o n e => ?_, fun q m => ?_⟩
  · obtain ⟨n', k1, sl, k2⟩ := x.keep q o n e
    obtain ⟨n'', l1, sl2, l2⟩ := y.keep q _ n' k2
    exact ⟨n'', fun hf => (y.keep q o n' (k1 hf)).2.1 hf, sl2, l2⟩
  rcases y.fresh q m with m' | l
  · exact x.fresh q m'
  · by_cases hq : q ∈ a
    · exact .inl hq
    · right
      cases e : h.get? q with
      | none => rfl
      | some o => obtain ⟨_, _, _, this⟩ := x.keep q o hq e; rw [l] at this; cases this
theorem Same.refl (s : Shared) : Same s s := ⟨rfl, rfl, rfl⟩
theorem Same.trans {a b c : Shared} (x : Same a b) (y : Same b c) : Same a c := ⟨y.1.trans x.1, y.2.1.trans x.2.1, y.2.2.trans x.2.2⟩
structure Go (X : Cx) (R : Rn) (ρ ρ' : List Addr) (os os' : List AObj) (s s' : Shared) : Prop where
  stp : Stp (frs R) (ownOf X R ρ os) (ownOf X R ρ' os') s.heap s'.heap
  pre : ∀ (i : Nat) (a : Addr), ρ[i]? = some a → ρ'[i]? = some a
  same : Same s s'
theorem Go.refl (X : Cx) (R : Rn) (ρ : List Addr) (os : List AObj) (s : Shared) : Go X R ρ ρ os os s s := ⟨.refl _ _ _, fun _ _ e => e, .refl _⟩
theorem Go.trans {R : Rn} {ρ ρ' ρ'' : List Addr} {os os' os'' : List AObj} {s s' s'' : Shared} (x : Go X R ρ ρ' os os' s s') (y : Go X R ρ' ρ'' os' os'' s' s'') : Go X R ρ ρ'' os os'' s s'' :=
  ⟨x.stp.trans y.stp, fun i a e => y.pre i a (x.pre i a e), x.same.trans y.same⟩
section
variable {R : Rn} {ρ ρ' : List Addr} {os os' : List AObj} {s s' : Shared}
theorem Go.vw (x : Go X R ρ ρ' os os' s s') : ∀ a o, vwOf X R ρ os s.heap a o → vwOf X R ρ' os' s'.heap a o := by
  rintro a o ⟨n, e⟩
  have n1 : a ∉ ownOf X R ρ os := fun h => n (List.mem_append_left _ h)
  have n2 : a ∉ R.hid := fun h => n (List.mem_append_right _ h)
  obtain ⟨n3, e3, _⟩ := x.stp.keep a o n1 e
  have nf : a ∉ frs R := fun m => (frs_sub m).elim (fun w => n1 (by unfold ownOf; exact List.mem_append_right _ (List.mem_append_left _ w))) n2
  exact ⟨fun h => (List.mem_append.mp h).elim n3 n2, e3 nf⟩
theorem Go.rep (x : Go X R ρ ρ' os os' s s') {v : Value} {d : V} (r : RepOf X R ρ os s.heap v d) : RepOf X R ρ' os' s'.heap v d := r.mono x.pre x.vw
theorem Go.reps (x : Go X R ρ ρ' os os' s s') {v : List Value} {d : List V} (r : RepsOf X R ρ os s.heap v d) : RepsOf X R ρ' os' s'.heap v d := r.mono x.pre x.vw
end
structure Amb (R : Rn) (A : Around) : Prop where
  hn : A.handled = none
  depth : A.depth + 8 * R.d + 8 ≤ recursionLimit
  units : A.units + 100 * R.d + 200 ≤ cLine
  frames : A.frames = some R.fs
noncomputable def Flown (X : Cx) (R : Rn) (bad : Addr → Prop) (h0 h : Heap) (ea : Addr) : Prop :=
  ∃ ℓ a0, Heap.FlyingW (hideAll h0 ℓ) R.fs ea (.ref X.tf) a0 h ∧ h0.UpToSlots h ∧
    ∀ b ∈ ℓ, bad b ∧ X.h₀.get? b = none ∧ ∀ o, h0.get? b = some o → (o.cls = .type "frame" ∧ ∃ es n, o.data = .dict es n) ∨ (b = ea ∧ ∃ vs, o.data = .fields vs)
noncomputable def Made (X : Cx) (R : Rn) (ρ : List Addr) (os : List AObj) (h : Heap) (ea : Addr) : Prop :=
  ∃ t dd, vwOf X R ρ os h ea { cls := .ref X.tf, dict := dd, data := .fields #[.ref t, .none, .none, .none, .bool false, .none] } ∧ X.h₀.get? ea = none
noncomputable def Bad (X : Cx) (R : Rn) (ρ : List Addr) (os : List AObj) (s : Shared) (b : Addr) : Prop := b ∈ frs R ∨ b ∈ ownOf X R ρ os ∨ s.heap.get? b = none
theorem Bad.trans {R : Rn} {ρ ρ' : List Addr} {os os' : List AObj} {s s' : Shared} (g : Go X R ρ ρ' os os' s s') {b : Addr} (h : Bad X R ρ' os' s' b) : Bad X R ρ os s b := by
  rcases h with h | h
  · exact .inl h
  · by_cases hq : b ∈ ownOf X R ρ os
    · exact .inr (.inl hq)
    · refine .inr (.inr ?_)
      cases e : s.heap.get? b with
      | none => rfl
      | some o =>
        obtain ⟨n, _, sl, k⟩ := g.stp.keep b o hq e
        rcases h with h | h
        · exact absurd h n
        · rw [h] at k; cases k
inductive EPost (X : Cx) (R : Rn) (ρ : List Addr) (os : List AObj) (s : Shared) (E : Bool → St → Prop) (e : Value) (s' : Shared) : Prop
  | mk (ea : Addr) (st' : St) (ρ' : List Addr) (s0 : Shared) (fl : Bool) (h1 : e = .ref ea) (h2 : E fl st') (h3 : Sat X R ρ' st' s0.heap) (h4 : Go X R ρ ρ' os st'.objs s s0) (h5 : Same s0 s')
    (h6 : (fl = false ∧ s' = s0 ∧ Made X R ρ' st'.objs s0.heap ea ∧ Bad X R ρ os s ea) ∨ (fl = true ∧ Flown X R (Bad X R ρ os s) s0.heap s'.heap ea))
theorem EPost.trans {R : Rn} {ρ ρ' : List Addr} {os os' : List AObj} {s s' : Shared} {E : Bool → St → Prop} (g : Go X R ρ ρ' os os' s s') : ∀ e s'', EPost X R ρ' os' s' E e s'' → EPost X R ρ os s E e s'' :=
  fun _ _ ⟨ea, st', ρ'', s0, fl, h1, h2, h3, h4, h5, h6⟩ => ⟨ea, st', ρ'', s0, fl, h1, h2, h3, g.trans h4, h5, h6.imp (fun ⟨a, b, c, d⟩ => ⟨a, b, c, d.trans g⟩) fun ⟨a, ℓ, a0, b, c, d⟩ => ⟨a, ℓ, a0, b, c, fun q m => ⟨(d q m).1.trans g, (d q m).2⟩⟩⟩
inductive Post {α δ : Type} (X : Cx) (R : Rn) (ρ : List Addr) (os : List AObj) (s : Shared) (rel : (Value → V → Prop) → α → δ → Prop) (Q : δ → St → Prop) (a : α) (s' : Shared) : Prop
  | mk (d : δ) (st' : St) (ρ' : List Addr) (h1 : Sat X R ρ' st' s'.heap) (h2 : Go X R ρ ρ' os st'.objs s s') (h3 : rel (RepOf X R ρ' st'.objs s'.heap) a d) (h4 : Q d st')
theorem Post.trans {α δ : Type} {R : Rn} {ρ ρ' : List Addr} {os os' : List AObj} {s s' : Shared} {rel : (Value → V → Prop) → α → δ → Prop} {Q : δ → St → Prop} (g : Go X R ρ ρ' os os' s s') : ∀ a s'', Post X R ρ' os' s' rel Q a s'' → Post X R ρ os s rel Q a s'' :=
  fun _ _ ⟨d, st', ρ'', h1, h2, h3, h4⟩ => ⟨d, st', ρ'', h1, g.trans h2, h3, h4⟩
noncomputable def W {α δ : Type} (X : Cx) (R : Rn) (rel : (Value → V → Prop) → α → δ → Prop) (t : Sem α) (st : St) (Q : δ → St → Prop) (E : Bool → St → Prop) : Prop :=
  ∀ A s ρ, Amb R A → Sat X R ρ st s.heap → wpAny (model X.prog X.w) A t (Post X R ρ st.objs s rel Q) (EPost X R ρ st.objs s E) s
noncomputable def relV (r : Value → V → Prop) (v : Value) (d : V) : Prop := r v d
noncomputable def relB (_ : Value → V → Prop) (b b' : Bool) : Prop := b = b'
noncomputable def relU (_ : Value → V → Prop) (_ _ : Unit) : Prop := True
noncomputable def relL (r : Value → V → Prop) : List Value → List V → Prop
  | [], [] => True
  | v :: vs, d :: ds => r v d ∧ relL r vs ds
  | _, _ => False
inductive AFlow where
  | next | brk | cont | ret (d : V)
noncomputable def relF (r : Value → V → Prop) : Flow → AFlow → Prop
  | .next, .next => True
  | .brk, .brk => True
  | .cont, .cont => True
  | .ret v, .ret d => r v d
  | _, _ => False
end Mine
namespace Mine
open PySem PySem.W PyProof.Rows PySem.Calls
theorem liveA_step (b : Addr) (ρ : List Addr) (o : AObj) (os : List AObj) : liveA (b :: ρ) (o :: os) = (match o.live with | true => b :: liveA ρ os | false => liveA ρ os) := rfl
theorem liveA_cons (b : Addr) (ρ : List Addr) (o : AObj) (os : List AObj) : (o.live = true ∧ liveA (b :: ρ) (o :: os) = b :: liveA ρ os) ∨ (o.live = false ∧ liveA (b :: ρ) (o :: os) = liveA ρ os) := by
  rw [liveA_step]
  cases o.live with
  | true => exact .inl ⟨rfl, rfl⟩
  | false => exact .inr ⟨rfl, rfl⟩
theorem mem_liveA {a : Addr} {ρ : List Addr} : ∀ {os : List AObj}, a ∈ liveA ρ os ↔ ∃ i : Nat, ρ[i]? = some a ∧ ∃ o, os[i]? = some o ∧ o.live = true := by
  induction ρ with
  | nil => exact ⟨nofun, fun h => h.elim fun _ h => no h.1⟩
  | cons b ρ ih =>
    intro os
    cases os with
    | nil => exact ⟨nofun, fun h => h.elim fun _ h => h.2.elim fun _ h => no h.1⟩
    | cons o os =>
      have back : (∃ i : Nat, ρ[i]? = some a ∧ ∃ o, os[i]? = some o ∧ o.live = true) → ∃ i : Nat, (b :: ρ)[i]? = some a ∧ ∃ o', (o :: os)[i]? = some o' ∧ o'.live = true := fun h => h.elim fun i h => ⟨i + 1, h⟩
      rcases liveA_cons b ρ o os with ⟨l, e⟩ | ⟨l, e⟩
      · rw [e, List.mem_cons, ih]
        refine ⟨fun h => h.elim (fun q => ⟨0, congrArg some q.symm, o, rfl, l⟩) back, fun ⟨i, h⟩ => ?_⟩
        cases i with
        | zero => exact .inl (Option.some.inj h.1).symm
        | succ i => exact .inr ⟨i, h⟩
      · rw [e, ih]
        refine ⟨back, fun ⟨i, h⟩ => ?_⟩
        cases i with
        | zero => obtain ⟨_, _, q, r⟩ := h; cases q; exact absurd (l.symm.trans r) nofun
        | succ i => exact ⟨i, h⟩
theorem mem_own {R : Rn} {ρ : List Addr} {os : List AObj} {a : Addr} : a ∈ ownOf X R ρ os ↔ R.src = some a ∨ a ∈ R.wr ∨ R.xa = some a ∨ a ∈ liveA ρ os := by
  unfold ownOf
  simp only [List.mem_append, Option.mem_toList]
theorem liveA_set {o o' : AObj} (hl : o.live = true) (hl' : o'.live = true) {ρ : List Addr} : ∀ {os : List AObj} {i : Nat}, os[i]? = some o → liveA ρ (os.set i o') = liveA ρ os := by
  induction ρ with
  | nil => exact fun _ => rfl
  | cons b ρ ih =>
    intro os i h
    cases os with
    | nil => exact no h
    | cons x os => cases i with
      | zero => cases h; show liveA (b :: ρ) (o' :: os) = _; rw [liveA_step, liveA_step, hl, hl']
      | succ i => show liveA (b :: ρ) (x :: os.set i o') = liveA (b :: ρ) (x :: os); rw [liveA_step, liveA_step, ih (show os[i]? = some o from h)]
theorem liveA_append {ρ2 : List Addr} {os2 : List AObj} {ρ : List Addr} : ∀ {os : List AObj}, os.length = ρ.length → liveA (ρ ++ ρ2) (os ++ os2) = liveA ρ os ++ liveA ρ2 os2 := by
  induction ρ with
  | nil => intro os h; rw [List.eq_nil_of_length_eq_zero h]; rfl
  | cons b ρ ih =>
    intro os h
    cases os with
    | nil => exact nomatch h
    | cons x os =>
      show liveA (b :: (ρ ++ ρ2)) (x :: (os ++ os2)) = liveA (b :: ρ) (x :: os) ++ _
      rw [liveA_step, liveA_step, ih (Nat.succ.inj h)]
      cases x.live <;> rfl
theorem liveA_one {a : Addr} {o : AObj} (hl : o.live = true) : liveA [a] [o] = [a] := by rw [liveA_step, hl]; rfl
theorem get_app {α β : Type} {l1 l2 : List α} {m1 m2 : List β} (n : l1.length = m1.length) {i : Nat} {a : α} (e : (l1 ++ l2)[i]? = some a) :
    (l1[i]? = some a ∧ ∀ b, m1[i]? = some b → (m1 ++ m2)[i]? = some b) ∨ ∃ j : Nat, l2[j]? = some a ∧ ∀ b, m2[j]? = some b → (m1 ++ m2)[i]? = some b := by
  by_cases h : i < l1.length
  · rw [List.getElem?_append_left h] at e
    exact .inl ⟨e, fun b q => by rw [List.getElem?_append_left (n ▸ h)]; exact q⟩
  · have h := Nat.le_of_not_lt h
    rw [List.getElem?_append_right h] at e
    exact .inr ⟨_, e, fun b q => by rw [List.getElem?_append_right (n ▸ h), ← n]; exact q⟩
theorem live_unique {a : Addr} {o o' : AObj} {ρ : List Addr} : ∀ {os : List AObj} {i j : Nat}, (liveA ρ os).Nodup → ρ[i]? = some a → ρ[j]? = some a → os[i]? = some o → os[j]? = some o' → o.live = true → o'.live = true → i = j := by
  induction ρ with
  | nil => exact fun _ h => no h
  | cons b ρ ih =>
    intro os i j hn h1 h2 h3 h4 l1 l2
    cases os with
    | nil => exact no h3
    | cons x os =>
      have out : ∀ {k : Nat} {z : AObj}, x.live = true → b = a → ρ[k]? = some a → os[k]? = some z → z.live = true → False := fun {k z} lx q h2 h4 l2 => by
        rcases liveA_cons b ρ x os with ⟨_, e⟩ | ⟨l, _⟩
        · rw [e] at hn; exact (List.nodup_cons.mp hn).1 (q ▸ mem_liveA.mpr ⟨k, h2, z, h4, l2⟩)
        · exact absurd (l.symm.trans lx) nofun
      cases i with
      | zero => cases j with
        | zero => rfl
        | succ j => exact (out ((Option.some.inj h3 : x = o) ▸ l1) (Option.some.inj h1) h2 h4 l2).elim
      | succ i => cases j with
        | zero => exact (out ((Option.some.inj h4 : x = o') ▸ l2) (Option.some.inj h2) h1 h3 l1).elim
        | succ j =>
          refine congrArg (· + 1) (ih ?_ h1 h2 h3 h4 l1 l2)
          rcases liveA_cons b ρ x os with ⟨_, e⟩ | ⟨_, e⟩
          · rw [e] at hn; exact (List.nodup_cons.mp hn).2
          · rw [e] at hn; exact hn
section
variable {R : Rn} {ρ ρ' : List Addr} {st : St} {h h' : Heap} {s : Shared}
theorem Sat.size3 (S : Sat X R ρ st h) : @LT.lt Nat _ 3 h.objs.size := by
  obtain ⟨o, es, ep, e, _⟩ := X.g
  exact Heap.lt_size (S.base _ _ e)
theorem Sat.noneOff (S : Sat X R ρ st h) {a : Addr} (e : h.get? a = none) : a ∉ ownOf X R ρ st.objs ++ R.hid := fun m => by
  obtain ⟨o, ho⟩ := S.there a m; rw [e] at ho; cases ho
theorem ObjRep.monoN {P : Params} {src : Option Addr} {xa : Option Addr} {F F' : Vw} {a : Addr} {o : AObj} (hr : ∀ (i : Nat) (a : Addr), ρ[i]? = some a → ρ'[i]? = some a) (hF : ∀ a o, NF o → F a o → F' a o) (hh : o.live = true → ∀ x, NF x → h.get? a = some x → h'.get? a = some x)
    (x : ObjRep P src xa ρ F h a o) : ObjRep P src xa ρ' F' h' a o := by
  cases o with
  | list vs => exact x.imp fun items x => x.imp fun n x => ⟨hh rfl _ (nf_seq rfl) x.1, x.2.monoN hr hF⟩
  | dict kvs => exact x.imp fun items x => x.imp fun n x => ⟨hh rfl _ (nf_dict _ _) x.1, x.2.monoN hr hF⟩
  | fz d => exact DRep.monoN hF x
theorem ObjRep.mono {P : Params} {src : Option Addr} {xa : Option Addr} {F F' : Vw} {a : Addr} {o : AObj} (hr : ∀ (i : Nat) (a : Addr), ρ[i]? = some a → ρ'[i]? = some a) (hF : ∀ a o, F a o → F' a o) (hh : o.live = true → ∀ x, h.get? a = some x → h'.get? a = some x)
    (x : ObjRep P src xa ρ F h a o) : ObjRep P src xa ρ' F' h' a o := x.monoN hr (fun a o _ => hF a o) fun l x _ => hh l x
theorem mem_of_lookup2 {x : Str} {c : Addr} {l : List (Str × Addr)} : l.lookup x = some c → ∃ p ∈ l, p.2 = c := by
  induction l with
  | nil => exact fun h => no h
  | cons q r ih =>
    intro h
    rw [List.lookup_cons] at h
    cases e : x == q.1 with
    | true => rw [e] at h; exact ⟨q, .head _, Option.some.inj h⟩
    | false => rw [e] at h; exact (ih h).imp fun p q => ⟨.tail _ q.1, q.2⟩
theorem VarIs.mono {env : Env} {m : Str → Option Value} {x : Str} {k : NameKind} {v : Value} (hc : ∀ c, env.cells.lookup x = some c → ∀ o, h.get? c = some o → h'.get? c = some o) (y : VarIs env m h x k v) : VarIs env m h' x k v := by
  rcases y with y | ⟨hk, c, hc', o, ho, hd⟩
  · exact .inl y
  · exact .inr ⟨hk, c, hc', o, hc c hc' o ho, hd⟩
theorem SrcAt.at {a : Addr} (x : SrcAt h a) (k : ∀ o, h.get? a = some o → h'.get? a = some o) : SrcAt h' a := x.rec fun x tx y ty hl h1 h2 h3 => ⟨x, tx, y, ty, hl.imp fun o q => ⟨k o q.1, q.2⟩, h1, h2, h3⟩
theorem LocAt.mono {m : Str → Option Value} {r r' : Value → V → Prop} {i : Nat} {d : V} {env : Env} (x : LocAt env m h r i d) (hc : ∀ p ∈ env.cells, ∀ o, h.get? p.2 = some o → h'.get? p.2 = some o) (hr : ∀ v, r v d → r' v d) : LocAt env m h' r' i d :=
  x.rec fun x k v h1 h2 h3 => ⟨x, k, v, h1, h2.mono fun c q o e => (by obtain ⟨p, hp, rfl⟩ := mem_of_lookup2 q; exact hc p hp o e), hr v h3⟩
theorem Sat.frThere (S : Sat X R ρ st h) {a : Addr} (m : a ∈ frs R) : ∃ o, h.get? a = some o ∧ o.cls = .type "frame" ∧ ∃ es n, o.data = .dict es n := by
  obtain ⟨e, he, q⟩ := mem_frs.mp m
  obtain ⟨_, L, o, h1, _, h3, h4⟩ := S.ff e he
  cases q.symm.trans h1
  exact ⟨o, h3, h4⟩
noncomputable def Core (R : Rn) (ρ : List Addr) (os : List AObj) (a : Addr) : Prop := R.src = some a ∨ R.xa = some a ∨ a ∈ liveA ρ os
theorem own_core {os : List AObj} {a : Addr} : a ∈ ownOf X R ρ os ↔ a ∈ R.wr ∨ Core R ρ os a := mem_own.trans or_left_comm
theorem Sat.core (S : Sat X R ρ st h) {a : Addr} (m : Core R ρ st.objs a) : a ∉ R.wr := fun w => by
  have n := S.nodup
  unfold ownOf at n
  obtain ⟨_, n2, n0⟩ := List.nodup_append.mp n
  obtain ⟨_, _, n5⟩ := List.nodup_append.mp n2
  rcases m with m | m | m
  · exact n0 a (Option.mem_toList.mpr m) a (List.mem_append_left _ w) rfl
  · exact n5 a w a (List.mem_append_left _ (Option.mem_toList.mpr m)) rfl
  · exact n5 a w a (List.mem_append_right _ m) rfl
theorem Sat.re {R' : Rn} {lc : List (Option V)} (S : Sat X R ρ st h) (e1 : R'.src = R.src) (e2 : R'.xa = R.xa) (e3 : R'.fs = R.fs) (E : EnvOk R') (W : Addr → Prop) (k : ∀ b o, ¬ W b → h.get? b = some o → h'.get? b = some o)
    (wo : ∀ b, Core R ρ st.objs b → ¬ W b) (wf : ∀ b ∈ frs R, ¬ W b) (nd : R'.wr.Nodup) (dj : ∀ a ∈ R'.wr, ¬ Core R ρ st.objs a ∧ a ∉ R'.hid ∧ @LT.lt Nat _ 3 a) (dis : ∀ a, Core R ρ st.objs a → a ∉ R'.hid) (there : ∀ a, a ∈ R'.wr ∨ a ∈ R'.hid → ∃ o, h'.get? a = some o)
    (wb : ∀ b o, X.h₀.get? b = some o → ¬ W b ∧ b ∉ R'.wr ∧ b ∉ R'.hid) (hv : ∀ a, a ∉ ownOf X R ρ st.objs → a ∉ R.hid → ∀ o, h.get? a = some o → a ∉ R'.wr ∧ a ∉ R'.hid ∧ ¬ W a)
    (loc : (∀ a o, vwOf X R ρ st.objs h a o → vwOf X R' ρ st.objs h' a o) → ∃ m, h'.Ns R'.env.locals m ∧ ∀ (i : Nat) (d : V), lc[i]? = some (some d) → LocAt R'.env m h' (RepOf X R' ρ st.objs h') i d)
    (cells : ∀ p ∈ R'.env.cells, ∃ v, h'.IsCell p.2 v) : Sat X R' ρ { st with loc := lc } h' ∧ ∀ a o, vwOf X R ρ st.objs h a o → vwOf X R' ρ st.objs h' a o := by
  have co : ∀ {a}, Core R' ρ st.objs a → Core R ρ st.objs a := fun {a} m => by unfold Core at m; rw [e1, e2] at m; exact m
  have ow : ∀ {a}, Core R ρ st.objs a → a ∈ ownOf X R ρ st.objs := fun m => own_core.mpr (.inr m)
  have hF : ∀ a o, vwOf X R ρ st.objs h a o → vwOf X R' ρ st.objs h' a o := fun a o ⟨n, e⟩ => by
    have n1 : a ∉ ownOf X R ρ st.objs := fun m => n (List.mem_append_left _ m)
    have q := hv a n1 (fun m => n (List.mem_append_right _ m)) o e
    exact ⟨fun m => (List.mem_append.mp m).elim (fun m => (own_core.mp m).elim q.1 fun m => n1 (ow (co m))) q.2.1, k a o q.2.2 e⟩
  have rm : ∀ {v d}, RepOf X R ρ st.objs h v d → RepOf X R' ρ st.objs h' v d := fun {v d} r => by unfold RepOf; rw [e1, e2]; exact r.mono (fun _ _ q => q) hF
  have om : ∀ {a o}, (o.live = true → ∀ x, h.get? a = some x → h'.get? a = some x) → ObjRep X.w.params R.src R.xa ρ (vwOf X R ρ st.objs h) h a o → ObjRep X.w.params R'.src R'.xa ρ (vwOf X R' ρ st.objs h') h' a o := fun z q => by rw [e1, e2]; exact q.mono (fun _ _ q => q) hF z
  refine ⟨⟨E, ?_, fun a m => (own_core.mp m).elim (fun m => (dj a m).2.1) fun m => dis a (co m), fun a m => (own_core.mp m).elim (fun m => (dj a m).2.2) fun m => S.hi a (ow (co m)),
    fun a m => ?_, fun b o e => k b o (wb b o e).1 (S.base b o e), fun b o e m => ?_, fun a ha => ?_, S.len, fun i o e => ?_, fun o e => ?_, loc hF, cells, fun e he => ?_⟩, hF⟩
  · have n := S.nodup
    unfold ownOf at n ⊢
    rw [e1, e2]
    obtain ⟨n1, n2, n3⟩ := List.nodup_append.mp n
    refine List.nodup_append.mpr ⟨n1, List.nodup_append.mpr ⟨nd, (List.nodup_append.mp n2).2.1, fun a ha b hb q => (dj a ha).1 (q ▸ (List.mem_append.mp hb).elim (fun m => .inr (.inl (Option.mem_toList.mp m))) fun m => .inr (.inr m))⟩, fun a ha b hb q => ?_⟩
    rcases List.mem_append.mp hb with m | m
    · exact (dj b m).1 (.inl (q ▸ Option.mem_toList.mp ha))
    · exact n3 a ha b (List.mem_append_right _ m) q
  · rcases List.mem_append.mp m with m | m
    · rcases own_core.mp m with m | m
      · exact there a (.inl m)
      · exact (S.there a (List.mem_append_left _ (ow (co m)))).imp fun o e => k a o (wo a (co m)) e
    · exact there a (.inr m)
  · rcases List.mem_append.mp m with m | m
    · exact (own_core.mp m).elim (wb b o e).2.1 fun m => S.baseOff b o e (List.mem_append_left _ (ow (co m)))
    · exact (wb b o e).2.2 m
  · rw [e1] at ha
    exact (S.src a ha).at fun o e => k _ _ (wo a (.inl ha)) e
  · exact (S.objs i o e).imp fun a q => ⟨q.1, om (fun hl x z => k _ _ (wo a (.inr (.inr (mem_liveA.mpr ⟨i, q.1, o, e, hl⟩)))) z) q.2⟩
  · exact (S.ext o e).imp fun a q => ⟨e2 ▸ q.1, q.2.1, om (fun _ x z => k _ _ (wo a (.inr (.inl q.1))) z) q.2.2⟩
  · obtain ⟨h1, L, o, h2, h3, h4, h5⟩ := S.ff e (e3 ▸ he)
    exact ⟨h1, L, o, h2, h3, k _ _ (wf L (mem_frs.mpr ⟨e, e3 ▸ he, h2⟩)) h4, h5⟩
theorem Sat.to {hid' : List Addr} {sub'} (S : Sat X R ρ st h) (E : EnvOk { R with hid := hid', sub := sub' }) (W : Addr → Prop) (k : ∀ b o, ¬ W b → h.get? b = some o → h'.get? b = some o)
    (wo : ∀ b ∈ ownOf X R ρ st.objs, ¬ W b) (wc : ∀ p ∈ R.env.cells, ¬ W p.2) (wf : ∀ b ∈ frs R, ¬ W b) (wb : ∀ b o, X.h₀.get? b = some o → ¬ W b ∧ b ∉ hid') (dis : ∀ a ∈ ownOf X R ρ st.objs, a ∉ hid') (there : ∀ a ∈ hid', ∃ o, h'.get? a = some o)
    (hv : ∀ a, a ∉ ownOf X R ρ st.objs → a ∉ R.hid → ∀ o, h.get? a = some o → a ∉ hid' ∧ ¬ W a) :
    Sat X { R with hid := hid', sub := sub' } ρ st h' ∧ ∀ a o, vwOf X R ρ st.objs h a o → vwOf X { R with hid := hid', sub := sub' } ρ st.objs h' a o := by
  have wr : ∀ {a}, a ∈ R.wr → a ∈ ownOf X R ρ st.objs := fun m => own_core.mpr (.inl m)
  refine S.re (R' := { R with hid := hid', sub := sub' }) (lc := st.loc) rfl rfl rfl E W k (fun b m => wo b (own_core.mpr (.inr m))) wf ?_ (fun a m => ⟨fun q => S.core q m, dis a (wr m), S.hi a (wr m)⟩) (fun a m => dis a (own_core.mpr (.inr m)))
    (fun a m => m.elim (fun m => (S.there a (List.mem_append_left _ (wr m))).imp fun o e => k a o (wo a (wr m)) e) (there a)) (fun b o e => ⟨(wb b o e).1, fun m => S.baseOff b o e (List.mem_append_left _ (wr m)), (wb b o e).2⟩)
    (fun a n n2 o e => ⟨fun m => n (wr m), hv a n n2 o e⟩) (fun hF => ?_) fun p hp => (S.cellsAre p hp).imp fun v q => q.imp fun o q => ⟨k _ _ (wc p hp) q.1, q.2⟩
  · have n := S.nodup
    unfold ownOf at n
    exact (List.nodup_append.mp (List.nodup_append.mp n).2.1).1
  · obtain ⟨m, hm, hl⟩ := S.loc
    refine ⟨m, hm.at' fun o e => k _ o (wo _ (wr S.env.Lw)) e, fun i d e => ?_⟩
    exact (hl i d e).mono (fun p hp o e => k _ _ (wc p hp) e) fun v r => r.mono (fun _ _ q => q) hF
theorem Sat.grow (S : Sat X R ρ st h) (k : ∀ b o, h.get? b = some o → h'.get? b = some o) : Sat X R ρ st h' :=
  (S.to (hid' := R.hid) S.env (fun _ => False) (fun b o _ e => k b o e) (fun _ _ => id) (fun _ _ => id) (fun _ _ => id) (fun b o e => ⟨id, fun m => S.baseOff b o e (List.mem_append_right _ m)⟩) S.dis (fun a m => (S.there a (List.mem_append_right _ m)).imp fun o e => k a o e) fun a _ n _ _ => ⟨n, id⟩).1
theorem Go.grow {s' : Shared} (k : ∀ b o, s.heap.get? b = some o → s'.heap.get? b = some o) (sm : Same s s') : Go X R ρ ρ st.objs st.objs s s' :=
  ⟨.of (fun b o n e => ⟨n, k b o e⟩) fun _ m => .inl m, fun _ _ e => e, sm⟩
theorem Ns.slots {h h' : Heap} {a : Addr} {m : Str → Option Value} (hn : h.Ns a m) (k : ∀ o, h.get? a = some o → ∃ sl, h'.get? a = some { o with slots := sl }) : h'.Ns a m := by
  obtain ⟨o, es, ep, ho, hd, r⟩ := hn
  exact (k o ho).elim fun sl hs => ⟨_, es, ep, hs, hd, r⟩
theorem Sat.cellNf (S : Sat X R ρ st h) : ∀ p ∈ R.env.cells, p.2 ∉ frs R := fun p hp m => by
  obtain ⟨o, h3, _, es, n, h4⟩ := S.frThere m
  obtain ⟨v, o', k1, k2⟩ := S.cellsAre p hp
  cases h3.symm.trans k1
  exact nomatch h4.symm.trans k2
theorem frs_off {os : List AObj} {a : Addr} (n1 : a ∉ ownOf X R ρ os) (n2 : a ∉ R.hid) : a ∉ frs R := fun m => (frs_sub m).elim (fun w => n1 (own_core.mpr (.inl w))) n2
theorem Sat.coreFr (S : Sat X R ρ st h) {a : Addr} (m : Core R ρ st.objs a) : a ∉ frs R := fun w => (frs_sub w).elim (S.core m) (S.dis a (own_core.mpr (.inr m)))
theorem Sat.liveNd (S : Sat X R ρ st h) : (liveA ρ st.objs).Nodup ∧ (∀ a, R.src = some a → a ∉ liveA ρ st.objs ∧ R.xa ≠ some a) ∧ ∀ a, R.xa = some a → a ∉ liveA ρ st.objs := by
  have n := S.nodup
  unfold ownOf at n
  obtain ⟨_, n2, n0⟩ := List.nodup_append.mp n
  obtain ⟨_, n4, _⟩ := List.nodup_append.mp n2
  obtain ⟨_, n7, n8⟩ := List.nodup_append.mp n4
  exact ⟨n7, fun a e => ⟨fun m => n0 a (Option.mem_toList.mpr e) a (List.mem_append_right _ (List.mem_append_right _ m)) rfl, fun q => n0 a (Option.mem_toList.mpr e) a (List.mem_append_right _ (List.mem_append_left _ (Option.mem_toList.mpr q))) rfl⟩, fun a e m => n8 a (Option.mem_toList.mpr e) a m rfl⟩
section
variable {ρn : List Addr} {os os1 on : List AObj} {ex' : Option AObj} {xl : Option Addr}
theorem own_app (hlive : liveA ρ os1 = liveA ρ os) (hlen : os1.length = ρ.length) {b : Addr} : b ∈ ownOf X R (ρ ++ ρn) (os1 ++ on) ↔ b ∈ ownOf X R ρ os ∨ b ∈ liveA ρn on := by
  rw [own_core, own_core]
  unfold Core
  rw [liveA_append hlen, hlive, List.mem_append, or_assoc, or_assoc, or_assoc]
theorem vw_app (keep : ∀ b o, R.src ≠ some b → xl ≠ some b → h.get? b = some o → (b ∉ frs R → h'.get? b = some o) ∧ ∃ sl, h'.get? b = some { o with slots := sl }) (hc : ∀ a, xl = some a → Core R ρ os a) (hlive : liveA ρ os1 = liveA ρ os) (hlen : os1.length = ρ.length)
    (new : ∀ a ∈ liveA ρn on, h.get? a = none) : ∀ a o, vwOf X R ρ os h a o → vwOf X R (ρ ++ ρn) (os1 ++ on) h' a o := fun a o f => by
  have n1 : a ∉ ownOf X R ρ os := fun m => f.1 (List.mem_append_left _ m)
  have n2 : a ∉ R.hid := fun m => f.1 (List.mem_append_right _ m)
  exact ⟨fun m => (List.mem_append.mp m).elim (fun m => ((own_app hlive hlen).mp m).elim n1 fun m => no ((new a m).symm.trans f.2)) n2, (keep a o (fun q => n1 (own_core.mpr (.inr (.inl q)))) (fun q => n1 (own_core.mpr (.inr (hc a q)))) f.2).1 (frs_off n1 n2)⟩
theorem Sat.after {os' : List AObj} (S : Sat X R ρ st h) (er : ρ ++ ρn = ρ') (eo : os1 ++ on = os') (keep : ∀ b o, R.src ≠ some b → xl ≠ some b → h.get? b = some o → (b ∉ frs R → h'.get? b = some o) ∧ ∃ sl, h'.get? b = some { o with slots := sl })
    (hs : ∀ a, R.src = some a → SrcAt h' a) (hc : ∀ a, xl = some a → Core R ρ st.objs a ∧ ∃ o, h'.get? a = some o) (hlive : liveA ρ os1 = liveA ρ st.objs) (hlen : os1.length = st.objs.length) (len : on.length = ρn.length)
    (new : ∀ a ∈ liveA ρn on, h.get? a = none ∧ @LT.lt Nat _ 3 a ∧ ∃ o, h'.get? a = some o) (nd : (liveA ρn on).Nodup)
    (hobjs : ∀ (i : Nat) (o : AObj), os1[i]? = some o → ∃ b, ρ[i]? = some b ∧ ((st.objs[i]? = some o ∧ (o.live = true → xl ≠ some b)) ∨ ObjRep X.w.params R.src R.xa ρ' (vwOf X R ρ' os' h') h' b o))
    (hon : ∀ (i : Nat) (o : AObj), on[i]? = some o → ∃ b, ρn[i]? = some b ∧ ObjRep X.w.params R.src R.xa ρ' (vwOf X R ρ' os' h') h' b o)
    (hext : ∀ o, ex' = some o → ∃ b, R.xa = some b ∧ o.live = true ∧ ((st.ext = some o ∧ xl ≠ some b) ∨ ObjRep X.w.params R.src R.xa ρ' (vwOf X R ρ' os' h') h' b o)) :
    Sat X R ρ' { st with objs := os', ext := ex' } h' ∧ Stp (frs R) (ownOf X R ρ st.objs) (ownOf X R ρ' os') h h' := by
  subst er eo
  have hl1 : os1.length = ρ.length := hlen.trans S.len
  have own : ∀ {b}, b ∈ ownOf X R (ρ ++ ρn) (os1 ++ on) → b ∈ ownOf X R ρ st.objs ∨ b ∈ liveA ρn on := fun {b} => (own_app hlive hl1).mp
  have hn : ∀ {b o}, h.get? b = some o → b ∉ liveA ρn on := fun e m => no ((new _ m).1.symm.trans e)
  have off : ∀ {b}, ¬ Core R ρ st.objs b → R.src ≠ some b ∧ xl ≠ some b := fun n => ⟨fun e => n (.inl e), fun e => n (hc _ e).1⟩
  have offO : ∀ {b}, b ∉ ownOf X R ρ st.objs → ¬ Core R ρ st.objs b := fun n m => n (own_core.mpr (.inr m))
  have kW : ∀ {b o}, b ∈ R.wr ∨ b ∈ R.hid → h.get? b = some o → (b ∉ frs R → h'.get? b = some o) ∧ ∃ sl, h'.get? b = some { o with slots := sl } := fun m e => by
    have q := off fun q => m.elim (S.core q) (S.dis _ (own_core.mpr (.inr q)))
    exact keep _ _ q.1 q.2 e
  have hF := vw_app (R := R) keep (fun a e => (hc a e).1) hlive hl1 (on := on) (ρn := ρn) fun a m => (new a m).1
  have hp : ∀ (i : Nat) (b : Addr), ρ[i]? = some b → (ρ ++ ρn)[i]? = some b := fun i b e => by rw [List.getElem?_append_left (List.getElem?_eq_some_iff.mp e).1]; exact e
  have nh : ∀ {a}, a ∈ liveA ρn on → a ∉ ownOf X R ρ st.objs ++ R.hid := fun m => S.noneOff (new _ m).1
  refine ⟨⟨S.env, ?_, fun a m => (own m).elim (S.dis a) fun m q => nh m (List.mem_append_right _ q), fun a m => (own m).elim (S.hi a) fun m => (new a m).2.1, fun a m => ?_, fun b o e => ?_, fun b o e m => (List.mem_append.mp m).elim (fun m => (own m).elim (fun m => S.baseOff b o e (List.mem_append_left _ m)) (hn (S.base b o e))) fun m => S.baseOff b o e (List.mem_append_right _ m), hs,
    by rw [List.length_append, List.length_append, hl1, len], fun i o e => ?_, fun o e => ?_, S.loc.imp fun m q => ⟨Ns.slots q.1 fun o e => (kW (.inl S.env.Lw) e).2, fun i d e => (q.2 i d e).mono (fun p hq o e => (kW (S.env.cells p hq).2 e).1 (S.cellNf p hq)) fun v r => r.mono hp hF⟩,
    fun p hp => (S.cellsAre p hp).imp fun v q => q.imp fun o q => ⟨(kW (S.env.cells p hp).2 q.1).1 (S.cellNf p hp), q.2⟩, fun e he => ?_⟩, fun b o n e => ⟨fun m => (own m).elim n (hn e), keep b o (off (offO n)).1 (off (offO n)).2 e⟩, fun a m => (own m).imp id fun m => (new a m).1⟩
  · have e : ownOf X R (ρ ++ ρn) (os1 ++ on) = ownOf X R ρ st.objs ++ liveA ρn on := by unfold ownOf; rw [liveA_append hl1, hlive, List.append_assoc, List.append_assoc, List.append_assoc]
    exact e ▸ List.nodup_append.mpr ⟨S.nodup, nd, fun x hx y hy q => nh hy (List.mem_append_left _ (q ▸ hx))⟩
  · have old : a ∈ ownOf X R ρ st.objs ++ R.hid → ∃ o, h'.get? a = some o := fun m => by
      by_cases c1 : R.src = some a
      · exact (hs a c1).rec fun _ _ _ _ hl _ _ _ => hl.imp fun _ q => q.1
      · by_cases c2 : xl = some a
        · exact (hc a c2).2
        · exact (S.there a m).elim fun o e => (keep a o c1 c2 e).2.elim fun sl q => ⟨_, q⟩
    exact (List.mem_append.mp m).elim (fun m => (own m).elim (fun m => old (List.mem_append_left _ m)) fun m => (new a m).2.2) fun m => old (List.mem_append_right _ m)
  · have n1 : b ∉ ownOf X R ρ st.objs := fun m => S.baseOff b o e (List.mem_append_left _ m)
    exact (keep b o (off (offO n1)).1 (off (offO n1)).2 (S.base b o e)).1 (frs_off n1 fun m => S.baseOff b o e (List.mem_append_right _ m))
  · rcases get_app (m2 := ρn) hl1 e with ⟨e, q⟩ | ⟨j, e, q⟩
    · obtain ⟨b, g1, g2 | g2⟩ := hobjs i o e
      · obtain ⟨b', h1, h2⟩ := S.objs i o g2.1
        cases g1.symm.trans h1
        refine ⟨b, q b g1, h2.mono hp hF fun hl x q => ?_⟩
        have m := mem_liveA.mpr ⟨i, g1, o, g2.1, hl⟩
        exact (keep _ x (fun q => (S.liveNd.2.1 b q).1 m) (g2.2 hl) q).1 (S.coreFr (.inr (.inr m)))
      · exact ⟨b, q b g1, g2⟩
    · exact (hon j o e).imp fun b z => ⟨q b z.1, z.2⟩
  · obtain ⟨b, g1, gl, g2 | g2⟩ := hext o e
    · obtain ⟨b', h1, _, h2⟩ := S.ext o g2.1
      cases g1.symm.trans h1
      exact ⟨b, g1, gl, h2.mono hp hF fun hl x q => (keep _ x (fun q => (S.liveNd.2.1 b q).2 g1) g2.2 q).1 (S.coreFr (.inr (.inl g1)))⟩
    · exact ⟨b, g1, gl, g2⟩
  · obtain ⟨h1, L, o, h2, h3, h4, h5, es, n, h6⟩ := S.ff e he
    exact (kW (frs_sub (mem_frs.mpr ⟨e, he, h2⟩)) h4).2.elim fun sl q => ⟨h1, L, _, h2, h3, q, h5, es, n, h6⟩
end
theorem pre_app {a : Addr} : ∀ (i : Nat) (b : Addr), ρ[i]? = some b → (ρ ++ [a])[i]? = some b := fun i b e => by rw [List.getElem?_append_left (List.getElem?_eq_some_iff.mp e).1]; exact e
theorem Sat.newObj2 (S : Sat X R ρ st h) (k : ∀ b o, h.get? b = some o → h'.get? b = some o) {a : Addr} (hn : h.get? a = none) (h3 : @LT.lt Nat _ 3 a) {o : AObj} (hl : o.live = true) (hx : ∃ x, h'.get? a = some x)
    (hr : (∀ b x, vwOf X R ρ st.objs h b x → vwOf X R (ρ ++ [a]) (st.objs ++ [o]) h' b x) → ObjRep X.w.params R.src R.xa (ρ ++ [a]) (vwOf X R (ρ ++ [a]) (st.objs ++ [o]) h') h' a o) : Sat X R (ρ ++ [a]) { st with objs := st.objs ++ [o] } h' ∧ Stp (frs R) (ownOf X R ρ st.objs) (ownOf X R (ρ ++ [a]) (st.objs ++ [o])) h h' := by
  have one : ∀ {x}, x ∈ liveA [a] [o] → x = a := fun {x} m => List.mem_singleton.mp (liveA_one hl ▸ m)
  have kp : ∀ b o, R.src ≠ some b → none ≠ some b → h.get? b = some o → (b ∉ frs R → h'.get? b = some o) ∧ ∃ sl, h'.get? b = some { o with slots := sl } := fun b o _ _ e => ⟨fun _ => k b o e, _, k b o e⟩
  refine S.after rfl rfl kp (fun b q => (S.src b q).at fun o e => k _ _ e) (fun _ e => nomatch e) rfl rfl rfl (fun x m => by cases one m; exact ⟨hn, h3, hx⟩) (by rw [liveA_one hl]; exact List.pairwise_singleton _ _)
    (fun i o e => (S.objs i o e).imp fun b q => ⟨q.1, .inl ⟨e, nofun⟩⟩) (fun i o' e => ?_) fun o e => (S.ext o e).imp fun b q => ⟨q.1, q.2.1, .inl ⟨e, nofun⟩⟩
  cases i with
  | zero =>
    cases e
    exact ⟨a, rfl, hr (vw_app (R := R) kp (fun _ e => nomatch e) rfl S.len fun x m => one m ▸ hn)⟩
  | succ i => exact no e
theorem Sat.newObj (S : Sat X R ρ st h) (k : ∀ b o, h.get? b = some o → h'.get? b = some o) {a : Addr} (hn : h.get? a = none) (h3 : @LT.lt Nat _ 3 a) {o : AObj} (hl : o.live = true) (hx : ∃ x, h'.get? a = some x)
    (hr : ObjRep X.w.params R.src R.xa ρ (vwOf X R ρ st.objs h) h' a o) : Sat X R (ρ ++ [a]) { st with objs := st.objs ++ [o] } h' := (S.newObj2 k hn h3 hl hx fun hF => hr.mono pre_app hF fun _ _ q => q).1
theorem own_new {a : Addr} {o : AObj} {os : List AObj} (hl : o.live = true) (n : os.length = ρ.length) {b : Addr} : b ∈ ownOf X R (ρ ++ [a]) (os ++ [o]) ↔ b ∈ ownOf X R ρ os ∨ b = a := by
  rw [own_app rfl n, liveA_one hl, List.mem_singleton]
theorem Go.newObj {s' : Shared} (S : Sat X R ρ st s.heap) (k : ∀ b o, s.heap.get? b = some o → s'.heap.get? b = some o) (sm : Same s s') {a : Addr} (hn : s.heap.get? a = none) {o : AObj} (hl : o.live = true) :
    Go X R ρ (ρ ++ [a]) st.objs (st.objs ++ [o]) s s' :=
  ⟨.of (fun b x n e => ⟨fun m => ((own_new hl S.len).mp m).elim n fun (q : b = a) => no (hn.symm.trans (q ▸ e)), k b x e⟩) fun b m => ((own_new hl S.len).mp m).imp id fun (q : b = a) => q ▸ hn, pre_app, sm⟩
theorem Sat.cellOff (S : Sat X R ρ st h) {x : Str} {c : Addr} (e : R.env.cells.lookup x = some c) : c ≠ R.env.locals ∧ (c ∈ R.wr ∨ c ∈ R.hid) := by
  obtain ⟨p, hp, rfl⟩ := mem_of_lookup2 e
  exact S.env.cells p hp
theorem lookup_inj2 {x y : Str} {c : Addr} {l : List (Str × Addr)} : (l.map (·.2)).Nodup → l.lookup x = some c → l.lookup y = some c → x = y := by
  induction l with
  | nil => exact fun _ h => no h
  | cons p r ih =>
    intro hn h k
    have hn' := List.nodup_cons.mp hn
    have out : ∀ {z}, r.lookup z = some c → p.2 = c → x = y := fun {z} e q => by obtain ⟨a, ha, e⟩ := mem_of_lookup2 e; exact absurd (List.mem_map.mpr ⟨a, ha, e.trans q.symm⟩) hn'.1
    rw [List.lookup_cons] at h k
    cases e1 : x == p.1 with
    | true =>
      rw [e1] at h
      cases e2 : y == p.1 with
      | true => exact (eq_of_beq e1).trans (eq_of_beq e2).symm
      | false => rw [e2] at k; exact out k (Option.some.inj h)
    | false =>
      rw [e1] at h
      cases e2 : y == p.1 with
      | true => rw [e2] at k; exact out h (Option.some.inj k)
      | false => rw [e2] at k; exact ih hn'.2 h k
theorem Sat.at (S : Sat X R ρ st h) {a : Addr} {os' : List AObj} {ex' : Option AObj} {lc' : List (Option V)} (ha : a ∈ ownOf X R ρ st.objs) (hs : Heap.SameBut a h h') (hh : ∃ x, h'.get? a = some x) (hlive : liveA ρ os' = liveA ρ st.objs) (hlen : os'.length = st.objs.length)
    (hsrc : R.src = some a → SrcAt h' a)
    (hobjs : ∀ (i : Nat) (o : AObj), os'[i]? = some o → ∃ b, ρ[i]? = some b ∧ ((st.objs[i]? = some o ∧ (o.live = true → b ≠ a)) ∨ ObjRep X.w.params R.src R.xa ρ (vwOf X R ρ st.objs h) h' b o))
    (hext : ∀ o, ex' = some o → ∃ b, R.xa = some b ∧ o.live = true ∧ ((st.ext = some o ∧ b ≠ a) ∨ ObjRep X.w.params R.src R.xa ρ (vwOf X R ρ st.objs h) h' b o))
    (hloc : ∃ m, h'.Ns R.env.locals m ∧ ∀ (i : Nat) (d : V), lc'[i]? = some (some d) → LocAt R.env m h' (RepOf X R ρ st.objs h) i d)
    (hcl : ∀ p ∈ R.env.cells, p.2 = a → ∃ v, h'.IsCell a v) (hff : a ∈ frs R → ∃ y, h'.get? a = some y ∧ y.cls = .type "frame" ∧ ∃ es n, y.data = .dict es n) : Sat X R ρ { loc := lc', objs := os', ext := ex' } h' := by
  have hown : ownOf X R ρ os' = ownOf X R ρ st.objs := by unfold ownOf; rw [hlive]
  have up : ∀ {b o}, b ≠ a → h.get? b = some o → h'.get? b = some o := fun q e => (hs.2 _ q).trans e
  have hF : ∀ b x, vwOf X R ρ st.objs h b x → vwOf X R ρ os' h' b x := fun b x ⟨n, e⟩ => ⟨hown.symm ▸ n, up (fun q => n (q ▸ List.mem_append_left _ ha)) e⟩
  refine ⟨S.env, hown.symm ▸ S.nodup, hown.symm ▸ S.dis, hown.symm ▸ S.hi, fun b hb => ?_, fun b o e => up (fun q => S.baseOff b o e (q ▸ List.mem_append_left _ ha)) (S.base b o e), hown.symm ▸ S.baseOff, fun b hb => ?_, hlen.trans S.len, fun i o e => ?_, fun o e => ?_, hloc.imp fun m q => ⟨q.1, fun i d e => (q.2 i d e).mono (fun _ _ _ e => e) fun v r => r.mono (fun _ _ q => q) hF⟩, fun p hp => ?_, fun e he => ?_⟩
  · by_cases q : b = a
    · exact q ▸ hh
    · exact (S.there b (hown ▸ hb)).imp fun o e => up q e
  · by_cases q : b = a
    · exact q ▸ hsrc (q ▸ hb)
    · exact (S.src b hb).at fun o e => up q e
  · obtain ⟨b, h1, h2 | h2⟩ := hobjs i o e
    · obtain ⟨b', h1', h4⟩ := S.objs i o h2.1
      cases h1.symm.trans h1'
      exact ⟨b, h1, h4.mono (fun _ _ q => q) hF fun l x q => up (h2.2 l) q⟩
    · exact ⟨b, h1, h2.mono (fun _ _ q => q) hF fun _ x q => q⟩
  · obtain ⟨b, h1, hl, h2 | h2⟩ := hext o e
    · obtain ⟨b', h1', _, h4⟩ := S.ext o h2.1
      cases h1.symm.trans h1'
      exact ⟨b, h1, hl, h4.mono (fun _ _ q => q) hF fun l x q => up h2.2 q⟩
    · exact ⟨b, h1, hl, h2.mono (fun _ _ q => q) hF fun _ x q => q⟩
  · by_cases q : p.2 = a
    · exact q ▸ hcl p hp q
    · exact (S.cellsAre p hp).imp fun v y => y.imp fun o y => ⟨up q y.1, y.2⟩
  · obtain ⟨h1, L, x, h2, h3, h4, h5⟩ := S.ff e he
    by_cases q : L = a
    · exact (hff (q ▸ mem_frs.mpr ⟨e, he, h2⟩)).elim fun y hy => ⟨h1, L, y, h2, h3, q ▸ hy.1, hy.2⟩
    · exact ⟨h1, L, x, h2, h3, up q h4, h5⟩
theorem Go.at {s' : Shared} {a : Addr} {os' : List AObj} (ha : a ∈ ownOf X R ρ st.objs) (hs : Heap.SameBut a s.heap s'.heap) (hlive : liveA ρ os' = liveA ρ st.objs) (sm : Same s s') : Go X R ρ ρ st.objs os' s s' := by
  have hown : ownOf X R ρ os' = ownOf X R ρ st.objs := by unfold ownOf; rw [hlive]
  exact ⟨.of (fun b x n e => ⟨hown.symm ▸ n, (hs.2 b fun q => n (q ▸ ha)).trans e⟩) fun b m => .inl (hown ▸ m), fun _ _ e => e, sm⟩
theorem Sat.put (S : Sat X R ρ st h) {a : Addr} {os' : List AObj} {ex' : Option AObj} (m : Core R ρ st.objs a) (hs : Heap.SameBut a h h') (hh : ∃ x, h'.get? a = some x) (hlive : liveA ρ os' = liveA ρ st.objs) (hlen : os'.length = st.objs.length) (hsrc : R.src = some a → SrcAt h' a)
    (hobjs : ∀ (i : Nat) (o : AObj), os'[i]? = some o → ∃ b, ρ[i]? = some b ∧ ((st.objs[i]? = some o ∧ (o.live = true → b ≠ a)) ∨ ObjRep X.w.params R.src R.xa ρ (vwOf X R ρ st.objs h) h' b o))
    (hext : ∀ o, ex' = some o → ∃ b, R.xa = some b ∧ o.live = true ∧ ((st.ext = some o ∧ b ≠ a) ∨ ObjRep X.w.params R.src R.xa ρ (vwOf X R ρ st.objs h) h' b o)) : Sat X R ρ { st with objs := os', ext := ex' } h' := by
  have ha := own_core.mpr (.inr m)
  have off : ∀ {b}, b ∈ R.wr ∨ b ∈ R.hid → b ≠ a := fun w q => w.elim (fun w => S.core m (q ▸ w)) fun w => S.dis a ha (q ▸ w)
  have hc : ∀ p ∈ R.env.cells, p.2 ≠ a := fun p hp => off (S.env.cells p hp).2
  exact S.at ha hs hh hlive hlen hsrc hobjs hext (S.loc.imp fun m q => ⟨q.1.sameBut hs (off (.inl S.env.Lw)), fun i d e => (q.2 i d e).mono (fun p hp o e => (hs.2 _ (hc p hp)).trans e) fun v r => r⟩) (fun p hp q => absurd q (hc p hp)) fun w => absurd rfl (off (frs_sub w))
theorem Sat.setObj (S : Sat X R ρ st h) {a : Addr} {i : Nat} {o o' : AObj} (hi : st.objs[i]? = some o) (hρ : ρ[i]? = some a) (hl : o.live = true) (hl' : o'.live = true) (hs : Heap.SameBut a h h') (hx : ∃ x, h'.get? a = some x)
    (hr : ObjRep X.w.params R.src R.xa ρ (vwOf X R ρ st.objs h) h' a o') : Sat X R ρ { st with objs := st.objs.set i o' } h' := by
  have N := S.liveNd
  have hm : a ∈ liveA ρ st.objs := mem_liveA.mpr ⟨i, hρ, o, hi, hl⟩
  refine S.put (ex' := st.ext) (.inr (.inr hm)) hs hx (liveA_set hl hl' hi) List.length_set (fun q => absurd hm (N.2.1 a q).1) (fun j oj e => ?_) fun oj e => (S.ext oj e).imp fun b q => ⟨q.1, q.2.1, .inl ⟨e, fun z => N.2.2 b q.1 (z ▸ hm)⟩⟩
  rw [List.getElem?_set] at e
  by_cases hij : i = j
  · rw [if_pos hij, if_pos (List.getElem?_eq_some_iff.mp hi).1] at e
    cases e
    exact ⟨a, hij ▸ hρ, .inr hr⟩
  · rw [if_neg hij] at e
    exact (S.objs j oj e).imp fun b q => ⟨q.1, .inl ⟨e, fun lj z => hij (live_unique N.1 hρ (z ▸ q.1) hi e hl lj)⟩⟩
theorem Sat.setExt (S : Sat X R ρ st h) {a : Addr} {o' : AObj} (hρ : R.xa = some a) (hl' : o'.live = true) (hs : Heap.SameBut a h h') (hx : ∃ x, h'.get? a = some x)
    (hr : ObjRep X.w.params R.src R.xa ρ (vwOf X R ρ st.objs h) h' a o') : Sat X R ρ { st with ext := some o' } h' :=
  S.put (os' := st.objs) (.inr (.inl hρ)) hs hx rfl rfl (fun q => absurd hρ (S.liveNd.2.1 a q).2) (fun j oj e => (S.objs j oj e).imp fun b q => ⟨q.1, .inl ⟨e, fun lj z => S.liveNd.2.2 a hρ (z ▸ mem_liveA.mpr ⟨j, q.1, oj, e, lj⟩)⟩⟩)
    fun oj e => by cases e; exact ⟨a, hρ, hl', .inr hr⟩
theorem Sat.setSrc (S : Sat X R ρ st h) {a : Addr} (ha : R.src = some a) (hs : Heap.SameBut a h h') (hx : SrcAt h' a) : Sat X R ρ st h' :=
  S.put (os' := st.objs) (ex' := st.ext) (.inl ha) hs (hx.rec fun _ _ _ _ hl _ _ _ => hl.imp fun _ q => q.1) rfl rfl (fun _ => hx) (fun j oj e => (S.objs j oj e).imp fun b q => ⟨q.1, .inl ⟨e, fun lj z => (S.liveNd.2.1 a ha).1 (z ▸ mem_liveA.mpr ⟨j, q.1, oj, e, lj⟩)⟩⟩)
    fun oj e => (S.ext oj e).imp fun b q => ⟨q.1, q.2.1, .inl ⟨e, fun z => (S.liveNd.2.1 a ha).2 (z ▸ q.1)⟩⟩
end
end Mine
namespace Mine
open PySem PySem.W PyProof.Rows PySem.Calls
section
variable {M : Model} {A : Around} {E : Value → Shared → Prop} {s : Shared}
theorem nsSet_keeps {a : Addr} {m : Str → Option Value} {name : Str} {v : Value} {Q : Unit → Shared → Prop} (hn : s.heap.Ns a m)
    (hQ : ∀ h', h'.Ns a (fun x => if x = name then some v else m x) → Heap.SameBut a s.heap h' → (∀ x, s.heap.get? a = some x → ∃ y, h'.get? a = some y ∧ y.cls = x.cls ∧ ∃ es n, y.data = .dict es n) →
      Q () { s with heap := h', toks := s.toks + 1 }) : wpAny M A (nsSet a name v) Q E s := by
  obtain ⟨o, es, ep, ho, hd, hk, hm⟩ := id hn
  have hany : es.any (·.refKey) = false := by
    rw [Array.any_eq_false']; intro e he; obtain ⟨n, t, h⟩ := hk e he; simp [DictEntry.refKey, h]
  unfold nsSet strHash
  refine wpAny_bind (wpAny_bind (wpAny_askSetting (wpAny_pure (wpAny_bind (wpAny_mkText ?_)))))
  refine wpAny_bind (wpAny_loadPart (s := { s with toks := s.toks + 1 }) ho ?_)
  rw [hd]
  dsimp only
  rw [aRefKeyMayBeTheName_eq]
  unfold aRefKeyMayBeTheNameByArray
  rw [hany, Bool.and_false]
  simp only [Bool.false_eq_true, if_false]
  refine wpAny_updatePart (s := { s with toks := s.toks + 1 }) ho ?_
  obtain ⟨c, d, dt, sl⟩ := o
  simp only at hd
  subst hd
  have hpush : ∀ (hash : Int), (s.heap.update a (Obj.putName name hash (.str name s.toks) v)).Ns a (fun x => if x = name then some v else m x) ∧
      ∃ y, (s.heap.update a (Obj.putName name hash (.str name s.toks) v)).get? a = some y ∧ y.cls = c ∧ ∃ es n, y.data = .dict es n := by
    intro hash
    cases hi : es.findIdx? (·.key.isStr name) with
    | some i =>
      have g : (s.heap.update a (Obj.putName name hash (.str name s.toks) v)).get? a = some ⟨c, d, .dict (es.modify i fun e => { e with val := v }) ep, sl⟩ :=
        (Heap.get?_update_self (Obj.putName name hash (.str name s.toks) v) ho (by simp only [Obj.putName_eq, Obj.putNameByArray, hi]; rfl)).trans (by simp only [Obj.putName_eq, Obj.putNameByArray, hi])
      refine ⟨⟨_, _, ep, g, rfl, hk.modify _ _, fun x => ?_⟩, _, g, rfl, _, _, rfl⟩
      show nsFind _ x = if x = name then some v else m x
      rw [← hm]; exact findBy_modify (fun n v => v.isStr n) Value.isStr_inj es name x v i hi
    | none =>
      have g : (s.heap.update a (Obj.putName name hash (.str name s.toks) v)).get? a = some ⟨c, d, .dict (es.push ⟨hash, .str name s.toks, v⟩) (ep + 1), sl⟩ :=
        (Heap.get?_update_self (Obj.putName name hash (.str name s.toks) v) ho (by simp only [Obj.putName_eq, Obj.putNameByArray, hi]; rfl)).trans (by simp only [Obj.putName_eq, Obj.putNameByArray, hi])
      refine ⟨⟨_, _, ep + 1, g, rfl, hk.push _ _ _ _, fun x => ?_⟩, _, g, rfl, _, _, rfl⟩
      show nsFind _ x = if x = name then some v else m x
      rw [← hm]
      exact findBy_push (fun n v => v.isStr n) es name x _ _ v (fun y => by
        show (name == y) = decide (y = name)
        by_cases h : y = name
        · subst h; simp
        · have : ¬ name = y := fun e => h e.symm
          simp [h, this]) hi
  have := hpush (if name.cps.isEmpty = true then 0 else reduceHash ((⟨M.prog, M.w.params⟩ : Setting).params.strHash name.cps))
  exact hQ _ this.1 (Heap.SameBut.update ..) fun x hx => by rw [ho] at hx; cases hx; exact this.2
end
theorem lookup_of_get {α : Type} {names : List (Str × α)} (hn : (names.map (·.1)).Nodup) {x : Str} {k : α} : ∀ {i : Nat}, names[i]? = some (x, k) → names.lookup x = some k := by
  induction names with
  | nil => intro i e; exact no e
  | cons p r ih =>
    intro i e
    have hn' := List.nodup_cons.mp hn
    rw [List.lookup_cons]
    cases i with
    | zero => cases (Option.some.inj e : p = (x, k)); rw [beq_self_eq_true]
    | succ i =>
      have e' : r[i]? = some (x, k) := e
      rw [beq_eq_false_iff_ne.mpr fun q => hn'.1 (List.mem_map.mpr ⟨_, List.mem_of_getElem? e', q⟩)]
      exact ih hn'.2 e'
theorem get_inj {names : List (Str × NameKind)} (hn : (names.map (·.1)).Nodup) {i j : Nat} {x : Str} {k k' : NameKind} (e : names[i]? = some (x, k)) (e' : names[j]? = some (x, k')) : i = j := by
  have a : (names.map (·.1))[i]? = some x := by rw [List.getElem?_map, e]; rfl
  have b : (names.map (·.1))[j]? = some x := by rw [List.getElem?_map, e']; rfl
  obtain ⟨h1, h1'⟩ := List.getElem?_eq_some_iff.mp a
  obtain ⟨h2, h2'⟩ := List.getElem?_eq_some_iff.mp b
  exact (List.getElem_inj hn).mp (h1'.trans h2'.symm)
section
variable {R : Rn} {ρ ρ' : List Addr} {st : St} {h h' : Heap} {s : Shared}
theorem Sat.setName (S : Sat X R ρ st h) {a : Addr} {i : Nat} {x : Str} {k : NameKind} {v : Value} {d : V} (hi : R.env.scope.names[i]? = some (x, k)) (r : RepOf X R ρ st.objs h v d) (w : a ∈ R.wr) (hs : Heap.SameBut a h h') (hx : ∃ x, h'.get? a = some x) {m m' : Str → Option Value} (hn : h'.Ns R.env.locals m')
    (hl : ∀ (i : Nat) (d : V), st.loc[i]? = some (some d) → LocAt R.env m h (RepOf X R ρ st.objs h) i d) (hv : VarIs R.env m' h' x k v) (ho : ∀ y k' u j, R.env.scope.names[j]? = some (y, k') → j ≠ i → VarIs R.env m h y k' u → VarIs R.env m' h' y k' u)
    (hc : ∀ p ∈ R.env.cells, p.2 = a → ∃ v, h'.IsCell a v) (hf : a ∈ frs R → ∃ y, h'.get? a = some y ∧ y.cls = .type "frame" ∧ ∃ es n, y.data = .dict es n) : Sat X R ρ { st with loc := st.loc.set i (some d) } h' := by
  refine S.at (os' := st.objs) (ex' := st.ext) (own_core.mpr (.inl w)) hs hx rfl rfl (fun q => absurd w (S.core (.inl q))) (fun j oj e => (S.objs j oj e).imp fun b q => ⟨q.1, .inl ⟨e, fun lj z => S.core (.inr (.inr (mem_liveA.mpr ⟨j, q.1, oj, e, lj⟩))) (z ▸ w)⟩⟩)
    (fun oj e => (S.ext oj e).imp fun b q => ⟨q.1, q.2.1, .inl ⟨e, fun z => S.core (.inr (.inl q.1)) (z ▸ w)⟩⟩) ⟨m', hn, fun j dj e => ?_⟩ hc hf
  rw [List.getElem?_set] at e
  by_cases hij : i = j
  · rw [if_pos hij] at e
    split at e
    · cases e; exact ⟨x, k, v, hij ▸ hi, hv, r⟩
    · exact no e
  · rw [if_neg hij] at e
    obtain ⟨y, k', u, h1, h2, h3⟩ := hl j dj e
    exact ⟨y, k', u, h1, ho y k' u j h1 (Ne.symm hij) h2, h3⟩
theorem Sat.setLocal (S : Sat X R ρ st h) {i : Nat} {x : Str} {v : Value} {d : V} (hi : R.env.scope.names[i]? = some (x, .local)) (r : RepOf X R ρ st.objs h v d)
    {m : Str → Option Value} (hl : ∀ (i : Nat) (d : V), st.loc[i]? = some (some d) → LocAt R.env m h (RepOf X R ρ st.objs h) i d)
    (hn : h'.Ns R.env.locals (fun y => if y = x then some v else m y)) (hs : Heap.SameBut R.env.locals h h') (hc : ∀ x, h.get? R.env.locals = some x → ∃ y, h'.get? R.env.locals = some y ∧ y.cls = x.cls ∧ ∃ es n, y.data = .dict es n) :
    Sat X R ρ { st with loc := st.loc.set i (some d) } h' := by
  refine S.setName hi r S.env.Lw hs (hn.imp fun _ q => q.elim fun _ q => q.elim fun _ q => q.1) hn hl (.inl ⟨rfl, if_pos rfl⟩) (fun y k u j e hj w => ?_) (fun p hp q => absurd q (S.env.cells p hp).1) fun w => ?_
  · rcases w with ⟨q, w⟩ | ⟨q, c, h4, o, h5, h6⟩
    · exact .inl ⟨q, (if_neg fun (z : y = x) => hj (get_inj S.env.nodup e (show R.env.scope.names[i]? = some (y, .local) from z ▸ hi))).trans w⟩
    · exact .inr ⟨q, c, h4, o, (hs.2 c (S.cellOff h4).1).trans h5, h6⟩
  · obtain ⟨o, e, c, _⟩ := S.frThere w
    exact (hc o e).imp fun y q => ⟨q.1, q.2.1.trans c, q.2.2⟩
theorem Sat.setCell (S : Sat X R ρ st h) {i : Nat} {x : Str} {c : Addr} {v : Value} {d : V} (hi : R.env.scope.names[i]? = some (x, .cell)) (hcl : R.env.cells.lookup x = some c) (hw : c ∈ R.wr) (r : RepOf X R ρ st.objs h v d)
    (hn : h'.IsCell c (some v)) (hs : Heap.SameBut c h h') : Sat X R ρ { st with loc := st.loc.set i (some d) } h' := by
  obtain ⟨m, hm, hl⟩ := S.loc
  refine S.setName hi r hw hs (hn.imp fun _ q => q.1) (hm.sameBut hs (S.cellOff hcl).1.symm) hl (.inr ⟨.inl rfl, c, hcl, hn⟩) (fun y k u j e hj w => ?_) (fun p hp q => ⟨_, hn⟩) fun w => ?_
  · rcases w with w | ⟨q, c', h4, o, h5, h6⟩
    · exact .inl w
    · refine .inr ⟨q, c', h4, o, (hs.2 c' fun z => hj ?_).trans h5, h6⟩
      have q2 : y = x := lookup_inj2 S.env.cellsNd (z ▸ h4) hcl
      exact get_inj S.env.nodup e (show R.env.scope.names[i]? = some (y, .cell) from q2 ▸ hi)
  · obtain ⟨p, hp, rfl⟩ := mem_of_lookup2 hcl
    obtain ⟨_, o, ho, hd⟩ := S.cellsAre p hp
    obtain ⟨o', e, _, es, n, q⟩ := S.frThere w
    cases ho.symm.trans e
    exact nomatch hd.symm.trans q
theorem liveA_fz {o o' : AObj} (hl : o.live = true) (hl' : o'.live = false) {a : Addr} {ρ : List Addr} : ∀ {os : List AObj} {i : Nat}, os[i]? = some o → ρ[i]? = some a → (liveA ρ os).Nodup →
    (liveA ρ (os.set i o')).Sublist (liveA ρ os) ∧ a ∉ liveA ρ (os.set i o') := by
  induction ρ with
  | nil => exact fun _ k => no k
  | cons b ρ ih =>
    intro os i h k hn
    cases os with
    | nil => exact no h
    | cons x os => cases i with
      | zero =>
        cases h; cases k
        show (liveA (a :: ρ) (o' :: os)).Sublist _ ∧ a ∉ liveA (a :: ρ) (o' :: os)
        rw [liveA_step, hl] at hn
        rw [liveA_step, liveA_step, hl, hl']
        exact ⟨List.sublist_cons_self _ _, (List.nodup_cons.mp hn).1⟩
      | succ i =>
        show (liveA (b :: ρ) (x :: os.set i o')).Sublist (liveA (b :: ρ) (x :: os)) ∧ a ∉ liveA (b :: ρ) (x :: os.set i o')
        have h' : os[i]? = some o := h
        have k' : ρ[i]? = some a := k
        rw [liveA_step] at hn
        rw [liveA_step, liveA_step]
        cases lx : x.live with
        | false => rw [lx] at hn; exact ih h' k' hn
        | true =>
          rw [lx] at hn
          have n := List.nodup_cons.mp hn
          have y := ih h' k' n.2
          exact ⟨y.1.cons_cons b, fun m => (List.mem_cons.mp m).elim (fun q => n.1 (q ▸ mem_liveA.mpr ⟨i, k, o, h', hl⟩)) y.2⟩
theorem Sat.freeze (S : Sat X R ρ st h) {i : Nat} {a : Addr} {o : AObj} {d : D} (hi : st.objs[i]? = some o) (hρ : ρ[i]? = some a) (hl : o.live = true)
    (hd : ∀ F : Vw, (∀ b x, vwOf X R ρ st.objs h b x → F b x) → (∀ x, h.get? a = some x → F a x) → DRep X.w.params R.src F (.ref a) d) :
    Sat X R ρ { st with objs := st.objs.set i (.fz d) } h ∧ ∀ s s' : Shared, s.heap = h → s'.heap = h → Same s s' → Go X R ρ ρ st.objs (st.objs.set i (.fz d)) s s' := by
  have N := S.liveNd
  have hm : a ∈ liveA ρ st.objs := mem_liveA.mpr ⟨i, hρ, o, hi, hl⟩
  have z := liveA_fz (o' := .fz d) hl rfl hi hρ N.1
  have hsub : ∀ {b}, b ∈ ownOf X R ρ (st.objs.set i (.fz d)) → b ∈ ownOf X R ρ st.objs := fun m => own_core.mpr ((own_core.mp m).imp id fun m => m.imp id fun m => m.imp id fun m => z.1.subset m)
  have hsub2 : ∀ {b}, b ∈ ownOf X R ρ (st.objs.set i (.fz d)) ++ R.hid → b ∈ ownOf X R ρ st.objs ++ R.hid := fun m => List.mem_append.mpr ((List.mem_append.mp m).imp hsub id)
  have hoff : a ∉ ownOf X R ρ (st.objs.set i (.fz d)) ++ R.hid := fun m => (List.mem_append.mp m).elim (fun m => (own_core.mp m).elim (S.core (.inr (.inr hm))) fun m => m.elim (fun m => (N.2.1 a m).1 hm) fun m => m.elim (fun m => N.2.2 a m hm) z.2) (S.dis a (own_core.mpr (.inr (.inr (.inr hm)))))
  have hF : ∀ b x, vwOf X R ρ st.objs h b x → vwOf X R ρ (st.objs.set i (.fz d)) h b x := fun b x f => ⟨fun m => f.1 (hsub2 m), f.2⟩
  refine ⟨⟨S.env, ?_, fun b m => S.dis b (hsub m), fun b m => S.hi b (hsub m), fun b m => S.there b (hsub2 m), S.base, fun b x e m => S.baseOff b x e (hsub2 m), S.src, List.length_set.trans S.len, fun j oj e => ?_, fun oj e => (S.ext oj e).imp fun b q => ⟨q.1, q.2.1, q.2.2.mono (fun _ _ q => q) hF fun _ x q => q⟩,
    S.loc.imp fun m q => ⟨q.1, fun j dj e => (q.2 j dj e).mono (fun _ _ _ e => e) fun v r => r.mono (fun _ _ q => q) hF⟩, S.cellsAre, S.ff⟩, fun s s' e1 e2 sm => ⟨.of (fun b x n e => ⟨fun m => n (hsub m), e2 ▸ e1 ▸ e⟩) fun b m => .inl (hsub m), fun _ _ e => e, sm⟩⟩
  · have n := S.nodup
    unfold ownOf at n ⊢
    exact n.sublist (((z.1.append_left _).append_left _).append_left _)
  · have e' : (st.objs.set i (.fz d))[j]? = some oj := e
    rw [List.getElem?_set] at e'
    by_cases hij : i = j
    · rw [if_pos hij, if_pos (List.getElem?_eq_some_iff.mp hi).1] at e'
      cases e'
      exact ⟨a, hij ▸ hρ, hd _ hF fun x q => ⟨hoff, q⟩⟩
    · rw [if_neg hij] at e'
      exact (S.objs j oj e').imp fun b q => ⟨q.1, q.2.mono (fun _ _ q => q) hF fun _ x q => q⟩
end
end Mine
namespace Mine
open PySem PySem.W PyProof.Rows PySem.Calls
inductive PT where
  | one (i : Nat)
  | many (is : List Nat)
inductive BI where
  | len | max | isstr
inductive TY where
  | int | tuple | str
inductive MN where
  | append | extend | pop | get | join
mutual
inductive PE where
  | cst (d : D)
  | loc (i : Nat)
  | tup (es : PEs)
  | lst (es : PEs)
  | dct (ks : List D) (vs : PEs)
  | sub (e i : PE)
  | slTo (e hi : PE)
  | slFrom (e lo : PE)
  | att (e : PE) (n : List Nat)
  | bin (op : Operator) (l r : PE)
  | cmp (op : CmpOp) (l r : PE)
  | bop (isAnd : Bool) (es : PEs)
  | neg (e : PE)
  | ite (t : PT1) (a b : PE)
  | call (f : Addr) (args : PEs)
  | new (c f : Addr) (live : Bool) (args : PEs)
  | bi (f : BI) (args : PEs)
  | ty (f : TY) (args : PEs)
  | meth (o : PE) (n : MN) (args : PEs)
  | methf (o : PE) (n : List Nat) (c f : Addr) (args : PEs)
  | comp (elt : PE) (tg : PT) (it : PI) (ifs : PTs) (cap : List (Nat × Nat)) (nl : Nat)
  | lzip (a b : PE)
  | dzip (a b : PE)
  | srt (e : PE)
inductive PEs where
  | nil
  | cons (e : PE) (r : PEs)
inductive PI where
  | seq (e : PE)
  | zip (a b : PE)
  | range (e : PE)
inductive PT1 where
  | nt (t : PT1)
  | bop (isAnd : Bool) (ts : PTs)
  | cmp (op : CmpOp) (l r : PE)
  | val (e : PE)
inductive PTs where
  | nil
  | cons (t : PT1) (r : PTs)
end
inductive PA where
  | loc (i : Nat)
  | locs (rev : Bool) (is : List Nat)
  | sub (o i : PE)
  | subs2 (o1 i1 o2 i2 : PE)
  | att (o : PE) (n : List Nat)
mutual
inductive PS where
  | asg (t : PA) (e : PE)
  | expr (e : PE)
  | ife (t : PT1) (a b : PSs)
  | whl (t : PT1) (b : PSs)
  | forS (tg : PT) (it : PI) (b : PSs)
  | ret (e : PE)
  | brk
  | cont
  | raise (e : PE)
  | tryS (b : PSs) (h : PE)
inductive PSs where
  | nil
  | cons (s : PS) (r : PSs)
end
noncomputable def lbeq : List Nat → List Nat → Bool
  | [], [] => true
  | a :: r, b :: t => match Nat.beq a b with | true => lbeq r t | false => false
  | _, _ => false
noncomputable def ibeq : Int → Int → Bool
  | .ofNat a, .ofNat b => Nat.beq a b
  | .negSucc a, .negSucc b => Nat.beq a b
  | _, _ => false
noncomputable def iltb : Int → Int → Bool
  | .ofNat a, .ofNat b => Nat.blt a b
  | .negSucc a, .negSucc b => Nat.blt b a
  | .negSucc _, .ofNat _ => true
  | .ofNat _, .negSucc _ => false
noncomputable def band2 (a b : Bool) : Bool := match a with | true => b | false => false
noncomputable def bint (b : Bool) : Int := match b with | true => 1 | false => 0
noncomputable def bbeq (a b : Bool) : Bool := match a with | true => b | false => match b with | true => false | false => true
mutual
noncomputable def dbeq : D → D → Bool
  | .none, .none => true
  | .bool a, .bool b => bbeq a b
  | .int a, .int b => ibeq a b
  | .bool a, .int b => ibeq (bint a) b
  | .int a, .bool b => ibeq a (bint b)
  | .str a, .str b => lbeq a b
  | .tup a, .tup b => dbeqs a b
  | .lst a, .lst b => dbeqs a b
  | _, _ => false
noncomputable def dbeqs : List D → List D → Bool
  | [], [] => true
  | a :: r, b :: t => band2 (dbeq a b) (dbeqs r t)
  | _, _ => false
end
noncomputable def sOk : List Nat → Bool
  | [] => true
  | c :: r => match Nat.blt c 1114112 with | true => sOk r | false => false
noncomputable def dOk : Nat → D → Bool
  | _, .none => true
  | _, .bool _ => true
  | _, .int _ => true
  | _, .str s => sOk s
  | 0, _ => false
  | n + 1, .tup vs => all' n vs
  | n + 1, .lst vs => all' n vs
  | _, _ => false
where all' : Nat → List D → Bool
  | _, [] => true
  | n, v :: vs => band2 (dOk n v) (all' n vs)
noncomputable def datOf : V → Option D
  | .dat d => some d
  | _ => none
noncomputable def allDat : List V → Option (List D)
  | [] => some []
  | v :: r => (datOf v).bind fun d => (allDat r).map fun ds => d :: ds
noncomputable def mkTup (vs : List V) : V := match allDat vs with | some ds => .dat (.tup ds) | none => .tup vs
noncomputable def dats : List D → List V
  | [] => []
  | d :: r => .dat d :: dats r
noncomputable def datK : List (D × D) → List (D × V)
  | [] => []
  | (k, d) :: r => (k, .dat d) :: datK r
noncomputable def allDatK : List (D × V) → Option (List (D × D))
  | [] => some []
  | p :: r => (datOf p.2).bind fun d => (allDatK r).map fun ds => (p.1, d) :: ds
noncomputable def nth {α : Type} : List α → Nat → Option α
  | [], _ => none
  | a :: _, 0 => some a
  | _ :: r, n + 1 => nth r n
noncomputable def putAt {α : Type} : List α → Nat → α → List α
  | [], _, _ => []
  | _ :: r, 0, x => x :: r
  | a :: r, n + 1, x => a :: putAt r n x
noncomputable def itemsO : AObj → Option (List V)
  | .list vs => some vs
  | .fz (.lst ds) => some (dats ds)
  | _ => none
noncomputable def itemsOf (st : St) : V → Option (List V)
  | .dat (.tup ds) => some (dats ds)
  | .dat (.lst ds) => some (dats ds)
  | .tup vs => some vs
  | .obj i => (nth st.objs i).bind itemsO
  | _ => none
noncomputable def kvsX : AObj → Option (List (D × V))
  | .dict kvs => some kvs
  | _ => none
noncomputable def kvsO : AObj → Option (List (D × V))
  | .fz (.dct kvs) => some (datK kvs)
  | o => kvsX o
noncomputable def kvsOf (st : St) : V → Option (List (D × V))
  | .dat (.dct kvs) => some (datK kvs)
  | .obj i => (nth st.objs i).bind kvsO
  | .ext => st.ext.bind kvsX
  | _ => none
noncomputable def lookK : List (D × V) → D → Option V
  | [], _ => none
  | (k', v) :: r, k => match dbeq k' k with | true => some v | false => lookK r k
noncomputable def putK : List (D × V) → D → V → List (D × V)
  | [], k, v => [(k, v)]
  | (k', v') :: r, k, v => match dbeq k' k with | true => (k', v) :: r | false => (k', v') :: putK r k v
noncomputable def branch (b : Bool) (x y : Prop) : Prop := match b with | true => x | false => y
noncomputable def optK {α : Type} (o : Option α) (k : α → Prop) : Prop := match o with | some a => k a | none => False
noncomputable def ifT (b : Bool) (x : Prop) : Prop := match b with | true => x | false => False
theorem ifT_iff {b : Bool} {x : Prop} (h : ifT b x) : b = true ∧ x := by
  cases b with
  | true => exact ⟨rfl, h⟩
  | false => exact h.elim
theorem branch_intro {b : Bool} {x y : Prop} (h : b = true → x) (k : b = false → y) : branch b x y := by
  cases b with
  | true => exact h rfl
  | false => exact k rfl
noncomputable def onlyIf {α : Type} (b : Bool) (x : α) : Option α := match b with | true => some x | false => none
noncomputable def idxOf (lst : Bool) (k : Int) (n : Nat) : Option Nat := match k with
  | .ofNat i => onlyIf (Nat.blt i n) i
  | .negSucc i => match lst with | true => none | false => onlyIf (Nat.blt i n) (n - (i + 1))
noncomputable def cutOf (k : Int) (n : Nat) : Option Nat := match k with
  | .ofNat i => onlyIf (Nat.ble i n) i
  | .negSucc _ => none
end Mine
namespace Mine
open PySem PySem.W PyProof.Rows PySem.Calls
noncomputable def lstX : AObj → Option (List V)
  | .list vs => some vs
  | _ => none
noncomputable def frz (st : St) (i : Nat) (d : D) : D × St := (d, { st with objs := putAt st.objs i (.fz d) })
mutual
noncomputable def toD : Nat → St → V → Option (D × St)
  | 0, _, _ => none
  | n + 1, st, v => match v with
    | .dat d => some (d, st)
    | .obj i => (nth st.objs i).bind fun o => match o with
      | .fz d => some (d, st)
      | .list vs => (toDs n st vs).bind fun p => ((nth p.2.objs i).bind lstX).map fun _ => frz p.2 i (.lst p.1)
      | .dict kvs => (toDk n st kvs).bind fun p => ((nth p.2.objs i).bind kvsX).map fun _ => frz p.2 i (.dct p.1)
    | .tup vs => (toDs n st vs).map fun p => (.tup p.1, p.2)
    | .ins c kvs => (toDk n st kvs).map fun p => (.ins c (.dct p.1), p.2)
    | .lvi c i => (toD n st (.obj i)).map fun p => (.ins c p.1, p.2)
    | _ => none
noncomputable def toDs : Nat → St → List V → Option (List D × St)
  | 0, _, _ => none
  | n + 1, st, vs => match vs with
    | [] => some ([], st)
    | v :: r => (toD n st v).bind fun p => (toDs n p.2 r).map fun q => (p.1 :: q.1, q.2)
noncomputable def toDk : Nat → St → List (D × V) → Option (List (D × D) × St)
  | 0, _, _ => none
  | n + 1, st, vs => match vs with
    | [] => some ([], st)
    | kv :: r => (toD n st kv.2).bind fun p => (toDk n p.2 r).map fun q => ((kv.1, p.1) :: q.1, q.2)
end
noncomputable def altK {α : Type} (o : Option α) (k : α → Prop) (x : Prop) : Prop := match o with | some a => k a | none => x
noncomputable def negB (b : Bool) : Bool := match b with | true => false | false => true
structure Gp where
  call : Addr → List V → Option AObj → (V → List AObj → Option AObj → Prop) → Prop → Prop
  whl : PT1 → PSs → St → (AFlow → St → Prop) → (Bool → St → Prop) → Prop
noncomputable def objOf : V → Option Nat
  | .obj i => some i
  | _ => none
noncomputable def isDE : V → Bool
  | .dat _ => true
  | .ext => true
  | _ => false
noncomputable def isExt : V → Bool
  | .ext => true
  | _ => false
noncomputable def anyB {α : Type} (f : α → Bool) : List α → Bool
  | [] => false
  | a :: r => match f a with | true => true | false => anyB f r
noncomputable def allB {α : Type} (f : α → Bool) : List α → Bool
  | [] => true
  | a :: r => match f a with | true => allB f r | false => false
noncomputable def hasEK (kvs : List (D × V)) : Bool := anyB (fun p => isExt p.2) kvs
noncomputable def clnK (kvs : List (D × V)) : Bool := allB (fun p => isDE p.2) kvs
noncomputable def insV : V → Option (Addr × List (D × V))
  | .ins c kvs => some (c, kvs)
  | _ => none
noncomputable def hasE (v : V) : Bool := match isExt v with | true => true | false => (insV v).elim false fun p => hasEK p.2
noncomputable def anyE (vs : List V) : Bool := anyB hasE vs
noncomputable def argE (st : St) (v : V) : Option (V × St) := match hasE v with
  | true => onlyIf (match isExt v with | true => true | false => (insV v).elim false fun p => clnK p.2) (v, st)
  | false => (toD 40 st v).map fun p => (.dat p.1, p.2)
noncomputable def extArgs : St → List V → Option (List V × St)
  | st, [] => some ([], st)
  | st, v :: r => (argE st v).bind fun p => (extArgs p.2 r).map fun q => (p.1 :: q.1, q.2)
noncomputable def extOk : Option AObj → Bool
  | none => true
  | some (.dict kvs) => (allDatK kvs).isSome
  | some (.list vs) => (allDat vs).isSome
  | some (.fz _) => false
noncomputable def datR (r : V) (out : List AObj) (k : D → Prop) : Prop := match out with
  | [] => optK (datOf r) k
  | _ => False
noncomputable def callPure (P : Gp) (f : Addr) (vs : List V) (st : St) (Q : V → St → Prop) (E : Bool → St → Prop) : Prop :=
  optK (toDs 40 st vs) fun p => P.call f (dats p.1) none (fun r out _ => datR r out fun x => Q (.dat x) p.2) (E true p.2)
noncomputable def putO (st : St) (pl : Option Nat) (o : AObj) : St := match pl with
  | some i => { st with objs := putAt st.objs i o }
  | none => { st with ext := some o }
noncomputable def atO (st : St) (pl : Option Nat) : Option AObj := match pl with
  | some i => nth st.objs i
  | none => st.ext
noncomputable def callExt (P : Gp) (f : Addr) (ws : List V) (pl : Option Nat) (st : St) (Q : V → St → Prop) : Prop :=
  optK (atO st pl) fun o => ifT (extOk (some o)) (P.call f ws (some o) (fun r out ex => datR r out fun x => optK ex fun o' => ifT (extOk (some o')) (Q (.dat x) (putO st pl o'))) False)
noncomputable def callPass (P : Gp) (f : Addr) (vs : List V) (st : St) (Q : V → St → Prop) : Prop := optK (extArgs st vs) fun p => callExt P f p.1 none p.2 Q
noncomputable def lendArgs : St → List V → Option (Nat × List V × St)
  | _, [] => none
  | st, v :: r => match r with
    | [] => (objOf v).map fun i => (i, [.ext], st)
    | _ :: _ => (toD 40 st v).bind fun p => (lendArgs p.2 r).map fun q => (q.1, .dat p.1 :: q.2.1, q.2.2)
noncomputable def lendK : List (D × V) → Option (Nat × List (D × V))
  | [] => none
  | kv :: r => (objOf kv.2).elim ((datOf kv.2).bind fun _ => (lendK r).map fun q => (q.1, kv :: q.2)) fun i => (allDatK r).map fun _ => (i, (kv.1, .ext) :: r)
noncomputable def lends : Addr → Bool
  | 75 => true
  | 82 => true
  | _ => false
noncomputable def callK (P : Gp) (f : Addr) (vs : List V) (st : St) (Q : V → St → Prop) (E : Bool → St → Prop) : Prop :=
  branch (anyE vs) (callPass P f vs st Q) (branch (lends f) (optK (lendArgs st vs) fun p => callExt P f p.2.1 (some p.1) p.2.2 Q) (callPure P f vs st Q E))
noncomputable def insOf : D → Option (Addr × D)
  | .ins c d => some (c, d)
  | _ => none
noncomputable def methK (P : Gp) (c f : Addr) (v : V) (vs : List V) (st : St) (Q : V → St → Prop) (E : Bool → St → Prop) : Prop :=
  altK (insV v) (fun k => ifT (Nat.beq k.1 c) (branch (hasEK k.2) (callPass P f (v :: vs) st Q) (optK (lendK k.2) fun q => optK (toDs 40 st vs) fun p => callExt P f (.ins c q.2 :: dats p.1) (some q.1) p.2 Q)))
    (optK (datOf v) fun d => optK (insOf d) fun k => ifT (Nat.beq k.1 c) (callPure P f (v :: vs) st Q E))
noncomputable def mkIns (c : Addr) (kvs : List (D × V)) : V := match allDatK kvs with | some ds => .dat (.ins c (.dct ds)) | none => .ins c kvs
noncomputable def isStrD : D → Bool
  | .str _ => true
  | _ => false
noncomputable def allStrK : List (D × V) → Bool
  | [] => true
  | (k, _) :: r => match isStrD k with | true => allStrK r | false => false
noncomputable def isNon : V → Bool
  | .dat .none => true
  | _ => false
noncomputable def isDO : V → Bool
  | .dat _ => true
  | .obj _ => true
  | _ => false
noncomputable def shV (n : Nat) : V → V
  | .obj i => .obj (n + i)
  | v => v
noncomputable def shK (n : Nat) : List (D × V) → List (D × V)
  | [] => []
  | p :: r => (p.1, shV n p.2) :: shK n r
noncomputable def newK (P : Gp) (c f : Addr) (live : Bool) (vs : List V) (st : St) (Q : V → St → Prop) : Prop :=
  optK (toDs 40 st vs) fun p => P.call f (.exi c :: dats p.1) (some (.dict [])) (fun r out ex => ifT (isNon r) (optK ex fun o => optK (kvsX o) fun kvs => ifT (allB (fun q => isDO q.2) kvs) (ifT (allB (fun o => extOk (some o)) out)
    (branch live (Q (.lvi c p.2.objs.length) { p.2 with objs := p.2.objs ++ (.dict (shK (p.2.objs.length + 1) kvs) :: out) }) (Q (mkIns c (shK (p.2.objs.length + 1) kvs)) { p.2 with objs := p.2.objs ++ (.fz (.raw .none) :: out) }))))) False
noncomputable def memN (n : List Nat) : List (List Nat) → Bool
  | [] => false
  | m :: r => match lbeq n m with | true => true | false => memN n r
noncomputable def clsNames : Addr → List (List Nat)
  | 180 => [[119, 111, 114, 108, 100], [98, 111, 117, 110, 100, 115], [107, 110, 111, 119, 110]]
  | 237 => [[112, 97, 116, 104], [114, 101, 103, 105, 111, 110, 115], [112, 97, 114, 97, 109, 115], [111, 119, 110], [105, 110, 112, 117, 116, 115], [111, 117, 116, 112, 117, 116], [115, 101, 108, 102, 95, 107, 105, 110, 100], [104, 97, 115, 95, 98, 111, 100, 121]]
  | 258 => [[112, 97, 116, 104], [112, 97, 114, 97, 109, 115], [109, 101, 116, 104, 111, 100, 115], [100, 101, 102, 97, 117, 108, 116, 115]]
  | 280 => [[110, 117, 109, 98, 101, 114], [114, 101, 103, 105, 111, 110, 115], [112, 97, 114, 97, 109, 115], [116, 114, 97, 105, 116], [116, 114, 97, 105, 116, 95, 97, 114, 103, 115], [115, 101, 108, 102, 95, 116, 121, 112, 101], [109, 101, 116, 104, 111, 100, 115], [115, 112, 111, 116]]
  | 309 => [[109, 111, 100, 117, 108, 101, 115], [97, 100, 116, 115], [118, 97, 114, 105, 97, 110, 116, 115], [115, 105, 103, 115], [116, 114, 97, 105, 116, 115], [105, 109, 112, 108, 115], [99, 111, 110, 115, 116, 115], [98, 111, 100, 105, 101, 115]]
  | _ => []
noncomputable def clsOk (c : Addr) (n : List Nat) : Bool := memN n (clsNames c)
noncomputable def newObjK (o : AObj) (st : St) (Q : V → St → Prop) : Prop := Q (.obj st.objs.length) { st with objs := st.objs ++ [o] }
noncomputable def tupItems : V → Option (List V)
  | .dat (.tup ds) => some (dats ds)
  | .tup vs => some vs
  | _ => none
noncomputable def isO : AObj → Bool
  | .list _ => true
  | .fz (.lst _) => true
  | _ => false
noncomputable def isLst (st : St) : V → Bool
  | .dat (.lst _) => true
  | .obj i => (nth st.objs i).elim false isO
  | _ => false
noncomputable def len' {α : Type} : List α → Nat
  | [] => 0
  | _ :: r => (len' r).succ
noncomputable def small (n : Nat) (x : Prop) : Prop := match Nat.ble n 100000 with | true => x | false => False
noncomputable def fldsOf (st : St) : V → Option (Addr × List (D × V))
  | .dat d => (insOf d).bind fun p => (kvsOf st (.dat p.2)).map fun k => (p.1, k)
  | .ins c kvs => some (c, kvs)
  | .lvi c i => (kvsOf st (.obj i)).map fun k => (c, k)
  | .exi c => (kvsOf st .ext).map fun k => (c, k)
  | _ => none
noncomputable def intOf : V → Option Int
  | .dat (.int i) => some i
  | _ => none
noncomputable def insOk (c : Addr) (n : List Nat) (v : V) (st : St) : Bool := (fldsOf st v).elim false fun p => band2 (Nat.beq p.1 c) (band2 (allStrK p.2) (negB (lookK p.2 (.str n)).isSome))
noncomputable def strOf : V → Option (List Nat)
  | .dat (.str s) => some s
  | _ => none
noncomputable def binInt (op : Operator) (x y : Int) (Q : Int → Prop) : Prop :=
  match op with
  | .Add => Q (x + y)
  | .Sub => Q (x - y)
  | .Mult => (x.natAbs < 2 ^ 64 ∨ y.natAbs < 2 ^ 64) ∧ Q (x * y)
  | .Mod => y ≠ 0 ∧ Q (x.fmod y)
  | .FloorDiv => (0 < y ∧ y < 1073741824) ∧ Q (x.fdiv y)
  | .Pow => (x = 10 ∧ y = 18) ∧ Q 1000000000000000000
  | _ => False
noncomputable def isAdd : Operator → Bool
  | .Add => true
  | _ => false
noncomputable def binK (op : Operator) (a b : V) (st : St) (Q : V → St → Prop) : Prop :=
  altK (intOf a) (fun x => optK (intOf b) fun y => binInt op x y fun z => Q (.dat (.int z)) st) <|
  ifT (isAdd op) <| altK (strOf a) (fun x => optK (strOf b) fun y => small (len' x + len' y) (Q (.dat (.str (x ++ y))) st)) <|
  optK (itemsOf st a) fun xs => optK (itemsOf st b) fun ys => small (len' xs + len' ys) <|
  branch (isLst st a) (ifT (isLst st b) (newObjK (.list (xs ++ ys)) st Q)) (branch (isLst st b) False (Q (mkTup (xs ++ ys)) st))
noncomputable def eqD (x y : D) (Q : Bool → Prop) : Prop :=
  match x, y with
  | .str a, .str b => Q (lbeq a b)
  | .int a, .int b => Q (ibeq a b)
  | x, y => ifT (dOk 20 x) (ifT (dOk 20 y) (Q (dbeq x y)))
noncomputable def eqK (a b : V) (st : St) (Q : Bool → Prop) : Prop :=
  match a with
  | .dat x => (match b with
    | .dat y => eqD x y Q
    | .obj _ => (match isLst st b with
      | true => (match isLst st a with
        | true => optK (itemsOf st a) fun xs => optK (itemsOf st b) fun ys => lstEq xs ys
        | false => False)
      | false => False)
    | _ => False)
  | .obj _ => (match isLst st a with
      | true => (match isLst st b with
        | true => optK (itemsOf st a) fun xs => optK (itemsOf st b) fun ys => lstEq xs ys
        | false => False)
      | false => False)
  | _ => False
where lstEq (xs ys : List V) : Prop := match xs with
  | [] => Q (match ys with | [] => true | _ => false)
  | _ :: _ => (match ys with
    | [] => Q false
    | _ :: _ => optK (allDat xs) fun ds => optK (allDat ys) fun es => ifT (dOk 20 (.lst ds)) (ifT (dOk 20 (.lst es)) (Q (dbeqs ds es))))
noncomputable def inL (x : D) : List D → Bool
  | [] => false
  | y :: r => match dbeq y x with | true => true | false => inL x r
noncomputable def isTupD : D → Bool
  | .tup _ => true
  | _ => false
noncomputable def leafD : D → Bool
  | .str s => sOk s
  | .int i => iltb 0 i
  | .bool b => negB b
  | _ => false
noncomputable def keyOk : Nat → D → Bool
  | 0, d => leafD d
  | n + 1, .tup vs => go n vs
  | _, d => leafD d
where go : Nat → List D → Bool
  | _, [] => true
  | n, v :: r => match keyOk n v with | true => go n r | false => false
noncomputable def allTupK : List (D × V) → Bool
  | [] => true
  | (.tup vs, _) :: r => match keyOk 8 (.tup vs) with | true => (match lookK r (.tup vs) with | none => allTupK r | some _ => false) | false => false
  | _ => false
noncomputable def keyFits (kvs : List (D × V)) (k : D) : Bool := match isStrD k with | true => allStrK kvs | false => band2 (isTupD k) (band2 (keyOk 8 k) (allTupK kvs))
noncomputable def dictK (kvs : List (D × V)) (k : D) (Q : Option V → Prop) : Prop := ifT (keyFits kvs k) (Q (lookK kvs k))
noncomputable def isSrc : V → Bool
  | .dat .src => true
  | _ => false
noncomputable def isRaw : V → Bool
  | .dat (.raw _) => true
  | _ => false
noncomputable def inK (a b : V) (st : St) (Q : Bool → Prop) : Prop :=
  optK (datOf a) fun x => altK (kvsOf st b) (fun kvs => dictK kvs x fun r => Q r.isSome)
    (optK (itemsOf st b) fun ys => optK (allDat ys) fun es => ifT (isStrD x) (ifT (dOk 19 x) (ifT (dOk 20 (.lst es)) (Q (inL x es)))))
noncomputable def twoInts (a b : V) (Z : Int → Int → Prop) : Prop := optK (intOf a) fun x => optK (intOf b) fun y => Z x y
noncomputable def isK (a b : V) (Q : Bool → Prop) : Prop := ifT (isNon b) (branch (isNon a) (Q true) (branch (isRaw a) False (Q false)))
noncomputable def cmpK (op : CmpOp) (a b : V) (st : St) (Q : Bool → Prop) : Prop :=
  match op with
  | .Eq => eqK a b st Q
  | .NotEq => eqK a b st fun r => Q (negB r)
  | .In => inK a b st Q
  | .NotIn => inK a b st fun r => Q (negB r)
  | .Is => isK a b Q
  | .IsNot => isK a b fun r => Q (negB r)
  | .Lt => twoInts a b fun x y => Q (iltb x y)
  | .Gt => twoInts a b fun x y => Q (iltb y x)
  | .GtE => twoInts a b fun x y => Q (negB (iltb x y))
  | .LtE => twoInts a b fun x y => Q (negB (iltb y x))
noncomputable def boolOf : V → Option Bool
  | .dat .none => some false
  | .dat (.bool b) => some b
  | _ => none
noncomputable def isCons {α : Type} : List α → Bool
  | [] => false
  | _ => true
noncomputable def truthK (v : V) (st : St) (Q : Bool → Prop) : Prop :=
  altK (boolOf v) Q (ifT (isLst st v) (optK (itemsOf st v) fun xs => small (len' xs) (Q (isCons xs))))
noncomputable def subK (o i : V) (st : St) (Q : V → St → Prop) : Prop :=
  branch (isSrc o) (optK (intOf i) fun k => branch (ibeq k 0) (∀ x : Int, 0 ≤ x → Q (.dat (.int x)) st) (ifT (ibeq k 1) (∀ x : Int, 0 ≤ x → x < 2147483647 → Q (.dat (.int x)) st))) <|
  altK (kvsOf st o) (fun kvs => optK (datOf i) fun k => dictK kvs k fun r => optK r fun v => Q v st)
    (optK (itemsOf st o) fun vs => optK (intOf i) fun k => small (len' vs) (optK (idxOf (isLst st o) k (len' vs)) fun j => optK (nth vs j) fun v => Q v st))
noncomputable def slToK (o hi : V) (st : St) (Q : V → St → Prop) : Prop :=
  optK (intOf hi) fun k => optK (itemsOf st o) fun vs => optK (cutOf k (len' vs)) fun n => small (len' vs) <|
    branch (isLst st o) (newObjK (.list (vs.take n)) st Q) (Q (mkTup (vs.take n)) st)
noncomputable def slFromK (o lo : V) (st : St) (Q : V → St → Prop) : Prop :=
  optK (intOf lo) fun k => optK (itemsOf st o) fun vs => optK (cutOf k (len' vs)) fun n => small (len' vs) <| branch (isLst st o) False (Q (mkTup (vs.drop n)) st)
noncomputable def imax (a b : Int) : Int := match iltb a b with | true => b | false => a
noncomputable def digit : Int → Option (List Nat)
  | .ofNat n => match Nat.blt n 10 with | true => some [48 + n] | false => none
  | .negSucc _ => none
noncomputable def strO : D → Option (List Nat)
  | .str s => some s
  | _ => none
noncomputable def joinD (sep : Nat) : List D → Option Nat
  | [] => some 0
  | d :: r => (strO d).bind fun x => (joinD sep r).map fun n => len' x + sep + n
noncomputable def one {α : Type} : List α → Option α
  | [v] => some v
  | _ => none
noncomputable def two {α : Type} : List α → Option (α × α)
  | [v, w] => some (v, w)
  | _ => none
noncomputable def biK (f : BI) (vs : List V) (st : St) (Q : V → St → Prop) : Prop :=
  match f with
  | .len => optK (one vs) fun v => optK (itemsOf st v) fun xs => small (len' xs) (Q (.dat (.int (.ofNat (len' xs)))) st)
  | .max => optK (two vs) fun p => twoInts p.1 p.2 fun a b => Q (.dat (.int (imax a b))) st
  | .isstr => optK (one vs) fun v => optK (strOf v) fun _ => Q (.dat (.bool true)) st
noncomputable def isBool : V → Option Bool
  | .dat (.bool b) => some b
  | _ => none
noncomputable def tyK (f : TY) (vs : List V) (st : St) (Q : V → St → Prop) : Prop :=
  optK (one vs) fun v => match f with
  | .int => altK (intOf v) (fun _ => Q v st) (optK (isBool v) fun b => Q (.dat (.int (bint b))) st)
  | .tuple => altK (tupItems v) (fun xs => Q (mkTup xs) st) (ifT (isLst st v) (optK (itemsOf st v) fun xs => small (len' xs) (Q (mkTup xs) st)))
  | .str => optK (intOf v) fun a => optK (digit a) fun t => Q (.dat (.str t)) st
noncomputable def lastOf : List V → Option (List V × V)
  | [] => none
  | v :: r => some ((lastOf r).elim ([], v) fun p => (v :: p.1, p.2))
noncomputable def dicAt (st : St) : V → Option (Option Nat × List (D × V))
  | .obj n => ((nth st.objs n).bind kvsX).map fun k => (some n, k)
  | .ext => (st.ext.bind kvsX).map fun k => (none, k)
  | _ => none
noncomputable def putDic (st : St) (pl : Option Nat) (kvs : List (D × V)) : St :=
  match pl with
  | some n => { st with objs := putAt st.objs n (.dict kvs) }
  | none => { st with ext := some (.dict kvs) }
noncomputable def lstAt (st : St) : V → Option (Nat × List V)
  | .obj n => ((nth st.objs n).bind lstX).map fun k => (n, k)
  | _ => none
noncomputable def putLst (st : St) (n : Nat) (vs : List V) : St := { st with objs := putAt st.objs n (.list vs) }
noncomputable def methB (o : V) (n : MN) (vs : List V) (st : St) (Q : V → St → Prop) : Prop :=
  match n with
  | .append => optK (lstAt st o) fun p => optK (one vs) fun v => small (len' p.2) (Q (.dat .none) (putLst st p.1 (p.2 ++ [v])))
  | .extend => optK (lstAt st o) fun p => optK (one vs) fun v => ifT (isLst st v) (optK (itemsOf st v) fun ys => small (len' p.2 + len' ys) (Q (.dat .none) (putLst st p.1 (p.2 ++ ys))))
  | .pop => optK (lstAt st o) fun p => branch (isCons vs) False (optK (lastOf p.2) fun q => small (len' p.2) (Q q.2 (putLst st p.1 q.1)))
  | .get => optK (two vs) fun p => optK (strOf p.1) fun k => optK (kvsOf st o) fun kvs => ifT (allStrK kvs) (altK (lookK kvs (.str k)) (fun v => Q v st) (Q p.2 st))
  | .join => optK (strOf o) fun sep => optK (one vs) fun v => ifT (isLst st v) (optK (itemsOf st v) fun xs => optK (allDat xs) fun ds => optK (joinD (len' sep) ds) fun n => small n (∀ t, len' t ≤ n → Q (.dat (.str t)) st))
noncomputable def tyOk (n : MN) (v : V) (st : St) : Bool :=
  match n with
  | .get => (kvsOf st v).isSome
  | .join => (strOf v).isSome
  | _ => (lstAt st v).isSome
noncomputable def attK (o : V) (n : List Nat) (st : St) (Q : V → St → Prop) : Prop :=
  optK (fldsOf st o) fun p => ifT (clsOk p.1 n) (ifT (allStrK p.2) (optK (lookK p.2 (.str n)) fun v => branch (isRaw v) False (Q v st)))
noncomputable def loopC (step : V → St → (St → Prop) → Prop) : List D → St → (St → Prop) → Prop
  | [], st, k => k st
  | x :: xs, st, k => step (.dat x) st fun st' => loopC step xs st' k
noncomputable def turnK (fl : AFlow) (st : St) (n : St → Prop) (k : AFlow → St → Prop) : Prop := match fl with
  | .next => n st
  | .cont => n st
  | .brk => k .next st
  | .ret v => k (.ret v) st
noncomputable def loopF (step : V → St → (AFlow → St → Prop) → Prop) : List D → St → (AFlow → St → Prop) → Prop
  | [], st, k => k .next st
  | x :: xs, st, k => step (.dat x) st fun fl st' => turnK fl st' (fun st' => loopF step xs st' k) k
noncomputable def zipV : List V → List V → List V := List.zipWith fun a b => mkTup [a, b]
noncomputable def zipD : List D → List D → List D := List.zipWith fun a b => .tup [a, b]
noncomputable def rangeD : Nat → Nat → List D
  | _, 0 => []
  | a, n + 1 => .int (.ofNat a) :: rangeD (a + 1) n
noncomputable def seqD : D → Option (List D)
  | .tup ds => some ds
  | .lst ds => some ds
  | _ => none
noncomputable def natOf : V → Option Nat
  | .dat (.int (.ofNat n)) => some n
  | _ => none
noncomputable def setLs : List (Option V) → List Nat → List V → Option (List (Option V))
  | l, [], [] => some l
  | l, i :: is, v :: vs => setLs (putAt l i (some v)) is vs
  | _, _, _ => none
noncomputable def bindO (tg : PT) (v : V) (l : List (Option V)) : Option (List (Option V)) :=
  match tg with
  | .one i => some (putAt l i (some v))
  | .many is => (tupItems v).bind fun vs => setLs l is vs
noncomputable def bindT (tg : PT) (v : V) (l : List (Option V)) (k : List (Option V) → Prop) : Prop := optK (bindO tg v l) k
noncomputable def capL : List (Nat × Nat) → List (Option V) → List (Option V) → List (Option V)
  | [], _, l => l
  | p :: r, o, l => capL r o ((nth o p.2).join.elim l fun v => putAt l p.1 (some v))
noncomputable def nones : Nat → List (Option V)
  | 0 => []
  | n + 1 => none :: nones n
noncomputable def dispK : List D → List V → List (D × V) → Option (List (D × V))
  | k :: r, v :: t, acc => match isStrD k with
    | true => dispK r t (putK acc k v)
    | false => none
  | _, _, acc => some acc
noncomputable def emptyD : AObj → Bool
  | .dict [] => true
  | _ => false
noncomputable def strsL : List V → Option (List (List Nat))
  | [] => some []
  | v :: r => (strOf v).bind fun s => (strsL r).map fun t => s :: t
noncomputable def keysK : List (D × V) → Option (List (List Nat))
  | [] => some []
  | p :: r => (strO p.1).bind fun s => (keysK r).map fun t => s :: t
noncomputable def nodupN : List (List Nat) → Bool
  | [] => true
  | x :: r => match memN x r with | true => false | false => nodupN r
noncomputable def insS (x : List Nat) : List (List Nat) → List (List Nat)
  | [] => [x]
  | y :: r => match PySem.Spec.ltCps y x with | false => x :: y :: r | true => y :: insS x r
noncomputable def srtS : List (List Nat) → List (List Nat)
  | [] => []
  | x :: r => insS x (srtS r)
noncomputable def srtQ (ks : List (List Nat)) (st : St) (Q : V → St → Prop) : Prop := ifT (Nat.blt (len' ks) 64) (newObjK (.list ((srtS ks).map fun s => .dat (.str s))) st Q)
noncomputable def srtK (v : V) (st : St) (Q : V → St → Prop) : Prop :=
  altK (kvsOf st v) (fun kvs => optK (keysK kvs) fun ks => ifT (nodupN ks) (srtQ ks st Q)) (ifT (isLst st v) (optK (itemsOf st v) fun xs => optK (strsL xs) fun ks => srtQ ks st Q))
mutual
noncomputable def gE (P : Gp) : PE → St → (V → St → Prop) → (Bool → St → Prop) → Prop
  | .cst d, st, Q, _ => Q (.dat d) st
  | .loc i, st, Q, _ => optK (nth st.loc i) fun o => optK o fun v => Q v st
  | .tup es, st, Q, E => gEs P es st (fun vs st' => small (len' vs) (Q (mkTup vs) st')) E
  | .lst es, st, Q, E => gEs P es st (fun vs st' => small (len' vs) (newObjK (.list vs) st' Q)) E
  | .dct ks vs, st, Q, E => gEs P vs { st with objs := st.objs ++ [.dict []] } (fun vv st2 => optK (nth st2.objs st.objs.length) fun ob => ifT (emptyD ob) (optK (dispK ks vv []) fun kvs => Q (.obj st.objs.length) { st2 with objs := putAt st2.objs st.objs.length (.dict kvs) })) E
  | .sub e i, st, Q, E => gE P e st (fun o st1 => gE P i st1 (fun j st2 => subK o j st2 Q) E) E
  | .slTo e hi, st, Q, E => gE P e st (fun o st1 => gE P hi st1 (fun j st2 => slToK o j st2 Q) E) E
  | .slFrom e lo, st, Q, E => gE P e st (fun o st1 => gE P lo st1 (fun j st2 => slFromK o j st2 Q) E) E
  | .att e n, st, Q, E => gE P e st (fun o st1 => attK o n st1 Q) E
  | .bin op l r, st, Q, E => gE P l st (fun a st1 => gE P r st1 (fun b st2 => binK op a b st2 Q) E) E
  | .cmp op l r, st, Q, E => gE P l st (fun a st1 => gE P r st1 (fun b st2 => cmpK op a b st2 fun t => Q (.dat (.bool t)) st2) E) E
  | .bop isAnd es, st, Q, E => gB P isAnd es st Q E
  | .neg e, st, Q, E => gE P e st (fun v st1 => optK (intOf v) fun x => Q (.dat (.int (-x))) st1) E
  | .ite t a b, st, Q, E => gT P t st (fun c st1 => branch c (gE P a st1 Q E) (gE P b st1 Q E)) E
  | .call f args, st, Q, E => gEs P args st (fun vs st1 => callK P f vs st1 Q E) E
  | .new c f live args, st, Q, E => gEs P args st (fun vs st1 => newK P c f live vs st1 Q) E
  | .bi f args, st, Q, E => gEs P args st (fun vs st1 => biK f vs st1 Q) E
  | .ty f args, st, Q, E => gEs P args st (fun vs st1 => tyK f vs st1 Q) E
  | .meth o n args, st, Q, E => gE P o st (fun v st1 => ifT (tyOk n v st1) (gEs P args st1 (fun vs st2 => methB v n vs st2 Q) E)) E
  | .methf o n c f args, st, Q, E => gE P o st (fun v st1 => ifT (insOk c n v st1) (gEs P args st1 (fun vs st2 => methK P c f v vs st2 Q E) E)) E
  | .comp elt tg it ifs cap nl, st, Q, E => gI P it st (fun items st1 =>
      loopC (fun x st' k => bindT tg x (capL cap st1.loc (nones nl)) fun lc => gIfs P ifs { st' with loc := lc } (fun b st2 =>
        branch b (gE P elt st2 (fun v st3 => optK (lstAt st3 (.obj st1.objs.length)) fun q => small (len' q.2) (k { putLst st3 q.1 (q.2 ++ [v]) with loc := st1.loc })) (fun _ _ => False)) (k { st2 with loc := st1.loc })) (fun _ _ => False))
        items { st1 with objs := st1.objs ++ [.list []] } fun st4 => Q (.obj st1.objs.length) st4) E
  | .lzip a b, st, Q, E => gE P a st (fun x st1 => gE P b st1 (fun y st2 => optK (itemsOf st2 x) fun xs => optK (itemsOf st2 y) fun ys => small (len' xs + len' ys) (newObjK (.list (zipV xs ys)) st2 Q)) E) E
  | .dzip a b, st, Q, E => gE P a st (fun x st1 => gE P b st1 (fun y st2 => optK (itemsOf st2 x) fun xs => optK (itemsOf st2 y) fun ys => optK (allDat xs) fun ds => optK (dispK ds ys []) fun kvs => small (len' xs + len' ys) (newObjK (.dict kvs) st2 Q)) E) E
  | .srt e, st, Q, E => gE P e st (fun v st1 => srtK v st1 Q) E
noncomputable def gEs (P : Gp) : PEs → St → (List V → St → Prop) → (Bool → St → Prop) → Prop
  | .nil, st, Q, _ => Q [] st
  | .cons e r, st, Q, E => gE P e st (fun v st1 => gEs P r st1 (fun vs st2 => Q (v :: vs) st2) E) E
noncomputable def gB (P : Gp) (isAnd : Bool) : PEs → St → (V → St → Prop) → (Bool → St → Prop) → Prop
  | .nil, _, _, _ => False
  | .cons e r, st, Q, E => match r with
    | .nil => gE P e st Q E
    | .cons _ _ => gE P e st (fun v st1 => truthK v st1 fun b => match isAnd with
      | true => branch b (gB P isAnd r st1 Q E) (Q v st1)
      | false => branch b (Q v st1) (gB P isAnd r st1 Q E)) E
noncomputable def gT (P : Gp) : PT1 → St → (Bool → St → Prop) → (Bool → St → Prop) → Prop
  | .nt e, st, Q, E => gT P e st (fun b st1 => Q (negB b) st1) E
  | .bop isAnd es, st, Q, E => gTs P isAnd es st Q E
  | .cmp op l r, st, Q, E => gE P l st (fun a st1 => gE P r st1 (fun b st2 => cmpK op a b st2 fun t => Q t st2) E) E
  | .val e, st, Q, E => gE P e st (fun v st1 => truthK v st1 fun b => Q b st1) E
noncomputable def gTs (P : Gp) (isAnd : Bool) : PTs → St → (Bool → St → Prop) → (Bool → St → Prop) → Prop
  | .nil, st, Q, _ => Q isAnd st
  | .cons e r, st, Q, E => gT P e st (fun b st1 => match isAnd with
      | true => branch b (gTs P isAnd r st1 Q E) (Q false st1)
      | false => branch b (Q true st1) (gTs P isAnd r st1 Q E)) E
noncomputable def gIfs (P : Gp) : PTs → St → (Bool → St → Prop) → (Bool → St → Prop) → Prop
  | .nil, st, Q, _ => Q true st
  | .cons e r, st, Q, E => gT P e st (fun b st1 => branch b (gIfs P r st1 Q E) (Q false st1)) E
noncomputable def gI (P : Gp) : PI → St → (List D → St → Prop) → (Bool → St → Prop) → Prop
  | .seq e, st, Q, E => gE P e st (fun v st1 => optK (toD 40 st1 v) fun p => optK (seqD p.1) fun ds => Q ds p.2) E
  | .zip a b, st, Q, E => gE P a st (fun x st1 => gE P b st1 (fun y st2 => optK (toD 40 st2 x) fun p => optK (toD 40 p.2 y) fun q => optK (seqD p.1) fun xs => optK (seqD q.1) fun ys => Q (zipD xs ys) q.2) E) E
  | .range e, st, Q, E => gE P e st (fun v st1 => optK (natOf v) fun n => small n (Q (rangeD 0 n) st1)) E
end
noncomputable def setItK (o i v : V) (st : St) (Q : St → Prop) : Prop :=
  branch (isSrc o) (optK (intOf i) fun k => optK (intOf v) fun x => branch (ibeq k 0) (0 ≤ x ∧ Q st) (ifT (ibeq k 1) ((0 ≤ x ∧ x < 2147483647) ∧ Q st))) <|
  optK (datOf i) fun k => optK (dicAt st o) fun p => ifT (keyFits p.2 k) (small (len' p.2) (Q (putDic st p.1 (putK p.2 k v))))
noncomputable def holder : V → Option (Addr × V)
  | .exi c => some (c, .ext)
  | .lvi c i => some (c, .obj i)
  | _ => none
noncomputable def setAtK (o : V) (n : List Nat) (v : V) (st : St) (Q : St → Prop) : Prop :=
  optK (holder o) fun q => ifT (clsOk q.1 n) (optK (dicAt st q.2) fun p => ifT (allStrK p.2) (ifT (Nat.ble (len' p.2) 900) (Q (putDic st p.1 (putK p.2 (.str n) v)))))
noncomputable def gA (P : Gp) : PA → V → St → (St → Prop) → (Bool → St → Prop) → Prop
  | .loc i, v, st, Q, _ => Q { st with loc := putAt st.loc i (some v) }
  | .locs rev is, v, st, Q, _ => optK (tupItems v) fun vs => optK (match rev with | true => setLs st.loc is.reverse vs.reverse | false => setLs st.loc is vs) fun l => Q { st with loc := l }
  | .sub o i, v, st, Q, E => gE P o st (fun ov st1 => gE P i st1 (fun iv st2 => setItK ov iv v st2 Q) E) E
  | .subs2 o1 i1 o2 i2, v, st, Q, E => optK (tupItems v) fun vs => optK (two vs) fun p => gE P o1 st (fun ov st1 => gE P i1 st1 (fun iv st2 => setItK ov iv p.1 st2 fun st3 => gE P o2 st3 (fun ov st4 => gE P i2 st4 (fun iv st5 => setItK ov iv p.2 st5 Q) E) E) E) E
  | .att o n, v, st, Q, E => gE P o st (fun ov st1 => setAtK ov n v st1 Q) E
noncomputable def gH : PE → St → (V → Prop) → Prop
  | .cst d, _, Q => Q (.dat d)
  | .cmp .NotEq (.bi .len (.cons (.loc i) .nil)) (.bi .len (.cons (.loc j) .nil)), st, Q =>
    optK (nth st.loc i) fun x => optK x fun x => optK (nth st.loc j) fun y => optK y fun y =>
      optK (itemsOf st x) fun xs => optK (itemsOf st y) fun ys => small (len' xs) (small (len' ys) (Q (.dat (.bool (negB (ibeq (.ofNat (len' xs)) (.ofNat (len' ys))))))))
  | _, _, _ => False
noncomputable def flowK (fl : AFlow) (st : St) (n : St → Prop) (Q : AFlow → St → Prop) : Prop := match fl with
  | .next => n st
  | .brk => Q .brk st
  | .cont => Q .cont st
  | .ret v => Q (.ret v) st
mutual
noncomputable def gS (P : Gp) : PS → St → (AFlow → St → Prop) → (Bool → St → Prop) → Prop
  | .asg t e, st, Q, E => gE P e st (fun v st1 => gA P t v st1 (fun st2 => Q .next st2) E) E
  | .expr e, st, Q, E => gE P e st (fun _ st1 => Q .next st1) E
  | .ife t a b, st, Q, E => gT P t st (fun c st1 => branch c (gSs P a st1 Q E) (gSs P b st1 Q E)) E
  | .whl t b, st, Q, E => P.whl t b st Q E
  | .forS tg it b, st, Q, E => gI P it st (fun items st1 => loopF (fun x st' k => bindT tg x st'.loc fun lc => gSs P b { st' with loc := lc } k (fun _ _ => False)) items st1 Q) E
  | .ret e, st, Q, E => gE P e st (fun v st1 => Q (.ret v) st1) E
  | .brk, st, Q, _ => Q .brk st
  | .cont, st, Q, _ => Q .cont st
  | .raise e, st, _, E => gE P e st (fun v st1 => match v with | .dat (.str _) => E false st1 | _ => False) E
  | .tryS b h, st, Q, _ => gSs P b st Q fun fl st1 => ifT fl (gH h st1 fun v => Q (.ret v) st1)
noncomputable def gSs (P : Gp) : PSs → St → (AFlow → St → Prop) → (Bool → St → Prop) → Prop
  | .nil, st, Q, _ => Q .next st
  | .cons s r, st, Q, E => gS P s st (fun fl st1 => flowK fl st1 (fun st1 => gSs P r st1 Q E) Q) E
end
noncomputable def retOf : AFlow → V
  | .ret v => v
  | _ => .dat .none
noncomputable def finK (keep : Bool) (Q : V → List AObj → Option AObj → Prop) (fl : AFlow) (st : St) : Prop :=
  branch keep (Q (retOf fl) st.objs st.ext) (optK (toD 40 st (retOf fl)) fun p => ifT (extOk p.2.ext) (Q (.dat p.1) [] p.2.ext))
end Mine
namespace Mine
open PySem PySem.W PyProof.Rows PySem.Calls PySem.Spec
theorem nth_eq {α : Type} (l : List α) : ∀ i, nth l i = l[i]? :=
  List.rec (motive := fun l => ∀ i, nth l i = l[i]?) (fun i => by cases i <;> rfl) (fun _ _ ih i => Nat.casesOn i rfl ih) l
theorem putAt_eq {α : Type} (l : List α) (x : α) : ∀ i, putAt l i x = l.set i x :=
  List.rec (motive := fun l => ∀ i, putAt l i x = l.set i x) (fun i => by cases i <;> rfl) (fun a _ ih i => Nat.casesOn i rfl fun i => congrArg (a :: ·) (ih i)) l
theorem len'_eq {α : Type} (l : List α) : len' l = l.length := List.rec (motive := fun l => len' l = l.length) rfl (fun _ _ ih => congrArg _ ih) l
theorem dats_eq (l : List D) : dats l = l.map V.dat := List.rec (motive := fun l => dats l = l.map V.dat) rfl (fun d _ ih => congrArg (V.dat d :: ·) ih) l
theorem datK_eq (l : List (D × D)) : datK l = l.map fun p => (p.1, V.dat p.2) := List.rec (motive := fun l => datK l = l.map fun p => (p.1, V.dat p.2)) rfl (fun p _ ih => congrArg ((p.1, V.dat p.2) :: ·) ih) l
theorem bind_inv {α β : Type} {o : Option α} {f : α → Option β} {b : β} (h : o.bind f = some b) : ∃ a, o = some a ∧ f a = some b := Option.bind_eq_some_iff.mp h
theorem map_inv {α β : Type} {o : Option α} {f : α → β} {b : β} (h : o.map f = some b) : ∃ a, o = some a ∧ f a = b := Option.map_eq_some_iff.mp h
theorem dat_of {a : V} {x : D} (e : datOf a = some x) : a = .dat x := by
  cases a with
  | dat _ => exact congrArg _ (Option.some.inj e)
  | _ => exact no e
theorem allDat_eq {vs : List V} : ∀ {ds : List D}, allDat vs = some ds → vs = ds.map V.dat := by
  induction vs with
  | nil => intro ds h; cases h; rfl
  | cons v r ih =>
    intro ds h
    obtain ⟨d, e, h⟩ := bind_inv h
    obtain ⟨t, e2, rfl⟩ := map_inv h
    rw [dat_of e, ih e2]; rfl
theorem small_iff {n : Nat} {x : Prop} (h : small n x) : n ≤ 100000 ∧ x := by
  unfold small at h
  cases q : Nat.ble n 100000 with
  | true => rw [q] at h; exact ⟨Nat.le_of_ble_eq_true q, h⟩
  | false => rw [q] at h; exact h.elim
theorem optK_iff {α : Type} {o : Option α} {k : α → Prop} (h : optK o k) : ∃ a, o = some a ∧ k a := by
  cases o with
  | none => exact h.elim
  | some a => exact ⟨_, rfl, h⟩
theorem lbeq_iff {a : List Nat} : ∀ {b : List Nat}, lbeq a b = true ↔ a = b := by
  induction a with
  | nil => intro b; cases b <;> constructor <;> first | exact fun _ => rfl | exact fun h => absurd h nofun
  | cons x r ih =>
    intro b
    cases b with
    | nil => constructor <;> exact fun h => absurd h nofun
    | cons y t =>
      show (match Nat.beq x y with | true => lbeq r t | false => false) = true ↔ _
      rw [List.cons.injEq, ← @ih t]
      cases q : Nat.beq x y with
      | true => exact ⟨fun h => ⟨Nat.eq_of_beq_eq_true q, h⟩, fun h => h.2⟩
      | false => exact ⟨fun h => absurd h nofun, fun h => absurd h.1 (Nat.ne_of_beq_eq_false q)⟩
theorem lbeq_eq (x y : Str) : lbeq x.cps.toList y.cps.toList = (x == y) := by
  rw [Bool.eq_iff_iff, lbeq_iff, beq_iff_eq]
  constructor
  · intro h; cases x; cases y; simp at h ⊢; exact h
  · intro h; rw [h]
theorem ibeq_eq (a b : Int) : ibeq a b = (a == b) := by
  rw [Bool.eq_iff_iff, beq_iff_eq]
  cases a with
  | ofNat m => cases b with
    | ofNat n =>
      show Nat.beq m n = true ↔ _
      constructor
      · intro h; rw [Nat.eq_of_beq_eq_true h]
      · intro h; cases h; exact Nat.beq_refl m
    | negSucc n => constructor <;> intro h <;> cases h
  | negSucc m => cases b with
    | ofNat n => constructor <;> intro h <;> cases h
    | negSucc n =>
      show Nat.beq m n = true ↔ _
      constructor
      · intro h; rw [Nat.eq_of_beq_eq_true h]
      · intro h; cases h; exact Nat.beq_refl m
theorem iltb_eq (a b : Int) : iltb a b = decide (a < b) := by
  rw [Bool.eq_iff_iff, decide_eq_true_iff]
  have key : ∀ m n : Nat, Nat.blt m n = true ↔ m < n := fun m n => ⟨Nat.le_of_ble_eq_true, Nat.ble_eq_true_of_le⟩
  cases a with
  | ofNat m => cases b with
    | ofNat n => show Nat.blt m n = true ↔ ((m : Int) < (n : Int)); rw [key]; omega
    | negSucc n => show false = true ↔ _; constructor <;> intro h <;> first | cases h | (exfalso; have : (m : Int) < Int.negSucc n := h; omega)
  | negSucc m => cases b with
    | ofNat n => show true = true ↔ _; constructor <;> intro _ <;> first | rfl | (show Int.negSucc m < (n : Int); omega)
    | negSucc n => show Nat.blt n m = true ↔ _; rw [key]; omega
theorem bbeq_eq (a b : Bool) : bbeq a b = (a == b) := by cases a <;> cases b <;> rfl
theorem negB_eq (b : Bool) : negB b = !b := by cases b <;> rfl
theorem band2_eq (a b : Bool) : band2 a b = (a && b) := by cases a <;> rfl
theorem bint_eq (b : Bool) : bint b = if b then 1 else 0 := by cases b <;> rfl
mutual
noncomputable def toP : D → PyData
  | .none => .none
  | .bool b => .bool b
  | .int i => .int i
  | .str s => .str ⟨s.toArray⟩
  | .tup vs => .tuple (toPs vs)
  | .lst vs => .list (toPs vs)
  | _ => .dict []
noncomputable def toPs : List D → List PyData
  | [] => []
  | v :: r => toP v :: toPs r
end
theorem all_cons {n : Nat} {d : D} {r : List D} (k : dOk.all' n (d :: r) = true) : dOk n d = true ∧ dOk.all' n r = true := by
  have k' : band2 (dOk n d) (dOk.all' n r) = true := k
  rwa [band2_eq, Bool.and_eq_true] at k'
theorem dOk_by {M : D → Prop} {n : Nat} {d : D} (h : dOk n d = true) (h1 : M .none) (h2 : ∀ b, M (.bool b)) (h3 : ∀ i, M (.int i)) (h4 : ∀ s, sOk s = true → M (.str s)) (h5 : ∀ m vs, n = m + 1 → dOk.all' m vs = true → M (.tup vs)) (h6 : ∀ m vs, n = m + 1 → dOk.all' m vs = true → M (.lst vs)) : M d := by
  have no : ∀ {p : Prop}, false = true → p := nofun
  cases n with
  | zero => cases d with
    | none => exact h1
    | bool b => exact h2 b
    | int i => exact h3 i
    | str s => exact h4 s h
    | _ => exact no h
  | succ n => cases d with
    | none => exact h1
    | bool b => exact h2 b
    | int i => exact h3 i
    | str s => exact h4 s h
    | tup vs => exact h5 n vs rfl h
    | lst vs => exact h6 n vs rfl h
    | _ => exact no h
section
variable {P : Params} {src : Option Addr} {F : Vw} {h : Heap}
theorem reads_all (hF : ∀ a o, F a o → h.get? a = some o) (n : Nat) (ih : ∀ {v : Value} {d : D}, DRep P src F v d → dOk n d = true → ∃ as, Reads h v (toP d) as) {ds : List D} : ∀ {vs : List Value}, DReps P src F vs ds → dOk.all' n ds = true → ∃ as, ReadsAll h vs (toPs ds) as := by
  induction ds with
  | nil => intro vs r _; cases r; exact ⟨_, .nil⟩
  | cons d ds jh =>
    rintro vs ⟨v, w, rfl, a, r⟩ k
    exact (ih a (all_cons k).1).elim fun _ q => (jh r (all_cons k).2).elim fun _ p => ⟨_, .cons q p⟩
theorem DRep.reads (hF : ∀ a o, F a o → h.get? a = some o) (n : Nat) : ∀ {v : Value} {d : D}, DRep P src F v d → dOk n d = true → ∃ as, Reads h v (toP d) as := by
  induction n with
  | zero =>
    intro v d r k
    refine dOk_by (M := fun d => DRep P src F v d → ∃ as, Reads h v (toP d) as) k ?_ ?_ ?_ ?_ nofun nofun r
    · rintro rfl; exact ⟨_, .none⟩
    · rintro b rfl; exact ⟨_, .bool b⟩
    · rintro i ⟨t, rfl⟩; exact ⟨_, .int i t⟩
    · rintro s _ ⟨x, t, rfl, rfl⟩; exact ⟨_, .str x t⟩
  | succ n ih =>
    intro v d r k
    refine dOk_by (M := fun d => DRep P src F v d → ∃ as, Reads h v (toP d) as) k ?_ ?_ ?_ ?_ ?_ ?_ r
    · rintro rfl; exact ⟨_, .none⟩
    · rintro b rfl; exact ⟨_, .bool b⟩
    · rintro i ⟨t, rfl⟩; exact ⟨_, .int i t⟩
    · rintro s _ ⟨x, t, rfl, rfl⟩; exact ⟨_, .str x t⟩
    · rintro m vs e k2 ⟨items, ⟨a, o, n, e1, f, c, dd⟩, r2⟩; cases e; cases e1; exact (reads_all hF _ ih r2 k2).elim fun _ q => ⟨_, .tuple (hF _ _ f) c dd q⟩
    · rintro m vs e k2 ⟨items, ⟨a, o, n, e1, f, c, dd⟩, r2⟩; cases e; cases e1; exact (reads_all hF _ ih r2 k2).elim fun _ q => ⟨_, .list (hF _ _ f) c dd q⟩
theorem DReps.reads (hF : ∀ a o, F a o → h.get? a = some o) {vs : List Value} {ds : List D} (n : Nat) (r : DReps P src F vs ds) (k : dOk.all' n ds = true) : ∃ as, ReadsAll h vs (toPs ds) as := reads_all hF n (DRep.reads hF n) r k
end
theorem sOk_ok {s : List Nat} : sOk s = true → PyData.strOk ⟨s.toArray⟩ = true := by
  induction s with
  | nil => intro _; simp [PyData.strOk]
  | cons c r ih =>
    intro h
    have h' : (match Nat.blt c 1114112 with | true => sOk r | false => false) = true := h
    cases q : Nat.blt c 1114112 with
    | false => rw [q] at h'; exact absurd h' nofun
    | true =>
      rw [q] at h'
      have := ih h'
      unfold PyData.strOk at this ⊢
      have hc : c < 1114112 := Nat.le_of_ble_eq_true q
      simp at this ⊢
      exact ⟨by omega, this⟩
theorem lay_all {n : Nat} (ih : ∀ d, dOk n d = true → (toP d).canLay0 = true ∧ (toP d).depth ≤ n) {ds : List D} : dOk.all' n ds = true → PyData.canLayAll0 (toPs ds) = true ∧ PyData.depthAll (toPs ds) ≤ n := by
  induction ds with
  | nil => exact fun _ => ⟨rfl, Nat.zero_le _⟩
  | cons d r jh =>
    intro k
    obtain ⟨h1, h2⟩ := ih d (all_cons k).1
    obtain ⟨h3, h4⟩ := jh (all_cons k).2
    exact ⟨by show (_ && _) = true; rw [h1, h3]; rfl, Nat.max_le.mpr ⟨h2, h4⟩⟩
theorem toP_lay (n : Nat) : ∀ d : D, dOk n d = true → (toP d).canLay0 = true ∧ (toP d).depth ≤ n := by
  induction n with
  | zero => exact fun d k => dOk_by (M := fun d => (toP d).canLay0 = true ∧ (toP d).depth ≤ 0) k ⟨rfl, Nat.zero_le _⟩ (fun _ => ⟨rfl, Nat.zero_le _⟩) (fun _ => ⟨rfl, Nat.zero_le _⟩) (fun _ h => ⟨sOk_ok h, Nat.zero_le _⟩) nofun nofun
  | succ n ih =>
    exact fun d k => dOk_by (M := fun d => (toP d).canLay0 = true ∧ (toP d).depth ≤ n + 1) k ⟨rfl, Nat.zero_le _⟩ (fun _ => ⟨rfl, Nat.zero_le _⟩) (fun _ => ⟨rfl, Nat.zero_le _⟩) (fun _ h => ⟨sOk_ok h, Nat.zero_le _⟩)
      (fun m vs e k => by cases e; exact ⟨(lay_all ih k).1, Nat.add_le_add_right (lay_all ih k).2 1⟩) (fun m vs e k => by cases e; exact ⟨(lay_all ih k).1, Nat.add_le_add_right (lay_all ih k).2 1⟩)
theorem toPs_lay (n : Nat) (ds : List D) (k : dOk.all' n ds = true) : PyData.canLayAll0 (toPs ds) = true ∧ PyData.depthAll (toPs ds) ≤ n := lay_all (toP_lay n) k
theorem toP_eqv (d : D) : ∀ e, PyData.eqv (toP d) (toP e) = dbeq d e := by
  refine D.rec (motive_1 := fun d => ∀ e, PyData.eqv (toP d) (toP e) = dbeq d e) (motive_2 := fun ds => ∀ es, PyData.eqvAll (toPs ds) (toPs es) = dbeqs ds es) (motive_3 := fun _ => True) (motive_4 := fun _ => True)
    ?_ ?_ ?_ ?_ ?_ ?_ ?_ ?_ ?_ ?_ ?_ ?_ trivial (fun _ _ _ _ => trivial) (fun _ _ _ _ => trivial) d
  · intro e; cases e <;> rfl
  · intro b e; cases e with
    | bool c => exact (bbeq_eq b c).symm
    | int i => exact ((ibeq_eq _ i).trans (by rw [bint_eq]; rfl)).symm
    | _ => rfl
  · intro i e; cases e with
    | bool c => exact ((ibeq_eq i _).trans (by rw [bint_eq]; rfl)).symm
    | int j => exact (ibeq_eq i j).symm
    | _ => rfl
  · intro s e; cases e with
    | str t => exact (lbeq_eq ⟨s.toArray⟩ ⟨t.toArray⟩).symm
    | _ => rfl
  · intro s ih e; cases e with
    | tup t => exact ih t
    | _ => rfl
  · intro s ih e; cases e with
    | lst t => exact ih t
    | _ => rfl
  · intro _ _ e; cases e <;> rfl
  · intro _ _ _ e; cases e <;> rfl
  · intro e; cases e <;> rfl
  · intro _ e; cases e <;> rfl
  · intro e; cases e <;> rfl
  · intro d ds ih jh e; cases e with
    | nil => rfl
    | cons e es => show (_ && _) = band2 (dbeq d e) (dbeqs ds es); rw [band2_eq, ih, jh]
theorem toPs_eqv (ds : List D) : ∀ es : List D, PyData.eqvAll (toPs ds) (toPs es) = dbeqs ds es := toP_eqv (.lst ds) |> fun h es => h (.lst es)
end Mine
namespace Mine
open PySem PySem.W PyProof.Rows PySem.Calls PySem.Spec
theorem Reps.dats {P : Params} {src xa : Option Addr} {ρ : List Addr} {F : Vw} {ds : List D} : ∀ {items : List Value}, Reps P src xa ρ F items (ds.map V.dat) → DReps P src F items ds :=
  List.rec (motive := fun ds => ∀ {items : List Value}, Reps P src xa ρ F items (ds.map V.dat) → DReps P src F items ds) (fun h => h) (fun _ _ ih _ h => h.imp fun _ h => h.imp fun _ h => ⟨h.1, h.2.1, ih h.2.2⟩) ds
theorem RepK.dats {P : Params} {src xa : Option Addr} {ρ : List Addr} {F : Vw} {ds : List (D × D)} : ∀ {items : List DictEntry}, RepK P src xa ρ F items (ds.map fun p => (p.1, V.dat p.2)) → DRepK P src F items ds :=
  List.rec (motive := fun ds => ∀ {items : List DictEntry}, RepK P src xa ρ F items (ds.map fun p => (p.1, V.dat p.2)) → DRepK P src F items ds) (fun h => h) (fun _ _ ih _ h => h.imp fun _ h => h.imp fun _ h => ⟨h.1, h.2.1, h.2.2.1, ih h.2.2.2⟩) ds
theorem allDat_dats (ds : List D) : allDat (dats ds) = some ds :=
  List.rec (motive := fun ds => allDat (dats ds) = some ds) rfl (fun d r ih => congrArg (Option.map (d :: ·)) ih) ds
theorem rep_mk {P : Params} {src xa : Option Addr} {ρ : List Addr} {F : Vw} {v : Value} {items : List Value} {vs : List V} (f : SeqAt F v "tuple" items) (r : Reps P src xa ρ F items vs) : Rep P src xa ρ F v (mkTup vs) := by
  unfold mkTup
  cases hd : allDat vs with
  | none => exact ⟨items, f, r⟩
  | some ds => exact ⟨items, f, Reps.dats (allDat_eq hd ▸ r)⟩
theorem tupItems_inv {d : V} {vs : List V} (e : tupItems d = some vs) : (∃ ds, d = .dat (.tup ds) ∧ vs = dats ds) ∨ d = .tup vs := by
  cases d with
  | dat d => cases d with
    | tup ds => exact .inl ⟨ds, rfl, (Option.some.inj e).symm⟩
    | _ => exact no e
  | tup _ => exact .inr (congrArg _ (Option.some.inj e))
  | _ => exact no e
theorem rep_tup {P : Params} {src xa : Option Addr} {ρ : List Addr} {F : Vw} {v : Value} {d : V} {vs : List V} (r : Rep P src xa ρ F v d) (e : tupItems d = some vs) : Rep P src xa ρ F v (mkTup vs) := by
  rcases tupItems_inv e with ⟨ds, rfl, rfl⟩ | rfl
  · unfold mkTup; rw [allDat_dats]; exact r
  · exact r.elim fun _ h => rep_mk h.1 h.2
section
variable {R : Rn} {A : Around} {s : Shared} {ρ : List Addr} {st : St} {Ev : Value → Shared → Prop}
theorem post_at {v : Value} {d : V} {Q : V → St → Prop} (S : Sat X R ρ st s.heap) (r : RepOf X R ρ st.objs s.heap v d) (q : Q d st) (tk : Nat) : Post X R ρ st.objs s relV Q v { s with toks := tk } :=
  ⟨d, st, ρ, S, Go.grow (fun _ _ e => e) ⟨rfl, rfl, rfl⟩, r, q⟩
theorem post_here {v : Value} {d : V} {Q : V → St → Prop} (S : Sat X R ρ st s.heap) (r : RepOf X R ρ st.objs s.heap v d) (q : Q d st) : Post X R ρ st.objs s relV Q v s := post_at S r q s.toks
theorem post_grow {v : Value} {d : V} {Q : V → St → Prop} {h' : Heap} {tk : Nat} (S : Sat X R ρ st s.heap) (k : ∀ b o, s.heap.get? b = some o → h'.get? b = some o)
    (r : RepOf X R ρ st.objs h' v d) (q : Q d st) : Post X R ρ st.objs s relV Q v { s with heap := h', toks := tk } :=
  ⟨d, st, ρ, S.grow k, Go.grow k ⟨rfl, rfl, rfl⟩, r, q⟩
theorem vw_grow {h h' : Heap} {os : List AObj} (k : ∀ b o, h.get? b = some o → h'.get? b = some o) : ∀ a o, vwOf X R ρ os h a o → vwOf X R ρ os h' a o := fun a o ⟨n, e⟩ => ⟨n, k a o e⟩
theorem post_tup {items : List Value} {vs : List V} {Q : V → St → Prop} {tk : Nat} (S : Sat X R ρ st s.heap) (r : RepsOf X R ρ st.objs s.heap items vs) (q : Q (mkTup vs) st) :
    Post X R ρ st.objs s relV Q (.ref s.heap.objs.size) { s with heap := s.heap.push { cls := .type "tuple", data := .seq items.toArray }, toks := tk } := by
  have k : ∀ b o, s.heap.get? b = some o → (s.heap.push { cls := .type "tuple", data := .seq items.toArray }).get? b = some o := fun b o e => Heap.get?_push_of_some _ e
  refine post_grow S k ?_ q
  have hn : s.heap.get? s.heap.objs.size = none := Heap.get?_none_of_le (Nat.le_refl _)
  exact rep_mk ⟨_, _, 0, rfl, ⟨S.noneOff hn, Heap.get?_push_size _ rfl⟩, rfl, rfl⟩ (r.mono (fun _ _ e => e) (vw_grow k))
theorem post_new {o : AObj} {x : Obj} {Q : V → St → Prop} {h' : Heap} {tk : Nat} {a : Addr} (S : Sat X R ρ st s.heap) (hl : o.live = true) (k : ∀ b o, s.heap.get? b = some o → h'.get? b = some o) (hn : s.heap.get? a = none) (h3 : @LT.lt Nat _ 3 a) (hx : h'.get? a = some x)
    (r : ObjRep X.w.params R.src R.xa ρ (vwOf X R ρ st.objs s.heap) h' a o) (q : newObjK o st Q) : Post X R ρ st.objs s relV Q (.ref a) { s with heap := h', toks := tk } := by
  refine ⟨.obj st.objs.length, { st with objs := st.objs ++ [o] }, ρ ++ [a], S.newObj k hn h3 hl ⟨x, hx⟩ r, Go.newObj (s' := { s with heap := h', toks := tk }) S k ⟨rfl, rfl, rfl⟩ hn hl, ?_, q⟩
  exact ⟨a, rfl, by rw [S.len]; simp⟩
theorem post_list {items : List Value} {vs : List V} {Q : V → St → Prop} {tk : Nat} (S : Sat X R ρ st s.heap) (r : RepsOf X R ρ st.objs s.heap items vs) (q : newObjK (.list vs) st Q) :
    Post X R ρ st.objs s relV Q (.ref s.heap.objs.size) { s with heap := s.heap.push { cls := .type "list", data := .seq items.toArray }, toks := tk } :=
  post_new S rfl (fun b o e => Heap.get?_push_of_some _ e) (Heap.get?_none_of_le (Nat.le_refl _)) S.size3 (Heap.get?_push_size _ rfl) (by exact ⟨items, 0, Heap.get?_push_size _ rfl, r⟩) q
theorem obj_at (S : Sat X R ρ st s.heap) {v : Value} {i : Nat} {o : AObj} (r : RepOf X R ρ st.objs s.heap v (.obj i)) (e : nth st.objs i = some o) :
    ∃ a, v = .ref a ∧ ρ[i]? = some a ∧ st.objs[i]? = some o ∧ ObjRep X.w.params R.src R.xa ρ (vwOf X R ρ st.objs s.heap) s.heap a o := by
  obtain ⟨a, rfl, h⟩ := r
  rw [nth_eq] at e
  obtain ⟨b, h1, h2⟩ := S.objs i o e
  obtain rfl := Option.some.inj (h.symm.trans h1)
  exact ⟨_, rfl, h, e, h2⟩
theorem SeqAt.lst {h : Heap} {off : List Addr} {v : Value} {items : List Value} (q : SeqAt (vw off h) v "list" items) : ∃ a, v = .ref a ∧ h.IsList a items.toArray := q.imp fun _ q => q.elim fun _ q => q.elim fun _ q => ⟨q.1, ⟨_, q.2.1.2, q.2.2.1, _, q.2.2.2⟩⟩
theorem SeqAt.tup {h : Heap} {off : List Addr} {v : Value} {items : List Value} (q : SeqAt (vw off h) v "tuple" items) : ∃ a, v = .ref a ∧ IsTup h a items.toArray := q.imp fun _ q => q.elim fun _ q => q.elim fun _ q => ⟨q.1, ⟨_, q.2.1.2, q.2.2.1, _, q.2.2.2⟩⟩
theorem DReps.dreps {P : Params} {src xa : Option Addr} {ρ : List Addr} {F : Vw} {ds : List D} {items : List Value} (r : DReps P src F items ds) : Reps P src xa ρ F items (dats ds) := by rw [dats_eq]; exact r.reps
noncomputable def ItemsAt (R : Rn) (ρ : List Addr) (st : St) (h : Heap) (v : Value) (d : V) (vs : List V) : Prop :=
  ∃ a items, v = .ref a ∧ RepsOf X R ρ st.objs h items vs ∧ ((isLst st d = true ∧ h.IsList a items.toArray) ∨ (isLst st d = false ∧ IsTup h a items.toArray ∧ tupItems d = some vs))
theorem lst_items {v : Value} {d : V} {items : List Value} {vs : List V} (q : SeqAt (vwOf X R ρ st.objs s.heap) v "list" items) (r : RepsOf X R ρ st.objs s.heap items vs) (e : isLst st d = true) : ItemsAt R ρ st s.heap v d vs :=
  q.lst.imp fun _ q => ⟨items, q.1, r, .inl ⟨e, q.2⟩⟩
theorem tup_items {v : Value} {d : V} {items : List Value} {vs : List V} (q : SeqAt (vwOf X R ρ st.objs s.heap) v "tuple" items) (r : RepsOf X R ρ st.objs s.heap items vs) (e : isLst st d = false) (t : tupItems d = some vs) : ItemsAt R ρ st s.heap v d vs :=
  q.tup.imp fun _ q => ⟨items, q.1, r, .inr ⟨e, q.2, t⟩⟩
theorem items_at (S : Sat X R ρ st s.heap) {v : Value} {d : V} {vs : List V} (r : RepOf X R ρ st.objs s.heap v d) (e : itemsOf st d = some vs) : ItemsAt R ρ st s.heap v d vs := by
  cases d with
  | dat d => cases d with
    | tup ds => cases e; exact r.elim fun _ r => tup_items r.1 r.2.dreps rfl rfl
    | lst ds => cases e; exact r.elim fun _ r => lst_items r.1 r.2.dreps rfl
    | _ => exact no e
  | tup ws => cases e; exact r.elim fun _ r => tup_items r.1 r.2 rfl rfl
  | obj i =>
    cases h : nth st.objs i with
    | none => rw [itemsOf, h] at e; exact no e
    | some o =>
      obtain ⟨a, rfl, _, _, q⟩ := obj_at S r h
      rw [itemsOf, h] at e
      have l : isLst st (.obj i) = isO o := by rw [isLst, h]; rfl
      cases o with
      | list ws =>
        cases e
        obtain ⟨items, n, h4, h5⟩ := q
        exact ⟨a, items, rfl, h5, .inl ⟨l, ⟨_, h4, rfl, _, rfl⟩⟩⟩
      | dict _ => exact no e
      | fz d => cases d with
        | lst ds => cases e; exact q.elim fun _ r => lst_items r.1 r.2.dreps l
        | _ => exact no e
  | _ => exact no e
theorem tup_lst {d : V} {vs : List V} (e : tupItems d = some vs) : itemsOf st d = some vs ∧ isLst st d = false := by
  rcases tupItems_inv e with ⟨ds, rfl, rfl⟩ | rfl <;> exact ⟨rfl, rfl⟩
theorem tup_at (S : Sat X R ρ st s.heap) {v : Value} {d : V} {vs : List V} (r : RepOf X R ρ st.objs s.heap v d) (e : tupItems d = some vs) :
    ∃ a items, v = .ref a ∧ RepsOf X R ρ st.objs s.heap items vs ∧ IsTup s.heap a items.toArray := by
  obtain ⟨e1, e2⟩ := tup_lst (st := st) e
  obtain ⟨a, items, h1, h2, ⟨h3, _⟩ | ⟨_, h3, _⟩⟩ := items_at S r e1
  · exact absurd (e2.symm.trans h3) nofun
  · exact ⟨a, items, h1, h2, h3⟩
theorem altK_iff {α : Type} {o : Option α} {k : α → Prop} {x : Prop} (h : altK o k x) : (∃ a, o = some a ∧ k a) ∨ x := by
  cases o with
  | none => exact .inr h
  | some a => exact .inl ⟨a, rfl, h⟩
theorem int_at {h : Heap} {os : List AObj} {v : Value} {a : V} {x : Int} (r : RepOf X R ρ os h v a) (e : intOf a = some x) : ∃ t, v = .int x t := by
  cases a with
  | dat d => cases d with
    | int _ => cases e; exact r
    | _ => exact no e
  | _ => exact no e
theorem str_at {h : Heap} {os : List AObj} {v : Value} {a : V} {x : List Nat} (r : RepOf X R ρ os h v a) (e : strOf a = some x) : ∃ z t, v = .str z t ∧ z.cps.toList = x := by
  cases a with
  | dat d => cases d with
    | str _ => cases e; exact r
    | _ => exact no e
  | _ => exact no e
theorem bits64 {x : Int} (h : x.natAbs < 2 ^ 64) : Builtin.Int.intBits x ≤ 64 := intBits_le_64 (by omega) (by omega)
theorem op_int {op : Operator} {x y : Int} {t u : Tok} {Q : V → St → Prop} (S : Sat X R ρ st s.heap) (h : binInt op x y fun z => Q (.dat (.int z)) st) :
    wpAny (model X.prog X.w) A (binaryOp op (.int x t) (.int y u)) (Post X R ρ st.objs s relV Q) Ev s := by
  have p : ∀ {z : Int}, Q (.dat (.int z)) st → ∀ t tk, Post X R ρ st.objs s relV Q (.int z t) { s with toks := tk } := fun {z} q t tk => post_at (d := .dat (.int z)) S ⟨t, rfl⟩ q tk
  cases op with
  | Add => exact PyProof.Rows.add_int (p h _ _)
  | Sub => exact PyProof.Rows.sub_int (p h _ _)
  | Mult => exact PySem.P.mul_int (p h.2 _ _) (h.1.elim (fun h => .of_left (bits64 h)) fun h => .of_right (bits64 h))
  | Mod => exact mod_int' h.1 (p h.2 _ _)
  | FloorDiv =>
    obtain ⟨⟨h1, h2⟩, h3⟩ := h
    exact floordiv_int (by omega) (p h3 _ _) (.inl (PyProof.noPylong_small (by omega)))
  | Pow =>
    obtain ⟨⟨rfl, rfl⟩, h2⟩ := h
    exact pow_int_small (by decide) (by decide) (by decide) (p h2 _ _)
  | _ => exact h.elim
theorem sz_le {n : Nat} (h : n ≤ 100000) : n ≤ sizeLine := Nat.le_trans h (by decide)
theorem str_nil {z : Str} (e : (z.length == 0) = true) : z.cps.toList = [] := by
  have : z.cps.size = 0 := by simpa [PySem.Str.length] using e
  simpa using Array.size_eq_zero_iff.mp this
theorem op_str {x y : Str} {t u : Tok} {Q : V → St → Prop} (S : Sat X R ρ st s.heap) (hz : len' x.cps.toList + len' y.cps.toList ≤ 100000) (h : Q (.dat (.str (x.cps.toList ++ y.cps.toList))) st) :
    wpAny (model X.prog X.w) A (binaryOp .Add (.str x t) (.str y u)) (Post X R ρ st.objs s relV Q) Ev s := by
  have p : ∀ (z : Str) (t : Tok) tk, z.cps.toList = x.cps.toList ++ y.cps.toList → Post X R ρ st.objs s relV Q (.str z t) { s with toks := tk } := fun z t tk e => post_at (v := .str z t) (d := .dat (.str (x.cps.toList ++ y.cps.toList))) S ⟨z, t, rfl, e⟩ h tk
  refine PySem.P.add_str ?_
  split
  · rename_i e0; exact p y u s.toks (by rw [str_nil e0]; rfl)
  · split
    · rename_i e0; exact p x t s.toks (by rw [str_nil e0, List.append_nil])
    · rw [len'_eq, len'_eq] at hz
      exact ⟨by show (x.cps ++ y.cps).size ≤ sizeLine; rw [Array.size_append]; exact sz_le hz, p _ _ _ (by show (x.cps ++ y.cps).toList = _; simp)⟩
theorem op_lst {p q : Addr} {xs ys : List Value} {vs ws : List V} {Q : V → St → Prop} (S : Sat X R ρ st s.heap) (hx : s.heap.IsList p xs.toArray) (hy : s.heap.IsList q ys.toArray) (rx : RepsOf X R ρ st.objs s.heap xs vs) (ry : RepsOf X R ρ st.objs s.heap ys ws)
    (hz : len' vs + len' ws ≤ 100000) (h : newObjK (.list (vs ++ ws)) st Q) : wpAny (model X.prog X.w) A (binaryOp .Add (.ref p) (.ref q)) (Post X R ρ st.objs s relV Q) Ev s := by
  obtain ⟨⟨cls, dd, data, sl⟩, ho, rfl, n, rfl⟩ := hx
  obtain ⟨⟨cls2, dd2, data2, sl2⟩, ho2, rfl, n2, rfl⟩ := hy
  rw [len'_eq, len'_eq, ← rx.length, ← ry.length] at hz
  refine concat_meets ⟨_, ho, rfl⟩ ⟨_, ho2, rfl⟩ noFill_list_add seq_list_add PySem.F.slot_list_add PySem.F.entry_list_add (PySem.F.args_list_add_2 _ _)
    (list_addW p q xs.toArray ys.toArray n n2 dd dd2 sl sl2 (sz_le hz)) ⟨ho, ho2, ?_⟩
  rw [List.append_toArray]
  exact post_list S (rx.append ry) h
theorem op_tup {p q : Addr} {xs ys : List Value} {vs ws : List V} {Q : V → St → Prop} (S : Sat X R ρ st s.heap) (hx : IsTup s.heap p xs.toArray) (hy : IsTup s.heap q ys.toArray) (rx : RepsOf X R ρ st.objs s.heap xs vs) (ry : RepsOf X R ρ st.objs s.heap ys ws)
    (ra : RepOf X R ρ st.objs s.heap (.ref p) (mkTup vs)) (rb : RepOf X R ρ st.objs s.heap (.ref q) (mkTup ws))
    (hz : len' vs + len' ws ≤ 100000) (h : Q (mkTup (vs ++ ws)) st) : wpAny (model X.prog X.w) A (binaryOp .Add (.ref p) (.ref q)) (Post X R ρ st.objs s relV Q) Ev s := by
  obtain ⟨⟨cls, dd, data, sl⟩, ho, rfl, n, rfl⟩ := hx
  obtain ⟨⟨cls2, dd2, data2, sl2⟩, ho2, rfl, n2, rfl⟩ := hy
  rw [len'_eq, len'_eq, ← rx.length, ← ry.length] at hz
  have tx : s.TypeIs (.ref p) "tuple" := ⟨_, ho, rfl⟩
  have ty : s.TypeIs (.ref q) "tuple" := ⟨_, ho2, rfl⟩
  have c := fun {S : PySem.Spec} => concat_meets (s := s) (prog := X.prog) (w := X.w) (A := A) (S := S) (Q := Post X R ρ st.objs s relV Q) (E := Ev) tx ty noFill_tuple_add seq_tuple_add PySem.F.slot_tuple_add PySem.F.entry_tuple_add (PySem.F.args_tuple_add_2 _ _)
  cases vs with
  | nil => cases rx; exact c (tuple_addW0 p q #[] ys.toArray n n2 dd dd2 sl sl2 rfl) ⟨ho, ho2, post_here S rb h⟩
  | cons v vs =>
    have hx : ¬ xs.toArray.isEmpty = true := rx.elim fun _ r => r.elim fun _ r => by rw [r.1]; simp
    cases ws with
    | nil => cases ry; exact c (tuple_addW1 p q xs.toArray #[] n n2 dd dd2 sl sl2 hx rfl) ⟨ho, ho2, post_here S ra (List.append_nil (v :: vs) ▸ h)⟩
    | cons w ws =>
      have hy : ¬ ys.toArray.isEmpty = true := ry.elim fun _ r => r.elim fun _ r => by rw [r.1]; simp
      refine c (tuple_addW2 p q xs.toArray ys.toArray n n2 dd dd2 sl sl2 hx hy (sz_le hz)) ⟨ho, ho2, ?_⟩
      rw [List.append_toArray]
      exact post_tup S (rx.append ry) h
theorem op_bin {op : Operator} {va vb : Value} {a b : V} {Q : V → St → Prop} (hA : Amb R A) (S : Sat X R ρ st s.heap) (ra : RepOf X R ρ st.objs s.heap va a) (rb : RepOf X R ρ st.objs s.heap vb b)
    (h : binK op a b st Q) : wpAny (model X.prog X.w) A (binaryOp op va vb) (Post X R ρ st.objs s relV Q) Ev s := by
  rcases altK_iff h with ⟨x, ex, h⟩ | h
  · obtain ⟨y, ey, h⟩ := optK_iff h
    obtain ⟨t, rfl⟩ := int_at ra ex
    obtain ⟨u, rfl⟩ := int_at rb ey
    exact op_int S h
  · obtain ⟨ho, h⟩ := ifT_iff h
    cases op with
    | Add =>
      rcases altK_iff h with ⟨x, ex, h⟩ | h
      · obtain ⟨y, ey, h⟩ := optK_iff h
        obtain ⟨z, t, rfl, rfl⟩ := str_at ra ex
        obtain ⟨w, u, rfl, rfl⟩ := str_at rb ey
        obtain ⟨hz, h⟩ := small_iff h
        exact op_str S hz h
      · obtain ⟨xs, ex, h⟩ := optK_iff h
        obtain ⟨ys, ey, h⟩ := optK_iff h
        obtain ⟨hz, h⟩ := small_iff h
        obtain ⟨p, vs, rfl, rx, hp⟩ := items_at S ra ex
        obtain ⟨q, ws, rfl, ry, hq⟩ := items_at S rb ey
        rcases hp with ⟨l1, hp⟩ | ⟨l1, hp, e1⟩ <;> rcases hq with ⟨l2, hq⟩ | ⟨l2, hq, e2⟩ <;> rw [l1, l2] at h
        · exact op_lst S hp hq rx ry hz h
        · exact h.elim
        · exact h.elim
        · exact op_tup S hp hq rx ry (rep_tup ra e1) (rep_tup rb e2) hz h
    | _ => exact absurd ho nofun
end
end Mine
namespace Mine
open PySem PySem.W PyProof.Rows PySem.Calls PySem.Spec
theorem str_eta (x : Str) : (⟨x.cps.toList.toArray⟩ : Str) = x := by cases x; simp
section
variable {P : Params} {src : Option Addr} {xa : Option Addr} {ρ : List Addr} {F : Vw}
theorem allStrK_cons {k : D} {v : V} {r : List (D × V)} (h : allStrK ((k, v) :: r) = true) : (∃ cs, k = .str cs) ∧ allStrK r = true := by
  cases k with
  | str cs => exact ⟨⟨cs, rfl⟩, h⟩
  | _ => exact absurd h nofun
theorem find_str (x y : Str) : dbeq (.str y.cps.toList) (.str x.cps.toList) = (x == y) := by
  show lbeq _ _ = _
  rw [lbeq_eq, Bool.eq_iff_iff, beq_iff_eq, beq_iff_eq]; exact ⟨Eq.symm, Eq.symm⟩
theorem isStr_key (x y : Str) (t : Tok) : Value.isStrOf x (.str y t) = (x == y) := by
  rw [Bool.eq_iff_iff, beq_iff_eq]; simp only [Value.isStrOf, beq_iff_eq]; exact ⟨Eq.symm, Eq.symm⟩
noncomputable def OptR {α β : Type} (r : α → β → Prop) : Option α → Option β → Prop
  | some x, some y => r x y
  | none, none => True
  | _, _ => False
theorem OptR.some {α β : Type} {r : α → β → Prop} {a : Option α} {b : Option β} {x : α} (h : OptR r a b) (e : a = some x) : ∃ y, b = some y ∧ r x y := by
  subst e
  cases b with
  | none => exact h.elim
  | some y => exact ⟨y, rfl, h⟩
theorem OptR.none {α β : Type} {r : α → β → Prop} {a : Option α} {b : Option β} (h : OptR r a b) (e : a = none) : b = none := by
  subst e
  cases b with
  | none => rfl
  | some y => exact h.elim
theorem OptR.isSome {α β : Type} {r : α → β → Prop} {a : Option α} {b : Option β} (h : OptR r a b) : b.isSome = a.isSome := by
  cases a with
  | none => exact congrArg Option.isSome (h.none rfl)
  | some x => exact (h.some rfl).elim fun _ h => congrArg Option.isSome h.1
theorem RepK.find {kvs : List (D × V)} : ∀ {es : List DictEntry}, RepK P src xa ρ F es kvs → allStrK kvs = true → ∀ x : Str,
    OptR (fun v w => Rep P src xa ρ F w v) (lookK kvs (.str x.cps.toList)) ((es.find? fun e => Value.isStrOf x e.key).map (·.val)) := by
  induction kvs with
  | nil => intro es r _ x; cases r; trivial
  | cons p kvs ih =>
    rintro es ⟨e, es, rfl, ⟨hk, hv⟩, _, r⟩ ha x
    obtain ⟨k, v⟩ := p
    obtain ⟨⟨cs, rfl⟩, ha'⟩ := allStrK_cons ha
    obtain ⟨y, t, hy, rfl⟩ := hk
    show OptR _ (match dbeq (.str y.cps.toList) (.str x.cps.toList) with | true => some v | false => lookK kvs (.str x.cps.toList)) _
    rw [find_str, List.find?_cons, hy, isStr_key]
    cases x == y with
    | true => exact hv
    | false => exact ih r ha' x
theorem RepK.keys {kvs : List (D × V)} : ∀ {es : List DictEntry}, RepK P src xa ρ F es kvs → allStrK kvs = true → ∀ e ∈ es, ∃ x t, e.key = .str x t ∧ e.hash = PyData.keyHash P x := by
  induction kvs with
  | nil => intro es r _ e he; cases r; cases he
  | cons p kvs ih =>
    rintro es ⟨e, es, rfl, ⟨hk, hv⟩, hh, r⟩ ha e' he
    obtain ⟨k, v⟩ := p
    obtain ⟨⟨cs, rfl⟩, ha'⟩ := allStrK_cons ha
    rcases List.mem_cons.mp he with rfl | he
    · obtain ⟨y, t, hy, rfl⟩ := hk
      exact ⟨y, t, hy, hh.trans (by show PyData.keyHash P ⟨y.cps.toList.toArray⟩ = _; rw [str_eta])⟩
    · exact ih r ha' e' he
end
section
variable {R : Rn} {A : Around} {s : Shared} {ρ : List Addr} {st : St} {Ev : Value → Shared → Prop}
theorem DRepK.drepK {P : Params} {src xa : Option Addr} {ρ : List Addr} {F : Vw} {ds : List (D × D)} {es : List DictEntry} (r : DRepK P src F es ds) : RepK P src xa ρ F es (datK ds) := by rw [datK_eq]; exact r.repK
noncomputable def KvsAt (R : Rn) (ρ : List Addr) (st : St) (h : Heap) (v : Value) (kvs : List (D × V)) : Prop :=
  ∃ a es n, v = .ref a ∧ @LT.lt Nat _ 3 a ∧ h.get? a = some (dictOf es n) ∧ RepK X.w.params R.src R.xa ρ (vwOf X R ρ st.objs h) es kvs
theorem dct_kvs {v : Value} {ds : List (D × D)} (r : DRep X.w.params R.src (vwOf X R ρ st.objs s.heap) v (.dct ds)) : KvsAt R ρ st s.heap v (datK ds) :=
  r.elim fun es r => r.1.imp fun _ q => ⟨es, q.imp fun _ q => ⟨q.1, q.2.1, q.2.2.2, r.2.drepK⟩⟩
theorem kvs_at (S : Sat X R ρ st s.heap) {v : Value} {d : V} {kvs : List (D × V)} (r : RepOf X R ρ st.objs s.heap v d) (e : kvsOf st d = some kvs) : KvsAt R ρ st s.heap v kvs := by
  cases d with
  | dat d => cases d with
    | dct ds => cases e; exact dct_kvs r
    | _ => exact no e
  | obj i =>
    cases q : nth st.objs i with
    | none => rw [kvsOf, q] at e; exact no e
    | some o =>
      obtain ⟨a, rfl, h1, h2, h3⟩ := obj_at S r q
      rw [kvsOf, q] at e
      cases o with
      | list ws => exact no e
      | dict kvs =>
        cases e
        obtain ⟨es, n, h4, h5⟩ := h3
        exact ⟨a, es, n, rfl, S.hi _ (mem_own.mpr (.inr (.inr (.inr (mem_liveA.mpr ⟨i, h1, _, h2, rfl⟩))))), h4, h5⟩
      | fz d => cases d with
        | dct ds => cases e; exact dct_kvs h3
        | _ => exact no e
  | ext =>
    cases q : st.ext with
    | none => rw [kvsOf, q] at e; exact no e
    | some o =>
      rw [kvsOf, q] at e
      cases o with
      | dict kvs =>
        cases e
        obtain ⟨a, h1, h2, es, n, h4, h5⟩ := S.ext _ q
        obtain ⟨b, rfl, h⟩ := r
        obtain rfl := Option.some.inj (h.symm.trans h1)
        exact ⟨_, es, n, rfl, S.hi _ (mem_own.mpr (.inr (.inr (.inl h1)))), h4, h5⟩
      | _ => exact no e
  | _ => exact no e
theorem mapOf_rep {a : Addr} {es : List DictEntry} {n : Nat} {kvs : List (D × V)} {xa : Option Addr} {F : Vw} (e : s.heap.get? a = some (dictOf es n)) (r : RepK X.w.params R.src xa ρ F es kvs) (ha : allStrK kvs = true) :
    s.heap.MapOf (strKind X.prog X.w) a (fun x => findBy Value.isStrOf es.toArray x) :=
  ⟨_, es.toArray, n, e, ⟨rfl, rfl, rfl⟩, rfl, fun en hen => by
    obtain ⟨x, t, h1, h2⟩ := r.keys ha en (by simpa using hen)
    exact ⟨x, by rw [h1]; exact strKind_is _ _ _ _, h2⟩, fun _ => rfl⟩
theorem findBy_list (es : List DictEntry) (x : Str) : findBy Value.isStrOf es.toArray x = (es.find? fun e => Value.isStrOf x e.key).map (·.val) := by
  unfold findBy; rw [List.find?_toArray]
theorem notSys {a : Addr} (l : @LT.lt Nat _ 3 a) : (a == sysModules) = false := beq_eq_false_iff_ne.mpr fun q => by
  have : @Eq Nat a 1 := q
  omega
def BPost (s : Shared) (Q : Bool → Prop) : Value → Shared → Prop := fun c s' => ∃ t tk, c = .bool t ∧ s' = { s with toks := tk } ∧ Q t
theorem bpost {t : Bool} {Q : Bool → Prop} (h : Q t) (tk : Nat) : BPost s Q (.bool t) { s with toks := tk } := ⟨t, tk, rfl, rfl, h⟩
theorem bpost0 {t : Bool} {Q : Bool → Prop} (h : Q t) : BPost s Q (.bool t) s := ⟨t, s.toks, rfl, rfl, h⟩
theorem eq_data2 (neg : Bool) {va vb : Value} {x y : D} {Q : Bool → Prop} (hA : Amb R A) (ra : DRep X.w.params R.src (vwOf X R ρ st.objs s.heap) va x) (rb : DRep X.w.params R.src (vwOf X R ρ st.objs s.heap) vb y)
    (hx : dOk 20 x = true) (hy : dOk 20 y = true) (h : Q (if neg then negB (dbeq x y) else dbeq x y)) : wpAny (model X.prog X.w) A (compareOp (if neg then .NotEq else .Eq) va vb) (BPost s Q) Ev s := by
  obtain ⟨as, r1⟩ := ra.reads (fun _ _ f => f.2) 20 hx
  obtain ⟨bs, r2⟩ := rb.reads (fun _ _ f => f.2) 20 hy
  have l1 := toP_lay 20 x hx
  have l2 := toP_lay 20 y hy
  have hu : A.units + 64 < cLine := by have := hA.units; omega
  have s1 : SeqAt.shaped (toP x) = true := by unfold SeqAt.shaped; rw [l1.1, Bool.true_and]; exact decide_eq_true (Nat.le_trans l1.2 (by decide))
  have s2 : SeqAt.shaped (toP y) = true := by unfold SeqAt.shaped; rw [l2.1, Bool.true_and]; exact decide_eq_true (Nat.le_trans l2.2 (by decide))
  cases neg with
  | false => exact eq_dataH r1 r2 s1 s2 hu (by rw [toP_eqv x y]; exact bpost0 h)
  | true => exact ne_dataH r1 r2 s1 s2 hu (by rw [toP_eqv x y, ← negB_eq]; exact bpost0 h)
theorem eq_data3 (neg : Bool) {va vb : Value} {x y : D} {Q : Bool → Prop} (hA : Amb R A) (ra : DRep X.w.params R.src (vwOf X R ρ st.objs s.heap) va x) (rb : DRep X.w.params R.src (vwOf X R ρ st.objs s.heap) vb y)
    (h : ifT (dOk 20 x) (ifT (dOk 20 y) (Q (if neg then negB (dbeq x y) else dbeq x y)))) : wpAny (model X.prog X.w) A (compareOp (if neg then .NotEq else .Eq) va vb) (BPost s Q) Ev s :=
  eq_data2 neg hA ra rb (ifT_iff h).1 (ifT_iff (ifT_iff h).2).1 (ifT_iff (ifT_iff h).2).2
theorem eq_D (neg : Bool) {va vb : Value} {x y : D} {Q : Bool → Prop} (hA : Amb R A) (ra : DRep X.w.params R.src (vwOf X R ρ st.objs s.heap) va x) (rb : DRep X.w.params R.src (vwOf X R ρ st.objs s.heap) vb y)
    (h : eqD x y fun r => Q (if neg then negB r else r)) : wpAny (model X.prog X.w) A (compareOp (if neg then .NotEq else .Eq) va vb) (BPost s Q) Ev s := by
  cases x with
  | str x => cases y with
    | str y =>
      obtain ⟨x', t, rfl, rfl⟩ := ra
      obtain ⟨y', u, rfl, rfl⟩ := rb
      cases neg with
      | false => exact PyProof.Rows.eq_str (by rw [← lbeq_eq]; exact bpost0 h)
      | true => refine PyProof.Rows.ne_str (by rw [show (x' != y') = negB (lbeq x'.cps.toList y'.cps.toList) by rw [lbeq_eq, negB_eq]; rfl]; exact bpost0 h)
    | _ => exact eq_data3 neg hA ra rb h
  | int x => cases y with
    | int y =>
      obtain ⟨t, rfl⟩ := ra
      obtain ⟨u, rfl⟩ := rb
      cases neg with
      | false => exact PyProof.Rows.eq_int (by rw [← ibeq_eq]; exact bpost0 h)
      | true => refine PyProof.Rows.ne_int (by rw [show (x != y) = negB (ibeq x y) by rw [ibeq_eq, negB_eq]; rfl]; exact bpost0 h)
    | _ => exact eq_data3 neg hA ra rb h
  | _ => exact eq_data3 neg hA ra rb h
theorem eq_lists (neg : Bool) {va vb : Value} {a b : V} {xs ys : List V} {Q : Bool → Prop} (hA : Amb R A) (S : Sat X R ρ st s.heap) (ra : RepOf X R ρ st.objs s.heap va a) (rb : RepOf X R ρ st.objs s.heap vb b)
    (ha : isLst st a = true) (hb : isLst st b = true) (ex : itemsOf st a = some xs) (ey : itemsOf st b = some ys)
    (h : eqK.lstEq (fun r => Q (if neg then negB r else r)) xs ys) : wpAny (model X.prog X.w) A (compareOp (if neg then .NotEq else .Eq) va vb) (BPost s Q) Ev s := by
  obtain ⟨p, vs, rfl, rx, hh⟩ := items_at S ra ex
  obtain ⟨q, ws, rfl, ry, hh2⟩ := items_at S rb ey
  have hu : A.units < cLine := by have := hA.units; omega
  have hl : s.heap.IsList p vs.toArray := hh.elim (fun z => z.2) fun z => by rw [ha] at z; cases z.1
  have hm : s.heap.IsList q ws.toArray := hh2.elim (fun z => z.2) fun z => by rw [hb] at z; cases z.1
  have lens : vs.toArray.size ≠ ws.toArray.size → Q (if neg then negB false else false) → wpAny (model X.prog X.w) A (compareOp (if neg then .NotEq else .Eq) (.ref p) (.ref q)) (BPost s Q) Ev s := by
    intro hne hq
    have hne' : (vs.toArray.size != ws.toArray.size) = true := bne_iff_ne.mpr hne
    cases neg with
    | false => exact SeqAt.RcAt.lists_lengths hl hm hne' hu _ _ _ _ (bpost0 hq)
    | true => exact SeqAt.RcNeAt.lists_lengths hl hm hne' hu _ _ _ _ (bpost0 hq)
  have both : ∀ {ds es : List D}, xs = ds.map V.dat → ys = es.map V.dat → dOk 20 (.lst ds) = true → dOk 20 (.lst es) = true → Q (if neg then negB (dbeqs ds es) else dbeqs ds es) →
      wpAny (model X.prog X.w) A (compareOp (if neg then .NotEq else .Eq) (.ref p) (.ref q)) (BPost s Q) Ev s := by
    rintro ds es rfl rfl h1 h2 h3
    obtain ⟨as, r1⟩ := rx.dats.reads (h := s.heap) (fun _ _ f => f.2) 19 h1
    obtain ⟨bs, r2⟩ := ry.dats.reads (h := s.heap) (fun _ _ f => f.2) 19 h2
    obtain ⟨o1, ho1, hc1, n1, hd1⟩ := hl
    obtain ⟨o2, ho2, hc2, n2, hd2⟩ := hm
    have l1 := toP_lay 20 (.lst ds) h1
    have l2 := toP_lay 20 (.lst es) h2
    have hu : A.units + 64 < cLine := by have := hA.units; omega
    have s1 : SeqAt.shaped (toP (.lst ds)) = true := by unfold SeqAt.shaped; rw [l1.1, Bool.true_and]; exact decide_eq_true (Nat.le_trans l1.2 (by decide))
    have s2 : SeqAt.shaped (toP (.lst es)) = true := by unfold SeqAt.shaped; rw [l2.1, Bool.true_and]; exact decide_eq_true (Nat.le_trans l2.2 (by decide))
    have r1' : Reads s.heap (.ref p) (toP (.lst ds)) _ := .list ho1 hc1 hd1 (by simpa using r1)
    have r2' : Reads s.heap (.ref q) (toP (.lst es)) _ := .list ho2 hc2 hd2 (by simpa using r2)
    have e3 : dbeq (.lst ds) (.lst es) = dbeqs ds es := rfl
    cases neg with
    | false => exact eq_dataH r1' r2' s1 s2 hu (by rw [toP_eqv, e3]; exact bpost0 h3)
    | true => exact ne_dataH r1' r2' s1 s2 hu (by rw [toP_eqv, ← negB_eq, e3]; exact bpost0 h3)
  unfold eqK.lstEq at h
  cases xs with
  | nil =>
    cases ys with
    | nil => exact both (ds := []) (es := []) rfl rfl rfl rfl h
    | cons y ys => exact lens (by have h1 := rx.length; have h2 := ry.length; rw [List.length_cons] at *; rw [List.length_nil] at *; rw [List.size_toArray, List.size_toArray]; omega) h
  | cons x xs =>
    cases ys with
    | nil => exact lens (by have h1 := rx.length; have h2 := ry.length; rw [List.length_cons] at *; rw [List.length_nil] at *; rw [List.size_toArray, List.size_toArray]; omega) h
    | cons y ys =>
      obtain ⟨ds, e1, h⟩ := optK_iff h
      obtain ⟨es, e2, h⟩ := optK_iff h
      obtain ⟨g1, h⟩ := ifT_iff h
      obtain ⟨g2, h⟩ := ifT_iff h
      exact both (allDat_eq e1) (allDat_eq e2) g1 g2 h
theorem op_eq (neg : Bool) {va vb : Value} {a b : V} {Q : Bool → Prop} (hA : Amb R A) (S : Sat X R ρ st s.heap) (ra : RepOf X R ρ st.objs s.heap va a) (rb : RepOf X R ρ st.objs s.heap vb b)
    (h : eqK a b st fun r => Q (if neg then negB r else r)) : wpAny (model X.prog X.w) A (compareOp (if neg then .NotEq else .Eq) va vb) (BPost s Q) Ev s := by
  have ll : ∀ {a b : V}, RepOf X R ρ st.objs s.heap va a → RepOf X R ρ st.objs s.heap vb b → isLst st a = true → isLst st b = true → (optK (itemsOf st a) fun xs => optK (itemsOf st b) fun ys => eqK.lstEq (fun r => Q (if neg then negB r else r)) xs ys) →
      wpAny (model X.prog X.w) A (compareOp (if neg then .NotEq else .Eq) va vb) (BPost s Q) Ev s := by
    intro a b ra rb h1 h2 h
    obtain ⟨xs, ex, h⟩ := optK_iff h
    obtain ⟨ys, ey, h⟩ := optK_iff h
    exact eq_lists neg hA S ra rb h1 h2 ex ey h
  cases a with
  | dat x => cases b with
    | dat y => exact eq_D neg hA (ra) (rb) h
    | obj j =>
      dsimp only [eqK] at h
      split at h
      · rename_i e1
        split at h
        · rename_i e2
          exact ll ra rb e2 e1 h
        · exact h.elim
      · exact h.elim
    | _ => exact h.elim
  | obj i =>
    dsimp only [eqK] at h
    split at h
    · rename_i e1
      split at h
      · rename_i e2
        exact ll ra rb e1 e2 h
      · exact h.elim
    · exact h.elim
  | _ => exact h.elim
end
end Mine
namespace Mine
open PySem PySem.W PyProof.Rows PySem.Calls PySem.Spec
noncomputable def leafB : PyData → Bool
  | .str s => PyData.strOk s
  | .int i => iltb 0 i
  | .bool b => negB b
  | _ => false
theorem leaf_by {M : PyData → Prop} {p : PyData} (h : leafB p = true) (h1 : ∀ s, PyData.strOk s = true → M (.str s)) (h2 : ∀ i, iltb 0 i = true → M (.int i)) (h3 : M (.bool false)) : M p := by
  have no : ∀ {p : Prop}, false = true → p := nofun
  cases p with
  | str s => exact h1 s h
  | int i => exact h2 i h
  | bool b => cases b with
    | false => exact h3
    | true => exact no h
  | _ => exact no h
mutual
noncomputable def kOk : Nat → PyData → Bool
  | 0, p => leafB p
  | n + 1, .tuple vs => kOks n vs
  | _, p => leafB p
noncomputable def kOks : Nat → List PyData → Bool
  | _, [] => true
  | n, v :: r => kOk n v && kOks n r
end
mutual
noncomputable def hP (w : World) : PyData → Int
  | .str x => hashStr w x
  | .int i => hashInt i
  | .bool b => hashInt (if b then 1 else 0)
  | .tuple vs => reduceHash (Builtin.Tuple.tupleHashOf (hPs w vs))
  | _ => 0
noncomputable def hPs (w : World) : List PyData → List Int
  | [] => []
  | v :: r => hP w v :: hPs w r
end
mutual
noncomputable def dP : PyData → Nat
  | .tuple vs => dPs vs + 1
  | _ => 1
noncomputable def dPs : List PyData → Nat
  | [] => 0
  | v :: r => dP v + dPs r
end
noncomputable local instance : DecidableEq PyData := fun a b => Classical.propDecidable (a = b)
theorem leaf_keeps {h h' : Heap} {v : Value} {p : PyData} {as : List Addr} (k : leafB p = true) (r : Reads h v p as) : Reads h' v p as := by
  cases r with
  | bool b => exact .bool b
  | int i t => exact .int i t
  | str x t => exact .str x t
  | _ => exact absurd k nofun
theorem kOks_cons {n : Nat} {v : PyData} {r : List PyData} (k : kOks n (v :: r) = true) : kOk n v = true ∧ kOks n r = true := (Bool.and_eq_true _ _).mp k
theorem kOk_zero {p : PyData} : kOk 0 p = leafB p := by cases p <;> rfl
theorem kOk_by {M : PyData → Prop} {n : Nat} {p : PyData} (h : kOk n p = true) (h1 : leafB p = true → M p) (h2 : ∀ m vs, n = m + 1 → kOks m vs = true → M (.tuple vs)) : M p := by
  cases n with
  | zero => exact h1 (kOk_zero.symm.trans h)
  | succ n => cases p with
    | tuple vs => exact h2 n vs rfl h
    | _ => exact h1 h
theorem kOk_ind {M : Nat → PyData → Prop} {Ms : Nat → List PyData → Prop} (h1 : ∀ n p, leafB p = true → M n p) (h2 : ∀ n vs, Ms n vs → M (n + 1) (.tuple vs)) (h3 : ∀ n, Ms n []) (h4 : ∀ n v r, M n v → Ms n r → Ms n (v :: r)) (n : Nat) : ∀ p, kOk n p = true → M n p := by
  have all : ∀ n, (∀ p, kOk n p = true → M n p) → ∀ vs, kOks n vs = true → Ms n vs := fun n ih vs => by
    induction vs with
    | nil => exact fun _ => h3 n
    | cons v r jh => exact fun k => h4 n v r (ih v (kOks_cons k).1) (jh (kOks_cons k).2)
  induction n with
  | zero => exact fun p k => kOk_by k (h1 _ p) nofun
  | succ n ih => exact fun p k => kOk_by k (h1 _ p) fun m vs e h => h2 n vs (all n ih vs (by cases e; exact h))
theorem kOk_lay (n : Nat) (d : PyData) (k : kOk n d = true) : d.canLay0 = true ∧ d.depth ≤ n :=
  kOk_ind (M := fun n d => d.canLay0 = true ∧ d.depth ≤ n) (Ms := fun n ds => PyData.canLayAll0 ds = true ∧ PyData.depthAll ds ≤ n) (fun n _ h => leaf_by (M := fun d => d.canLay0 = true ∧ d.depth ≤ n) h (fun _ h => ⟨h, Nat.zero_le _⟩) (fun _ _ => ⟨rfl, Nat.zero_le _⟩) ⟨rfl, Nat.zero_le _⟩) (fun _ _ h => ⟨h.1, Nat.add_le_add_right h.2 1⟩) (fun _ => ⟨rfl, Nat.zero_le _⟩)
    (fun _ _ _ h g => ⟨(Bool.and_eq_true _ _).mpr ⟨h.1, g.1⟩, Nat.max_le.mpr ⟨h.2, g.2⟩⟩) n d k
theorem pos_ne {i : Int} (h : iltb 0 i = true) : i ≠ 0 := by rintro rfl; exact absurd h nofun
theorem leaf_eqv {p : PyData} (h : leafB p = true) {k : Nat} {e : PyData} (he : kOk k e = true) : PyData.eqv p e = true ↔ p = e := by
  refine leaf_by (M := fun p => PyData.eqv p e = true ↔ p = e) h (fun s _ => ?_) (fun i hi => ?_) ?_
  · refine kOk_by (M := fun e => PyData.eqv (.str s) e = true ↔ .str s = e) he (fun l => leaf_by (M := fun e => PyData.eqv (.str s) e = true ↔ .str s = e) l (fun t _ => ?_) (fun _ _ => ⟨nofun, nofun⟩) ⟨nofun, nofun⟩) fun _ _ _ _ => ⟨nofun, nofun⟩
    rw [PyData.str.injEq]; exact beq_iff_eq
  · refine kOk_by (M := fun e => PyData.eqv (.int i) e = true ↔ .int i = e) he (fun l => leaf_by (M := fun e => PyData.eqv (.int i) e = true ↔ .int i = e) l (fun _ _ => ⟨nofun, nofun⟩) (fun j _ => ?_) ⟨fun q => absurd (beq_iff_eq.mp q) (pos_ne hi), nofun⟩) fun _ _ _ _ => ⟨nofun, nofun⟩
    rw [PyData.int.injEq]; exact beq_iff_eq
  · exact kOk_by (M := fun e => PyData.eqv (.bool false) e = true ↔ .bool false = e) he (fun l => leaf_by (M := fun e => PyData.eqv (.bool false) e = true ↔ .bool false = e) l (fun _ _ => ⟨nofun, nofun⟩) (fun j hj => ⟨fun q => absurd (beq_iff_eq.mp q).symm (pos_ne hj), nofun⟩) ⟨fun _ => rfl, fun _ => rfl⟩) fun _ _ _ _ => ⟨nofun, nofun⟩
theorem kOk_eqv (n k : Nat) (d e : PyData) (hd : kOk n d = true) : kOk k e = true → (PyData.eqv d e = true ↔ d = e) := by
  refine kOk_ind (M := fun _ d => ∀ k e, kOk k e = true → (PyData.eqv d e = true ↔ d = e)) (Ms := fun _ ds => ∀ k es, kOks k es = true → (PyData.eqvAll ds es = true ↔ ds = es)) (fun _ _ l _ _ he => leaf_eqv l he) ?_ ?_ ?_ n d hd k e
  · intro _ vs ih k e he
    refine kOk_by (M := fun e => PyData.eqv (.tuple vs) e = true ↔ .tuple vs = e) he (fun l => leaf_by (M := fun e => PyData.eqv (.tuple vs) e = true ↔ .tuple vs = e) l (fun _ _ => ⟨nofun, nofun⟩) (fun _ _ => ⟨nofun, nofun⟩) ⟨nofun, nofun⟩) fun m ws _ h => ?_
    rw [PyData.tuple.injEq]; exact ih m ws h
  · intro _ _ es _; cases es
    · exact ⟨fun _ => rfl, fun _ => rfl⟩
    · exact ⟨fun h => absurd h nofun, nofun⟩
  · intro _ v r ih jh k es hk; cases es with
    | nil => exact ⟨fun h => absurd h nofun, nofun⟩
    | cons e es =>
      show (PyData.eqv v e && PyData.eqvAll r es) = true ↔ _
      rw [Bool.and_eq_true, List.cons.injEq, ih k e (kOks_cons hk).1, jh k es (kOks_cons hk).2]
theorem kOk_keeps {h h' : Heap} {d : Addr} {o : Obj} {es ep} (ho : h.get? d = some o) (hd : o.data = .dict es ep) (hs : Heap.SameBut d h h') (n : Nat) (p : PyData) (v : Value) (as : List Addr) (k : kOk n p = true) : Reads h v p as → Reads h' v p as := by
  refine kOk_ind (M := fun _ p => ∀ v as, Reads h v p as → Reads h' v p as) (Ms := fun _ ps => ∀ vs as, ReadsAll h vs ps as → ReadsAll h' vs ps as) (fun _ _ l _ _ r => leaf_keeps l r) ?_ ?_ ?_ n p k v as
  · intro _ vs ih v as r
    cases r with
    | tuple h1 h2 h3 h4 =>
      refine .tuple ((hs.2 _ ?_).trans h1) h2 h3 (ih _ _ h4)
      rintro rfl
      obtain rfl := Option.some.inj (ho.symm.trans h1)
      rw [hd] at h3; cases h3
  · intro _ vs as r; cases r; exact .nil
  · intro _ d r ih jh vs as rr
    cases rr with
    | cons a b => exact .cons (ih _ _ a) (jh _ _ b)
section
variable {prog : Program} {w : World} {E : Value → Shared → Prop}
theorem pyHash_false {A : Around} {s : Shared} {Q : Int → Shared → Prop} (h : Q (hashInt 0) { s with toks := s.toks + 1 }) : wpAny (model prog w) A (pyHash (.bool false)) Q E s := by
  have hr := rawHash_range 0
  unfold pyHash
  refine wpAny_bind ?_
  rw [cRoomFor, if_neg (by exact Bool.false_ne_true)]; refine wpAny_pure ?_
  have hT : s.TypeIs (.bool false) "bool" := rfl
  refine wpAny_bind (wpAny_specialOf hT F.slot_bool_hash.lookup ?_)
  show wpAny _ _ (if (some (Value.builtin "int.__hash__") == some Value.none) = true then _ else _) Q E s
  rw [if_neg (by rw [beq_builtin_none]; exact Bool.false_ne_true)]
  refine wpAny_bind (wpAny_specialOf hT F.slot_bool_hash.lookup ?_)
  show wpAny _ _ (callSpecialIfBoundUnlessNone? (.bool false) "__hash__" _ >>= _) Q E s
  refine wpAny_bind (wpAny_callSpecialIfBoundUnlessNone?_slot hT F.slot_bool_hash
    (wpAny_call_entry F.slot_bool_hash hT F.entry_int_hash
      (show wpAny _ _ (do ret (← mkInt (rawHash 0))) _ _ s from wpAny_ret_mkInt ?_) (F.args_int_hash_1 _)))
  show wpAny _ _ (if (decide (-(2 : Int) ^ 63 ≤ rawHash 0) && decide (rawHash 0 < 2 ^ 63)) = true then _ else _) Q E _
  rw [if_pos (by rw [decide_eq_true hr.1, decide_eq_true hr.2]; rfl)]
  exact wpAny_pure h
theorem leaf_hash {A : Around} {s : Shared} {v : Value} {p : PyData} {as : List Addr} {Q : Int → Shared → Prop} (k : leafB p = true) (r : Reads s.heap v p as) (h : Q (hP w p) { s with toks := s.toks + dP p }) : wpAny (model prog w) A (pyHash v) Q E s := by
  cases r with
  | bool b => cases b with
    | false => exact pyHash_false h
    | true => exact absurd k nofun
  | int i t => exact wpAny_pyHash_int h
  | str x t => exact wpAny_pyHash_str h
  | _ => exact absurd k nofun
theorem leaf_quiet {A : Around} {n : Nat} {s : Shared} {v : Value} {p : PyData} {as : List Addr} {Q : Bool → Shared → Prop} (k : leafB p = true) (r : Reads s.heap v p as) (h : Q true s) : wpAny (model prog w) A (eqIsQuiet n v) Q E s := by
  cases r with
  | bool b => rw [eqIsQuiet_byValue _ rfl]; exact wpAny_pure h
  | int i t => rw [eqIsQuiet_byValue _ rfl]; exact wpAny_pure h
  | str x t => rw [eqIsQuiet_byValue _ rfl]; exact wpAny_pure h
  | _ => exact absurd k nofun
theorem in1_units (A : Around) : A.in1.units = A.units + 1 := rfl
theorem hPs_app (w : World) (e : PyData) (l : List PyData) : hPs w (l ++ [e]) = hPs w l ++ [hP w e] := List.rec (motive := fun l => hPs w (l ++ [e]) = hPs w l ++ [hP w e]) rfl (fun y _ ih => congrArg (hP w y :: ·) ih) l
theorem dPs_app (e : PyData) (l : List PyData) : dPs (l ++ [e]) = dPs l + dP e := List.rec (motive := fun l => dPs (l ++ [e]) = dPs l + dP e) (Nat.zero_add _).symm (fun y _ ih => (congrArg (dP y + ·) ih).trans (Nat.add_assoc _ _ _).symm) l
inductive HAt (w : World) (n : Nat) (vs : List PyData) (s : Shared) (rest : List Value) (b : Array Int) (s' : Shared) : Prop
  | mk (done left : List PyData) (cs : List Addr) (e : vs = done ++ left) (r : ReadsAll s.heap rest left cs) (k : kOks n left = true) (hb : b.toList = hPs w done) (hs : s' = { s with toks := s.toks + dPs done })
theorem HAt.end_ {n : Nat} {vs : List PyData} {s s' : Shared} {b : Array Int} (h : HAt w n vs s [] b s') : b.toList = hPs w vs ∧ s' = { s with toks := s.toks + dPs vs } := by
  obtain ⟨done, left, cs, rfl, r, k, hb, rfl⟩ := h
  cases r
  rw [List.append_nil]
  exact ⟨hb, rfl⟩
inductive HStep (w : World) (n : Nat) (vs : List PyData) (s : Shared) (x : Value) (rest : List Value) (b : Array Int) (s' : Shared) : Prop
  | mk (d : PyData) (as : List Addr) (k : kOk n d = true) (r : Reads s'.heap x d as) (next : HAt w n vs s rest (b.push (hP w d)) { s' with toks := s'.toks + dP d })
theorem HAt.step {n : Nat} {vs : List PyData} {s s' : Shared} {b : Array Int} {x : Value} {rest : List Value} (h : HAt w n vs s (x :: rest) b s') : HStep w n vs s x rest b s' := by
  obtain ⟨done, left, cs, rfl, r, k, hb, rfl⟩ := h
  cases r with
  | @cons _ _ d ds as1 as2 h1 hl =>
    exact ⟨d, as1, (kOks_cons k).1, h1, done ++ [d], ds, as2, by rw [List.append_assoc]; rfl, hl, (kOks_cons k).2, by rw [Array.toList_push, hb, hPs_app], by rw [dPs_app, ← Nat.add_assoc]⟩
theorem hash_tup {n : Nat} {vs : List PyData} (ih : ∀ d, kOk n d = true → ∀ (A : Around) (s : Shared) (v : Value) (as : List Addr) (Q : Int → Shared → Prop), Reads s.heap v d as → A.units + n < cLine → Q (hP w d) { s with toks := s.toks + dP d } → wpAny (model prog w) A (pyHash v) Q E s)
    (k : kOks n vs = true) {A : Around} {s : Shared} {v : Value} {as : List Addr} {Q : Int → Shared → Prop} (r : Reads s.heap v (.tuple vs) as) (hu : A.units + (n + 1) < cLine) (h : Q (hP w (.tuple vs)) { s with toks := s.toks + (dPs vs + 1) }) :
    wpAny (model prog w) A (pyHash v) Q E s := by
  cases r with
  | @tuple a o items m xs bs ho hc hd hi =>
  have hT : s.TypeIs (.ref a) "tuple" := ⟨o, ho, hc⟩
  unfold pyHash
  first | unfold pyHashByItsType | skip
  first | refine wpAny_bind (wpAny_cRoomFor_or (.inr (Nat.lt_of_le_of_lt (Nat.add_le_add_left (Nat.le_add_left 1 n) _) hu)) ?_) | refine wpAny_bind (wpAny_cRoomFor_or (.inr (by omega)) ?_) | skip
  refine wpAny_bind (wpAny_specialOf hT F.slot_tuple_hash.lookup ?_)
  show wpAny _ _ (if (some (Value.builtin "tuple.__hash__") == some Value.none) = true then _ else _) Q E s
  rw [if_neg (by rw [beq_builtin_none]; exact Bool.false_ne_true)]
  refine wpAny_bind (wpAny_specialOf hT F.slot_tuple_hash.lookup ?_)
  show wpAny _ _ (callSpecialIfBoundUnlessNone? (.ref a) "__hash__" _ >>= _) Q E s
  refine wpAny_bind (wpAny_callSpecialIfBoundUnlessNone?_slot hT F.slot_tuple_hash (wpAny_call_entry F.slot_tuple_hash hT F.entry_tuple_hash ?_ (F.args_tuple_hash_1 _)))
  show wpAny _ _ (Builtin.Tuple.tupleItemsOf (.ref a) >>= _) _ _ s
  refine wpAny_bind (wpAny_tupleItemsOf ho hd ?_)
  refine wpAny_bind ?_
  rw [← Array.forIn_toList]
  refine wpAny_forIn_list _ (HAt w n vs s) _ (fun x rest b s' H => ?_) (fun b s' H => ?_) _ _ ⟨[], vs, _, rfl, hi, k, rfl, rfl⟩
  · cases H.step with
    | mk d as1 k1 r1 next =>
      refine wpAny_bind (ih d k1 _ _ x _ _ r1 (by rw [in1_units, Nat.add_assoc, Nat.add_comm 1]; exact hu) ?_)
      first
        | exact wpAny_pure next
        | exact wpAny_bind (wpAny_pure (wpAny_pure next))
  · obtain ⟨hb, rfl⟩ := H.end_
    show wpAny _ _ (retInt (Builtin.Tuple.tupleHashOf b.toList)) _ _ _
    rw [hb]
    refine wpAny_ret_mkInt ?_
    show wpAny _ _ (if (decide (-(2 : Int) ^ 63 ≤ Builtin.Tuple.tupleHashOf (hPs w vs)) && decide (Builtin.Tuple.tupleHashOf (hPs w vs) < 2 ^ 63)) = true then _ else _) Q E _
    rw [hP, reduceHash] at h
    by_cases hr : (decide (-(2 : Int) ^ 63 ≤ Builtin.Tuple.tupleHashOf (hPs w vs)) && decide (Builtin.Tuple.tupleHashOf (hPs w vs) < 2 ^ 63)) = true
    · rw [if_pos hr]
      rw [if_pos hr] at h
      exact wpAny_pure h
    · rw [if_neg hr]
      rw [if_neg hr] at h
      exact wpAny_bind (wpAny_rule (wpAny_pure h))
theorem hash_reads (n : Nat) : ∀ (p : PyData), kOk n p = true → ∀ (A : Around) (s : Shared) (v : Value) (as : List Addr) (Q : Int → Shared → Prop), Reads s.heap v p as → A.units + n < cLine →
    Q (hP w p) { s with toks := s.toks + dP p } → wpAny (model prog w) A (pyHash v) Q E s := by
  induction n with
  | zero => exact fun p k _ _ _ _ _ r _ h => leaf_hash (kOk_zero.symm.trans k) r h
  | succ n ih => exact fun p k => kOk_by (M := fun p => ∀ (A : Around) (s : Shared) (v : Value) (as : List Addr) (Q : Int → Shared → Prop), Reads s.heap v p as → A.units + (n + 1) < cLine → Q (hP w p) { s with toks := s.toks + dP p } → wpAny (model prog w) A (pyHash v) Q E s) k (fun l _ _ _ _ _ r _ h => leaf_hash l r h) fun m vs e k _ _ _ _ _ r hu h => by cases e; exact hash_tup ih k r hu h
inductive QLeft (n : Nat) (h : Heap) (rest : List Value) : Prop
  | mk (left : List PyData) (cs : List Addr) (r : ReadsAll h rest left cs) (k : kOks n left = true)
inductive QStep (n : Nat) (h : Heap) (x : Value) (rest : List Value) : Prop
  | mk (d : PyData) (as : List Addr) (k : kOk n d = true) (r : Reads h x d as) (next : QLeft n h rest)
theorem QLeft.step {n : Nat} {h : Heap} {x : Value} {rest : List Value} (q : QLeft n h (x :: rest)) : QStep n h x rest := by
  obtain ⟨left, cs, r, k⟩ := q
  cases r with
  | cons h1 hl => exact ⟨_, _, (kOks_cons k).1, h1, _, _, hl, (kOks_cons k).2⟩
theorem quiet_tup {n : Nat} {vs : List PyData} (ih : ∀ d, kOk n d = true → ∀ (A : Around) (s : Shared) (v : Value) (as : List Addr) (Q : Bool → Shared → Prop), Reads s.heap v d as → Q true s → wpAny (model prog w) A (eqIsQuiet n v) Q E s)
    (k : kOks n vs = true) {A : Around} {s : Shared} {v : Value} {as : List Addr} {Q : Bool → Shared → Prop} (r : Reads s.heap v (.tuple vs) as) (h : Q true s) : wpAny (model prog w) A (eqIsQuiet (n + 1) v) Q E s := by
  cases r with
  | @tuple a o items m xs bs ho hc hd hi =>
  have hT : s.TypeIs (.ref a) "tuple" := ⟨o, ho, hc⟩
  unfold eqIsQuiet
  refine wpAny_bind (wpAny_specialOf hT F.slot_tuple_eq.lookup ?_)
  show wpAny _ _ (isInstance (.ref a) (.type "tuple") >>= _) _ _ s
  refine wpAny_bind (wpAny_isInstance hT isSubtype_tuple_tuple (wpAny_bind (wpAny_seqItems ho hd (wpAny_bind ?_))))
  show wpAny _ _ (forIn items _ _) _ _ s
  rw [← Array.forIn_toList]
  refine wpAny_forIn_list _ (fun rest r s' => (r.1 = none ∧ s' = s) ∧ QLeft n s.heap rest) _ (fun v rest r s' H => ?_) (fun r s' H => ?_) _ _ ⟨⟨rfl, rfl⟩, vs, _, hi, k⟩
  · rw [H.1.2]
    cases H.2.step with
    | mk d as k1 r1 next => exact wpAny_bind (ih d k1 _ _ v _ _ r1 (wpAny_pure ⟨⟨rfl, rfl⟩, next⟩))
  · dsimp only
    rw [H.1.1, H.1.2]
    exact wpAny_pure h
theorem quiet_reads (n : Nat) : ∀ (p : PyData), kOk n p = true → ∀ (A : Around) (s : Shared) (v : Value) (as : List Addr) (Q : Bool → Shared → Prop), Reads s.heap v p as → Q true s → wpAny (model prog w) A (eqIsQuiet n v) Q E s := by
  induction n with
  | zero => exact fun p k _ _ _ _ _ r h => leaf_quiet (kOk_zero.symm.trans k) r h
  | succ n ih => exact fun p k => kOk_by (M := fun p => ∀ (A : Around) (s : Shared) (v : Value) (as : List Addr) (Q : Bool → Shared → Prop), Reads s.heap v p as → Q true s → wpAny (model prog w) A (eqIsQuiet (n + 1) v) Q E s) k (fun l _ _ _ _ _ r h => leaf_quiet l r h) fun m vs e k _ _ _ _ _ r h => by cases e; exact quiet_tup ih k r h
end
noncomputable def IsKey (h : Heap) (k : PyData) (a : Addr) : Prop := ∃ as, Reads h (.ref a) k as ∧ kOk 8 k = true
noncomputable def tupKind (prog : Program) (w : World) : HeapKind prog w PyData where
  is := IsKey
  hash := hP w
  draws := dP
  room := fun A => A.units + 16 < cLine
  inj := by
    rintro h a x y ⟨as, r, k⟩ ⟨bs, r', k'⟩
    exact SeqAt.Reads.unique x y _ _ _ (kOk_lay _ _ k).1 r r'
  keeps := by
    rintro h h' k a d o es ep ⟨as, r, kk⟩ ho hd hs
    exact ⟨as, kOk_keeps ho hd hs 8 k _ _ kk r, kk⟩
  pyHash := by
    rintro A E s k a Q hu ⟨as, r, kk⟩ h
    exact hash_reads 8 k kk A s _ _ _ r (by omega) h
  eqBool := by
    rintro A E s x y a b Q hu ⟨as, r, kk⟩ ⟨bs, r', kk'⟩ h
    refine SeqAt.eqAt_reads x y A s _ _ _ _ r r' (kOk_lay _ _ kk).1 (kOk_lay _ _ kk').1 ?_ prog w E Q ?_
    · have := (kOk_lay _ _ kk).2; omega
    · have : PyData.eqv x y = decide (x = y) := by rw [Bool.eq_iff_iff, decide_eq_true_iff]; exact kOk_eqv 8 8 x y kk kk'
      rw [this]; exact h
  quiet := by
    rintro A E s k a Q ⟨as, r, kk⟩ h
    exact quiet_reads 8 k kk A s _ _ _ r h
end Mine
namespace Mine
open PySem PySem.W PyProof.Rows PySem.Calls PySem.Spec
noncomputable local instance : DecidableEq PyData := fun a b => Classical.propDecidable (a = b)
theorem keyOk_go {n : Nat} {d : D} {r : List D} (k : keyOk.go n (d :: r) = true) : keyOk n d = true ∧ keyOk.go n r = true := by
  have k' : (match keyOk n d with | true => keyOk.go n r | false => false) = true := k
  cases q : keyOk n d with
  | true => rw [q] at k'; exact ⟨rfl, k'⟩
  | false => rw [q] at k'; exact absurd k' nofun
theorem keyOk_zero {d : D} : keyOk 0 d = leafD d := by cases d <;> rfl
theorem keyOk_by {M : D → Prop} {n : Nat} {d : D} (h : keyOk n d = true) (h1 : leafD d = true → M d) (h2 : ∀ m vs, n = m + 1 → keyOk.go m vs = true → M (.tup vs)) : M d := by
  cases n with
  | zero => exact h1 (keyOk_zero.symm.trans h)
  | succ n => cases d with
    | tup vs => exact h2 n vs rfl h
    | _ => exact h1 h
theorem keyOk_ind {M : Nat → D → Prop} {Ms : Nat → List D → Prop} (h1 : ∀ n d, leafD d = true → M n d) (h2 : ∀ n vs, Ms n vs → M (n + 1) (.tup vs)) (h3 : ∀ n, Ms n []) (h4 : ∀ n v r, M n v → Ms n r → Ms n (v :: r)) (n : Nat) : ∀ p, keyOk n p = true → M n p := by
  have all : ∀ n, (∀ p, keyOk n p = true → M n p) → ∀ vs, keyOk.go n vs = true → Ms n vs := fun n ih vs => by
    induction vs with
    | nil => exact fun _ => h3 n
    | cons v r jh => exact fun k => h4 n v r (ih v (keyOk_go k).1) (jh (keyOk_go k).2)
  induction n with
  | zero => exact fun p k => keyOk_by k (h1 _ p) nofun
  | succ n ih => exact fun p k => keyOk_by k (h1 _ p) fun m vs e h => h2 n vs (all n ih vs (by cases e; exact h))
theorem leaf_facts (n : Nat) (d : D) (k : leafD d = true) : kOk n (toP d) = true ∧ dOk n d = true ∧ hashD X.w.params d = hP X.w (toP d) := by
  cases d with
  | str s => cases n <;> exact ⟨sOk_ok k, k, rfl⟩
  | int i => cases n <;> exact ⟨k, rfl, rfl⟩
  | bool b => cases n <;> exact ⟨k, rfl, rfl⟩
  | _ => exact absurd k nofun
theorem band_both {a b : Bool} (x : a = true) (y : b = true) : (a && b) = true := by rw [x, y]; rfl
theorem key_facts (n : Nat) (d : D) (k : keyOk n d = true) : kOk n (toP d) = true ∧ dOk n d = true ∧ hashD X.w.params d = hP X.w (toP d) :=
  keyOk_ind (M := fun n d => kOk n (toP d) = true ∧ dOk n d = true ∧ hashD X.w.params d = hP X.w (toP d)) (Ms := fun n ds => kOks n (toPs ds) = true ∧ dOk.all' n ds = true ∧ hashDs X.w.params ds = hPs X.w (toPs ds))
    leaf_facts (fun _ _ h => ⟨h.1, h.2.1, congrArg (fun l => reduceHash (Builtin.Tuple.tupleHashOf l)) h.2.2⟩) (fun n => by cases n <;> exact ⟨rfl, rfl, rfl⟩)
    (fun n v r h g => ⟨band_both h.1 g.1, (band2_eq _ _).trans (band_both h.2.1 g.2.1), by show _ :: _ = _ :: _; rw [h.2.2, g.2.2]⟩) n d k
theorem keyOk_eq {d e : D} (hd : keyOk 8 d = true) (he : keyOk 8 e = true) : dbeq d e = decide (toP d = toP e) := by
  rw [← toP_eqv d e, Bool.eq_iff_iff, decide_eq_true_iff]
  exact kOk_eqv 8 8 _ _ (key_facts 8 d hd).1 (key_facts 8 e he).1
noncomputable def RX (ρ : List Addr) (src xa : Option Addr) (F : Vw) : List (PyData × Addr × Value) → List (D × V) → Prop
  | xs, [] => xs = []
  | xs, (k, d) :: kvs => ∃ a v r, xs = (toP k, a, v) :: r ∧ (keyOk 8 k = true ∧ DRep X.w.params src F (.ref a) k ∧ Rep X.w.params src xa ρ F v d) ∧ RX ρ src xa F r kvs
theorem allTupK_cons {k : D} {v : V} {r : List (D × V)} (h : allTupK ((k, v) :: r) = true) : isTupD k = true ∧ keyOk 8 k = true ∧ lookK r k = none ∧ allTupK r = true := by
  cases k with
  | tup vs =>
    have h' : (match keyOk 8 (.tup vs) with | true => (match lookK r (.tup vs) with | none => allTupK r | some _ => false) | false => false) = true := h
    cases q : keyOk 8 (.tup vs) with
    | false => rw [q] at h'; exact absurd h' nofun
    | true =>
      rw [q] at h'
      cases q2 : lookK r (.tup vs) with
      | some _ => rw [q2] at h'; exact absurd h' nofun
      | none => rw [q2] at h'; exact ⟨rfl, rfl, rfl, h'⟩
  | _ => exact absurd h nofun
section
variable {src xa : Option Addr} {ρ : List Addr} {F : Vw} {h : Heap}
theorem DRep.isKey (hF : ∀ a o, F a o → h.get? a = some o) {a : Addr} {k : D} (r : DRep X.w.params src F (.ref a) k) (hk : keyOk 8 k = true) : IsKey h (toP k) a :=
  (r.reads hF 8 (key_facts 8 k hk).2.1).imp fun _ q => ⟨q, (key_facts 8 k hk).1⟩
theorem DRep.tup_inv {P : Params} {v : Value} {k : D} (r : DRep P src F v k) (h : isTupD k = true) : ∃ a, v = .ref a := by
  cases k with
  | tup _ => exact r.elim fun _ r => r.1.imp fun _ r => r.elim fun _ r => r.elim fun _ r => r.1
  | _ => exact absurd h nofun
theorem RX.atKey {kvs : List (D × V)} {k : D} (hk : keyOk 8 k = true) : ∀ {xs : List (PyData × Addr × Value)}, RX ρ src xa F xs kvs →
    OptR (fun v p => Rep X.w.params src xa ρ F p.2 v) (lookK kvs k) (PySem.atKey xs (toP k)) := by
  induction kvs with
  | nil => intro xs r; cases r; trivial
  | cons p kvs ih =>
    obtain ⟨k', d⟩ := p
    rintro xs ⟨a, v, r, rfl, h1, h2⟩
    show OptR _ (match dbeq k' k with | true => some d | false => lookK kvs k) (Option.map _ (List.find? _ (_ :: _)))
    rw [keyOk_eq h1.1 hk, List.find?_cons]
    cases q : decide (toP k' = toP k) with
    | true => exact h1.2.2
    | false => exact ih h2
theorem RX.entries {kvs : List (D × V)} : ∀ {xs : List (PyData × Addr × Value)}, RX ρ src xa F xs kvs → RepK X.w.params src xa ρ F (xs.map (entryOfKey (tupKind X.prog X.w))) kvs := by
  induction kvs with
  | nil => intro xs r; cases r; rfl
  | cons p kvs ih =>
    obtain ⟨k', d⟩ := p
    rintro xs ⟨a, v, r, rfl, h1, h2⟩
    exact ⟨_, _, rfl, h1.2, (key_facts 8 k' h1.1).2.2.symm, ih h2⟩
theorem RepK.tups {kvs : List (D × V)} : ∀ {es : List DictEntry}, RepK X.w.params src xa ρ F es kvs → allTupK kvs = true → ∃ xs, RX ρ src xa F xs kvs ∧ es = xs.map (entryOfKey (tupKind X.prog X.w)) := by
  induction kvs with
  | nil => intro es r _; cases r; exact ⟨[], rfl, rfl⟩
  | cons p kvs ih =>
    obtain ⟨k', d⟩ := p
    rintro es ⟨⟨hash, key, val⟩, es, rfl, h1, h2, h3⟩ ha
    obtain ⟨g1, g2, _, g4⟩ := allTupK_cons ha
    obtain ⟨a, rfl⟩ := DRep.tup_inv h1.1 g1
    obtain ⟨xs, e1, rfl⟩ := ih h3 g4
    exact ⟨_, ⟨a, val, xs, rfl, ⟨g2, h1⟩, e1⟩, by rw [show hash = _ from h2, (key_facts 8 k' g2).2.2]; rfl⟩
theorem RX.nodup {kvs : List (D × V)} : ∀ {xs : List (PyData × Addr × Value)}, RX ρ src xa F xs kvs → allTupK kvs = true → (xs.map (·.1)).Nodup := by
  induction kvs with
  | nil => intro xs r _; cases r; exact List.nodup_nil
  | cons p kvs ih =>
    obtain ⟨k', d⟩ := p
    rintro xs ⟨a, v, r, rfl, h1, h2⟩ ha
    obtain ⟨_, g2, g3, g4⟩ := allTupK_cons ha
    refine List.nodup_cons.mpr ⟨fun m => ?_, ih h2 g4⟩
    obtain ⟨x, hx, e1⟩ := List.mem_map.mp m
    exact List.find?_eq_none.mp (Option.map_eq_none_iff.mp ((RX.atKey g2 h2).none g3)) x hx (decide_eq_true e1)
theorem RX.mem (hF : ∀ a o, F a o → h.get? a = some o) {kvs : List (D × V)} : ∀ {xs : List (PyData × Addr × Value)}, RX ρ src xa F xs kvs → ∀ x ∈ xs, IsKey h x.1 x.2.1 := by
  induction kvs with
  | nil => intro xs r x hx; cases r; cases hx
  | cons p kvs ih =>
    obtain ⟨k', d⟩ := p
    rintro xs ⟨a, v, r, rfl, h1, h2⟩ x hx
    rcases List.mem_cons.mp hx with rfl | hx
    · exact h1.2.1.isKey hF h1.1
    · exact ih h2 x hx
end
structure Lc where
  R : Rn
  A : Around
  s : Shared
  ρ : List Addr
  st : St
  hA : Amb R A
  S : Sat X R ρ st s.heap
noncomputable def TPost (s : Shared) (Q : Bool → Prop) : Bool → Shared → Prop := fun b s' => ∃ tk, s' = { s with toks := tk } ∧ Q b
noncomputable def NoE : Value → Shared → Prop := fun _ _ => False
section
variable (c : Lc)
noncomputable abbrev Lc.F : Vw := vwOf X c.R c.ρ c.st.objs c.s.heap
noncomputable abbrev Lc.rep : Value → V → Prop := RepOf X c.R c.ρ c.st.objs c.s.heap
noncomputable abbrev Lc.reps : List Value → List V → Prop := RepsOf X c.R c.ρ c.st.objs c.s.heap
noncomputable abbrev Lc.drep : Value → D → Prop := DRep X.w.params c.R.src c.F
noncomputable abbrev Lc.drepK : List DictEntry → List (D × V) → Prop := RepK X.w.params c.R.src c.R.xa c.ρ c.F
noncomputable abbrev Lc.post (Q : V → St → Prop) : Value → Shared → Prop := Post X c.R c.ρ c.st.objs c.s relV Q
noncomputable abbrev Lc.postU (Q : St → Prop) : Unit → Shared → Prop := Post X c.R c.ρ c.st.objs c.s relU fun _ => Q
noncomputable abbrev Lc.wp {α : Type} (t : Sem α) (Q : α → Shared → Prop) : Prop := wpAny (model X.prog X.w) c.A t Q NoE c.s
noncomputable abbrev Lc.run (t : Sem Value) (Q : V → St → Prop) : Prop := c.wp t (c.post Q)
noncomputable abbrev Lc.cmp (t : Sem Value) (Q : Bool → Prop) : Prop := c.wp t (BPost c.s Q)
end
section
variable {c : Lc} {va vb : Value} {a b : V} {Q : Bool → Prop}
theorem Lc.at_ {d : V} {v : Value} {Q : V → St → Prop} (r : c.rep v d) (q : Q d c.st) (tk : Nat) : c.post Q v { c.s with toks := tk } := post_at c.S r q tk
theorem Lc.here {d : V} {v : Value} {Q : V → St → Prop} (r : c.rep v d) (q : Q d c.st) : c.post Q v c.s := post_here c.S r q
theorem Lc.sees {a : Addr} {o : Obj} (f : c.F a o) : c.s.heap.get? a = some o := f.2
theorem Lc.room (k : Nat) (hk : k ≤ 100) : c.A.units + k < cLine := Nat.lt_of_lt_of_le (Nat.add_lt_add_of_le_of_lt (Nat.le_add_right _ (100 * c.R.d)) (Nat.lt_of_le_of_lt hk (by decide))) c.hA.units
theorem strs_in {es : List DictEntry} {kvs : List (D × V)} (r : c.drepK es kvs) (ha : allStrK kvs = true) (y : Str) : OptR (fun v w => c.rep w v) (lookK kvs (.str y.cps.toList)) (findBy Value.isStrOf es.toArray y) := by
  rw [findBy_list]; exact r.find ha y
theorem fits_inv {kvs : List (D × V)} {k : D} {v : Value} {p : Prop} (h : keyFits kvs k = true) (r : c.drep v k) (h1 : ∀ y t, v = .str y t → k = .str y.cps.toList → allStrK kvs = true → p)
    (h2 : ∀ a, v = .ref a → isTupD k = true → keyOk 8 k = true → allTupK kvs = true → p) : p := by
  unfold keyFits at h
  cases q : isStrD k with
  | true =>
    rw [q] at h
    cases k with
    | str _ => obtain ⟨y, t, e, rfl⟩ := r; exact h1 y t e rfl h
    | _ => exact absurd q nofun
  | false =>
    rw [q] at h
    have h' : band2 (isTupD k) (band2 (keyOk 8 k) (allTupK kvs)) = true := h
    rw [band2_eq, band2_eq, Bool.and_eq_true, Bool.and_eq_true] at h'
    exact (DRep.tup_inv r h'.1).elim fun a e => h2 a e h'.1 h'.2.1 h'.2.2
theorem tupDict {a : Addr} {es : List DictEntry} {n : Nat} {kvs : List (D × V)} (e : c.s.heap.get? a = some (dictOf es n)) (r : c.drepK es kvs) (ha : allTupK kvs = true) : ∃ xs, RX c.ρ c.R.src c.R.xa c.F xs kvs ∧ es = xs.map (entryOfKey (tupKind X.prog X.w)) ∧ c.s.heap.DictOfH (tupKind X.prog X.w) a xs :=
  (r.tups ha).imp fun xs h => ⟨h.1, h.2, _, es.toArray, n, e, ⟨rfl, rfl, rfl⟩, rfl, h.2, h.1.mem (fun _ _ f => f.2), h.1.nodup ha⟩
theorem not_in (h : c.cmp (compareOp .In va vb) fun r => Q (negB r)) : c.cmp (compareOp .NotIn va vb) Q := by
  have h' : c.cmp (do return .bool (← contains vb va)) fun r => Q (negB r) := h
  show c.cmp (do return .bool (!(← contains vb va))) Q
  intro Γ p hΓ
  have h2 := h' Γ p hΓ
  rw [Sem.wp_bind'] at h2 ⊢
  refine Sem.wp_mono _ _ _ ?_ (fun _ _ _ e => e) _ _ h2
  rintro b p' s' ⟨t, tk, e1, e2, q⟩
  cases e1
  exact ⟨_, tk, rfl, e2, negB_eq b ▸ q⟩
theorem in_dict {vk : Value} {k : D} {kvs : List (D × V)} (h : KvsAt c.R c.ρ c.st c.s.heap vb kvs) (r : c.drep vk k) (f : keyFits kvs k = true) (q : Q (lookK kvs k).isSome) : c.cmp (compareOp .In vk vb) Q := by
  obtain ⟨d, es, n, rfl, l3, e, rk⟩ := h
  refine fits_inv f r (fun y t e1 e2 ha => ?_) fun p e1 ht hk ha => ?_
  · cases e1; cases e2
    exact wpAny_in_of (strKind_is _ _ _ _) (notSys l3) (mapOf_rep e rk ha) (bpost ((strs_in rk ha y).isSome ▸ q) _)
  · cases e1
    obtain ⟨xs, rx, _, hd⟩ := tupDict e rk ha
    exact wpAny_in_heap (c.room 17 (by decide)) (r.isKey (fun _ _ f => f.2) hk) (notSys l3) hd (bpost ((rx.atKey hk).isSome ▸ q) _)
theorem inL_any {x : D} {ds : List D} : ((toPs ds).any fun y => PyData.eqv y (toP x)) = inL x ds := by
  induction ds with
  | nil => rfl
  | cons d r ih =>
    show (PyData.eqv (toP d) (toP x) || _) = (match dbeq d x with | true => true | false => inL x r)
    rw [toP_eqv, ih]
    cases dbeq d x <;> rfl
theorem op_in (ra : c.rep va a) (rb : c.rep vb b) (h : inK a b c.st Q) : c.cmp (compareOp .In va vb) Q := by
  obtain ⟨x, ex, h⟩ := optK_iff h
  obtain rfl : a = .dat x := by cases a with | dat _ => exact congrArg _ (Option.some.inj ex) | _ => exact no ex
  rcases altK_iff h with ⟨kvs, q, h⟩ | h
  · exact in_dict (kvs_at c.S rb q) ra (ifT_iff h).1 (ifT_iff h).2
  · obtain ⟨ys, ey, h⟩ := optK_iff h
    obtain ⟨ds, ed, h⟩ := optK_iff h
    obtain ⟨hx, h⟩ := ifT_iff (ifT_iff h).2
    obtain ⟨hd, hq⟩ := ifT_iff h
    obtain ⟨a, items, rfl, rr, hh⟩ := items_at c.S rb ey
    rw [allDat_eq ed] at rr
    obtain ⟨bs, rx⟩ := DRep.reads (h := c.s.heap) (fun _ _ f => f.2) 19 ra hx
    obtain ⟨as, ry⟩ := rr.dats.reads (h := c.s.heap) (fun _ _ f => f.2) 19 hd
    have hroom : c.A.units + 1 + min (PyData.depthAll (toPs ds)) (toP x).depth < cLine := Nat.lt_of_le_of_lt (Nat.add_le_add_left (Nat.le_trans (Nat.min_le_right _ _) (toP_lay 19 _ hx).2) _) (c.room 20 (by decide))
    rw [← inL_any] at hq
    rcases hh with ⟨_, o, ho, hc, n, hdd⟩ | ⟨_, ⟨o, ho, hc, n, hdd⟩, _⟩
    · exact SeqAt.in_list_reads (.list ho hc hdd ry) rx (toPs_lay 19 ds hd).1 (toP_lay 19 _ hx).1 hroom (bpost0 hq)
    · exact SeqAt.in_tuple_reads (.tuple ho hc hdd ry) rx (toPs_lay 19 ds hd).1 (toP_lay 19 _ hx).1 hroom (bpost0 hq)
theorem rep_non (r : c.rep va a) (e : isNon a = true) : va = .none := by
  cases a with
  | dat d => cases d with
    | none => exact r
    | _ => exact absurd e nofun
  | _ => exact absurd e nofun
noncomputable def Form (v : Value) (b : Bool) : Prop := handedIn v = true ∧ (b = false → (v == .none) = false)
theorem form_ref {v : Value} {b : Addr} (e : v = .ref b) : Form v false := by rw [e]; exact ⟨rfl, fun _ => rfl⟩
theorem rep_form (r : c.rep va a) (h2 : isRaw a = false) : Form va (isNon a) := by
  cases a with
  | dat d => cases d with
    | none => cases r; exact ⟨rfl, nofun⟩
    | bool b => cases r; exact ⟨rfl, fun _ => rfl⟩
    | int i => exact r.elim fun _ e => by rw [e]; exact ⟨rfl, fun _ => rfl⟩
    | str i => exact r.elim fun _ r => r.elim fun _ e => by rw [e.1]; exact ⟨rfl, fun _ => rfl⟩
    | tup _ => exact r.elim fun _ r => r.1.elim fun _ r => r.elim fun _ r => r.elim fun _ e => form_ref e.1
    | lst _ => exact r.elim fun _ r => r.1.elim fun _ r => r.elim fun _ r => r.elim fun _ e => form_ref e.1
    | dct _ => exact r.elim fun _ r => r.1.elim fun _ r => r.elim fun _ e => form_ref e.1
    | ins _ _ => exact r.elim fun _ r => r.1.elim fun _ e => form_ref e.1
    | src => exact r.elim fun _ e => form_ref e.1
    | raw _ => exact absurd h2 nofun
  | tup _ => exact r.elim fun _ r => r.1.elim fun _ r => r.elim fun _ r => r.elim fun _ e => form_ref e.1
  | ins _ _ => exact r.elim fun _ r => r.1.elim fun _ e => form_ref e.1
  | lvi _ _ => exact r.elim fun _ r => r.1.elim fun _ e => form_ref e.1
  | obj _ => exact r.elim fun _ e => form_ref e.1
  | ext => exact r.elim fun _ e => form_ref e.1
  | exi _ => exact r.elim fun _ r => r.1.elim fun _ e => form_ref e.1
theorem branch_iff {b : Bool} {x y : Prop} (h : branch b x y) : (b = true ∧ x) ∨ (b = false ∧ y) := by
  cases b with
  | true => exact .inl ⟨rfl, h⟩
  | false => exact .inr ⟨rfl, h⟩
theorem is_val (ra : c.rep va a) (rb : c.rep vb b) (h : isK a b Q) : vb = .none ∧ Q (va == .none) := by
  obtain ⟨h1, h⟩ := ifT_iff h
  refine ⟨rep_non rb h1, ?_⟩
  rcases branch_iff h with ⟨e, h⟩ | ⟨e, h⟩
  · rw [rep_non ra e]; exact h
  · rcases branch_iff h with ⟨_, h⟩ | ⟨e2, h⟩
    · exact h.elim
    · rw [(rep_form ra e2).2 e]; exact h
theorem two_ints {Z : Int → Int → Prop} (ra : c.rep va a) (rb : c.rep vb b) (h : twoInts a b Z) : ∃ x y t u, va = .int x t ∧ vb = .int y u ∧ Z x y := by
  obtain ⟨x, ex, h⟩ := optK_iff h
  obtain ⟨y, ey, h⟩ := optK_iff h
  obtain ⟨t, et⟩ := int_at ra ex
  obtain ⟨u, eu⟩ := int_at rb ey
  exact ⟨x, y, t, u, et, eu, h⟩
theorem le_neg (x y : Int) : decide (y ≤ x) = negB (iltb x y) := by rw [iltb_eq, negB_eq, ← decide_not]; exact decide_eq_decide.mpr Int.not_lt.symm
theorem op_cmp {op : CmpOp} (ra : c.rep va a) (rb : c.rep vb b) (h : cmpK op a b c.st Q) : c.cmp (compareOp op va vb) Q := by
  cases op with
  | Eq => exact op_eq false c.hA c.S ra rb h
  | NotEq => exact op_eq true c.hA c.S ra rb h
  | In => exact op_in ra rb h
  | NotIn => exact not_in (op_in ra rb h)
  | Is => obtain ⟨rfl, h⟩ := is_val ra rb h; exact is_none (bpost0 h)
  | IsNot => obtain ⟨rfl, h⟩ := is_val (Q := fun r => Q (negB r)) ra rb h; exact isNot_none (bpost0 (negB_eq _ ▸ h))
  | Lt => obtain ⟨x, y, t, u, rfl, rfl, h⟩ := two_ints ra rb h; exact PyProof.Rows.lt_int (iltb_eq .. ▸ bpost0 h)
  | Gt => obtain ⟨x, y, t, u, rfl, rfl, h⟩ := two_ints ra rb h; exact PyProof.Rows.gt_int (iltb_eq .. ▸ bpost0 h)
  | GtE => obtain ⟨x, y, t, u, rfl, rfl, h⟩ := two_ints ra rb h; exact PyProof.Rows.ge_int (le_neg .. ▸ bpost0 h)
  | LtE => obtain ⟨x, y, t, u, rfl, rfl, h⟩ := two_ints ra rb h; exact PyProof.Rows.le_int (le_neg .. ▸ bpost0 h)
end
end Mine
namespace Mine
open PySem PySem.W PyProof.Rows PySem.Calls PySem.Spec
noncomputable local instance : DecidableEq PyData := fun a b => Classical.propDecidable (a = b)
section
variable {A : Around} {E : Value → Shared → Prop} {s : Shared} {env : Env}
theorem sub_run {prog : Program} {w : World} {value slice : Expr} {pos : Pos} {Q : Value → Shared → Prop} (hs : ∀ o i, ∃ ops, subscripted slice false o i = operate ops (getItem o i))
    (h : wpAny (model prog w) A (eval value env) (fun o s₁ => wpAny (model prog w) A (eval slice env) (fun i s₂ => ItemOn (model prog w) A E o i Q s₂) E s₁) E s) : wpAny (model prog w) A (eval (.Subscript value slice pos) env) Q E s := by
  rw [eval_Subscript]
  refine wpAny_bind (wpAny_mono h (fun o s₁ h₁ => wpAny_bind (wpAny_holding (wpAny_mono h₁ (fun i s₂ h₂ => wpAny_bind (wpAny_standAt ?_)) fun _ _ x => x))) fun _ _ x => x)
  exact h₂.elim fun T h => h.elim fun id h => (hs o i).elim fun ops e => tail_any h.2.1 h.1 h.2.2 e
end
theorem onlyIf_iff {α : Type} {b : Bool} {x y : α} (h : onlyIf b x = some y) : b = true ∧ x = y := by
  cases b with
  | true => exact ⟨rfl, Option.some.inj h⟩
  | false => exact no h
theorem fit63 {n : Nat} (h : n ≤ 100000) : (n : Int) < 2 ^ 63 := Int.lt_of_le_of_lt (Int.ofNat_le.mpr h) (by decide)
theorem idx_ok {k : Int} {n j : Nat} (e : idxOf false k n = some j) (hn : n ≤ 100000) : seqIndex? k n = some j ∧ -(2 ^ 63) ≤ k ∧ k < 2 ^ 63 := by
  cases k with
  | ofNat i =>
    obtain ⟨h, rfl⟩ := onlyIf_iff e
    have : i < n := Nat.le_of_ble_eq_true h
    exact ⟨seqIndex_of (Int.natCast_nonneg i) (Int.ofNat_lt.mpr this), Int.le_trans (by decide) (Int.natCast_nonneg i), fit63 (Nat.le_trans (Nat.le_of_lt this) hn)⟩
  | negSucc i =>
    obtain ⟨h, rfl⟩ := onlyIf_iff e
    have : i < n := Nat.le_of_ble_eq_true h
    have e1 : ((n - (i + 1) : Nat) : Int) = Int.negSucc i + n := by rw [Int.ofNat_sub this, Int.negSucc_eq]; omega
    refine ⟨?_, by omega, by omega⟩
    unfold seqIndex?
    rw [if_pos (Int.negSucc_lt_zero i), ← e1]
    exact if_pos (by rw [Bool.and_eq_true, decide_eq_true_iff, decide_eq_true_iff]; exact ⟨Int.natCast_nonneg _, Int.ofNat_lt.mpr (by omega)⟩)
theorem idx_lst {k : Int} {n j : Nat} (e : idxOf true k n = some j) (hn : n ≤ 100000) : k = j ∧ k < 2 ^ 63 := by
  cases k with
  | ofNat i =>
    obtain ⟨h, rfl⟩ := onlyIf_iff e
    exact ⟨rfl, fit63 (Nat.le_trans (Nat.le_of_ble_eq_true h) (Nat.le_trans hn (Nat.le_refl _)) |> Nat.le_of_succ_le)⟩
  | negSucc i => exact no e
noncomputable abbrev Lc.item (c : Lc) (o i : Value) (Q : V → St → Prop) : Prop := ItemOn (model X.prog X.w) c.A NoE o i (c.post Q) c.s
section
variable {c : Lc} {va vo vi : Value} {a o i : V} {Q : V → St → Prop}
theorem ibeq_one {k j : Int} (h : ibeq k j = true) : k = j := eq_of_beq (ibeq_eq k j ▸ h)
theorem size_of {items : List Value} {vs : List V} (r : c.reps items vs) (h : len' vs ≤ 100000) : items.toArray.size = len' vs ∧ items.toArray.size ≤ 100000 := by
  have e : items.toArray.size = len' vs := r.length.trans (len'_eq vs).symm
  exact ⟨e, e ▸ h⟩
theorem bool_at {b : Bool} (r : c.rep va a) (e : boolOf a = some b) : (va = .none ∧ b = false) ∨ va = .bool b := by
  cases a with
  | dat d => cases d with
    | none => exact .inl ⟨r, (Option.some.inj e).symm⟩
    | bool x => exact .inr (r.trans (congrArg _ (Option.some.inj e)))
    | _ => exact no e
  | _ => exact no e
theorem lst_here {vs : List V} (r : c.rep va a) (e : itemsOf c.st a = some vs) (l : isLst c.st a = true) : ∃ l items, va = .ref l ∧ c.reps items vs ∧ c.s.heap.IsList l items.toArray := by
  obtain ⟨p, items, h1, h2, ⟨_, h3⟩ | ⟨h3, _⟩⟩ := items_at c.S r e
  · exact ⟨p, items, h1, h2, h3⟩
  · exact absurd (l.symm.trans h3) nofun
theorem op_truth {Q : Bool → Prop} (r : c.rep va a) (h : truthK a c.st Q) : c.wp (truthy va) (TPost c.s Q) := by
  rcases altK_iff h with ⟨b, e, h⟩ | h
  · rcases bool_at r e with ⟨rfl, rfl⟩ | rfl
    · exact truthy_none ⟨c.s.toks, rfl, h⟩
    · exact wpAny_truthy_bool ⟨c.s.toks, rfl, h⟩
  · obtain ⟨hl, h⟩ := ifT_iff h
    obtain ⟨xs, ex, h⟩ := optK_iff h
    obtain ⟨hz, hq⟩ := small_iff h
    obtain ⟨l, items, rfl, rr, hh⟩ := lst_here r ex hl
    refine wpAny_truthy_list hh (fit63 (size_of rr hz).2) ⟨_, rfl, ?_⟩
    cases xs with
    | nil => cases rr; exact hq
    | cons x xs => exact rr.elim fun v rr => rr.elim fun w rr => by rw [rr.1]; exact hq
theorem src_at (r : c.rep va a) (e : isSrc a = true) : ∃ p, va = .ref p ∧ c.R.src = some p := by
  cases a with
  | dat d => cases d with
    | src => exact r
    | _ => exact absurd e nofun
  | _ => exact absurd e nofun
theorem sub_dict {k : D} {kvs : List (D × V)} {v : V} (h : KvsAt c.R c.ρ c.st c.s.heap vo kvs) (r : c.drep vi k) (f : keyFits kvs k = true) (e : lookK kvs k = some v) (q : Q v c.st) : c.item vo vi Q := by
  obtain ⟨d, es, n, rfl, l3, g, rk⟩ := h
  refine fits_inv f r (fun y t e1 e2 ha => ?_) fun p e1 ht hk ha => ?_
  · cases e1; cases e2
    obtain ⟨w, f1, f2⟩ := (strs_in rk ha y).some e
    exact ⟨"dict", _, slot_dict_getitem.lookup, ⟨_, g, rfl⟩, wpAny_getItem_of (strKind_is _ _ _ _) (mapOf_rep g rk ha) f1 (c.at_ f2 q _)⟩
  · cases e1
    obtain ⟨xs, rx, _, hd⟩ := tupDict g rk ha
    obtain ⟨w, f1, f2⟩ := (rx.atKey hk).some e
    exact ⟨"dict", _, slot_dict_getitem.lookup, ⟨_, g, rfl⟩, wpAny_getItem_heap (c.room 17 (by decide)) (r.isKey (fun _ _ f => f.2) hk) hd f1 (c.at_ f2 q _)⟩
theorem op_sub (ro : c.rep vo o) (ri : c.rep vi i) (h : subK o i c.st Q) : c.item vo vi Q := by
  rcases branch_iff h with ⟨hs, h⟩ | ⟨_, h⟩
  · obtain ⟨k, ek, h⟩ := optK_iff h
    obtain ⟨t, rfl⟩ := int_at ri ek
    obtain ⟨p, rfl, ep⟩ := src_at ro hs
    obtain ⟨x, tx, y, ty, hl, h1, h2, h3⟩ := c.S.src p ep
    refine ⟨"list", _, slot_list_getitem.lookup, hl.typeIs, ?_⟩
    rcases branch_iff h with ⟨q, h⟩ | ⟨_, h⟩
    · obtain rfl := ibeq_one q
      exact wpAny_getItem_list (x := .int x tx) hl (by decide) (by decide) rfl (c.here (d := .dat (.int x)) ⟨_, rfl⟩ (h x h1))
    · obtain ⟨q, h⟩ := ifT_iff h
      obtain rfl := ibeq_one q
      exact wpAny_getItem_list (x := .int y ty) hl (by decide) (by decide) rfl (c.here (d := .dat (.int y)) ⟨_, rfl⟩ (h y h2 h3))
  · rcases altK_iff h with ⟨kvs, e, h⟩ | h
    · obtain ⟨k, ek, h⟩ := optK_iff h
      obtain rfl := dat_of ek
      obtain ⟨hk, h⟩ := ifT_iff h
      obtain ⟨v, ev, hq⟩ := optK_iff h
      exact sub_dict (kvs_at c.S ro e) ri hk ev hq
    · obtain ⟨vs, ev, h⟩ := optK_iff h
      obtain ⟨k, ek, h⟩ := optK_iff h
      obtain ⟨hz, h⟩ := small_iff h
      obtain ⟨j, ej, h⟩ := optK_iff h
      obtain ⟨v, e2, hq⟩ := optK_iff h
      obtain ⟨t, rfl⟩ := int_at ri ek
      obtain ⟨p, items, rfl, rr, hh⟩ := items_at c.S ro ev
      obtain ⟨w, e3, e4⟩ := rr.get (nth_eq vs j ▸ e2)
      have sz := size_of rr hz
      rcases hh with ⟨hl, hh⟩ | ⟨hl, hh, _⟩
      · rw [hl] at ej
        obtain ⟨rfl, b⟩ := idx_lst ej hz
        exact ⟨"list", _, slot_list_getitem.lookup, hh.typeIs, wpAny_getItem_list (x := w) hh (Int.natCast_nonneg j) b (by simpa using e3) (c.here e4 hq)⟩
      · rw [hl] at ej
        obtain ⟨h1, h2, h3⟩ := idx_ok ej hz
        exact ⟨"tuple", _, slot_tuple_getitem.lookup, hh.typeIs, getItem_tuple hh h2 h3 (sz.1 ▸ h1) (by simpa using e3) (c.here e4 hq)⟩
end
end Mine
namespace Mine
open PySem PySem.W PyProof.Rows PySem.Calls PySem.Spec
section
variable {prog : Program} {w : World} {A : Around} {E : Value → Shared → Prop} {s : Shared}
theorem nat_pos (b : Nat) : ¬ ((b : Int) < 0) := Int.not_lt.mpr (Int.natCast_nonneg b)
theorem adjust_to {b n : Nat} (h : b ≤ n) : Builtin.Slice.sliceAdjust none (some (b : Int)) 1 (n : Int) = ((0 : Int), (b : Int)) := by
  unfold Builtin.Slice.sliceAdjust
  rw [if_neg (by decide)]
  show ((0 : Int), if (b : Int) < 0 then _ else _) = _
  rw [if_neg (nat_pos b), if_neg (by decide), Int.min_eq_left (Int.ofNat_le.mpr h)]
theorem places_to (c : Nat) : Builtin.Slice.slicePlaces 0 (c : Int) 1 = c := places_from 0 c (Nat.zero_le c)
theorem applied_to {sl : Addr} {b n : Nat} {u : Tok} {Q : Int × Int × Nat → Shared → Prop} (hs : s.heap.IsSliceOf sl .none (.int b u) .none) (hb : b ≤ n) (h : Q ((0 : Nat), 1, b) s) :
    wpAny (model prog w) A (Builtin.Slice.sliceApplied (.ref sl) (pure (n : Int))) Q E s := by
  obtain ⟨os, hos, hcs, hds⟩ := hs
  unfold Builtin.Slice.sliceApplied Builtin.Slice.sliceFields
  refine wpAny_bind (wpAny_bind (wpAny_field hos hds (x := .none) rfl (wpAny_bind (wpAny_field hos hds (x := .int b u) rfl (wpAny_bind (wpAny_field hos hds (x := .none) rfl (wpAny_pure ?_)))))))
  refine wpAny_bind (slicePart_none (wpAny_bind (slicePart_none (wpAny_bind (slicePart_int (wpAny_bind (wpAny_pure ?_)))))))
  show wpAny _ _ (match Builtin.Slice.sliceAdjust none (some (b : Int)) 1 (n : Int) with | (lo, hi) => pure (lo, (1 : Int), Builtin.Slice.slicePlaces lo hi 1)) _ _ s
  rw [adjust_to hb]
  exact wpAny_pure (by rw [places_to]; exact h)
theorem pick_part (xs : Array Value) (a c : Nat) : ((List.range c).filterMap fun (k : Nat) => xs[((a : Int) + (k : Int) * 1).toNat]?).toArray = ((xs.toList.drop a).take c).toArray := by
  refine congrArg List.toArray (Eq.trans ?_ (pick_run xs a c))
  rw [List.filterMap_map]
  exact congrArg (List.filterMap · _) (funext fun k => by rw [Int.mul_one]; rfl)
theorem tuple_part {t sl : Addr} {items : Array Value} {a c : Nat} {lo hi st : Value} {Q : Value → Shared → Prop} (ht : IsTup s.heap t items) (hs : s.heap.IsSliceOf sl lo hi st)
    (hap : ∀ {Q : Int × Int × Nat → Shared → Prop} {E : Value → Shared → Prop}, Q ((a : Int), 1, c) s → wpAny (model prog w) A.in1 (Builtin.Slice.sliceApplied (.ref sl) (pure (items.size : Int))) Q E s) (hc : c ≤ items.size)
    (hw : a = 0 → c = items.size → Q (.ref t) s)
    (h : Q (.ref s.heap.objs.size) { s with heap := s.heap.push { cls := .type "tuple", data := .seq ((items.toList.drop a).take c).toArray } })
    (hsz : items.size ≤ sizeLine) : wpAny (model prog w) A (getItem (.ref t) (.ref sl)) Q E s := by
  have hdrop : sizeOk (.seq ((items.toList.drop a).take c).toArray) := by
    show ((items.toList.drop a).take c).toArray.size ≤ sizeLine
    rw [List.size_toArray, List.length_take]
    exact Nat.le_trans (Nat.min_le_left _ _) (Nat.le_trans hc hsz)
  unfold getItem
  try with_reducible refine wpAny_holding ?_
  first | refine wpAny_bind (wpAny_pure ?_) | skip
  refine wpAny_bind (wpAny_sequenceKey ht.typeIs (by decide) (wpAny_bind (wpAny_callSpecial?_slot (name := Str.ofString "__getitem__") ht.typeIs slot_tuple_getitem
    (wpAny_call_entry slot_tuple_getitem ht.typeIs entry_tuple_getitem ?_ (args_tuple_getitem _ _)))))
  refine wpAny_bind (m := Builtin.Tuple.tupleItemsOf (.ref t)) (tupleItemsOf_ ht (wpAny_bind (wpAny_typeOf (hs.elim fun o h => ⟨o, h.1, h.2.1⟩) ?_)))
  rw [if_pos (by decide)]
  refine wpAny_bind (hap ?_)
  show wpAny _ _ (if ((a : Int) == 0 && (1 : Int) == 1 && c == items.size) = true then _ else _) _ _ s
  by_cases hall : ((a : Int) == 0 && (1 : Int) == 1 && c == items.size) = true
  · rw [if_pos hall]
    rw [Bool.and_eq_true, Bool.and_eq_true] at hall
    refine wpAny_bind (show wpAny _ _ (do return (← typeOf (.ref t)) == Value.type "tuple") _ _ s from wpAny_bind (wpAny_typeOf ht.typeIs (wpAny_pure ?_)))
    rw [if_pos (by decide)]
    exact wpAny_bind (wpAny_rule (wpAny_pure ⟨_, rfl, wpAny_pure (hw (Int.ofNat.inj (eq_of_beq hall.1.1)) (eq_of_beq hall.2))⟩))
  · rw [if_neg hall, pick_part items a c]
    first
      | exact wpAny_bind (m := Builtin.Tuple.tupleExact _) (wpAny_newObj_type (wpAny_pure ⟨_, rfl, wpAny_pure h⟩) hdrop)
      | exact wpAny_bind (m := Builtin.Tuple.tupleExact _) (wpAny_newObj_type (wpAny_bind (wpAny_pure (wpAny_pure ⟨_, rfl, wpAny_pure h⟩))) hdrop)
      | exact wpAny_bind (wpAny_bind (m := Builtin.Tuple.tupleExact _) (wpAny_newObj_type (wpAny_pure (wpAny_pure ⟨_, rfl, wpAny_pure h⟩)) hdrop))
end
section
variable {R : Rn} {s : Shared} {ρ : List Addr} {st : St}
theorem cut_some {k : Int} {n m : Nat} (e : cutOf k n = some m) : k = m ∧ m ≤ n := by
  cases k with
  | ofNat i => obtain ⟨h, rfl⟩ := onlyIf_iff e; exact ⟨rfl, Nat.le_of_ble_eq_true h⟩
  | negSucc _ => exact no e
theorem grow_push {o : Obj} : ∀ b x, s.heap.get? b = some x → (s.heap.push o).get? b = some x := fun _ _ e => Heap.get?_push_of_some _ e
theorem repsGrow {h' : Heap} {vs : List Value} {ds : List V} (k : ∀ b o, s.heap.get? b = some o → h'.get? b = some o) (r : RepsOf X R ρ st.objs s.heap vs ds) : RepsOf X R ρ st.objs h' vs ds := r.mono (fun _ _ e => e) (vw_grow k)
theorem repGrow {h' : Heap} {vs : Value} {ds : V} (k : ∀ b o, s.heap.get? b = some o → h'.get? b = some o) (r : RepOf X R ρ st.objs s.heap vs ds) : RepOf X R ρ st.objs h' vs ds := r.mono (fun _ _ e => e) (vw_grow k)
theorem post_of_push {d : Obj} {v : Value} {s' : Shared} {Q : V → St → Prop} (h : Post X R ρ st.objs { s with heap := s.heap.push d } relV Q v s') : Post X R ρ st.objs s relV Q v s' :=
  Post.trans (Go.grow (s' := { s with heap := s.heap.push d }) (st := st) grow_push ⟨rfl, rfl, rfl⟩) _ _ h
end
section
variable {c : Lc} {vo vi : Value} {sl : Addr} {o i : V} {Q : V → St → Prop}
theorem cut_tup {items : List Value} {vs : List V} {p : Addr} {b : Nat} {lo hi : Value} (ht : IsTup c.s.heap p items.toArray) (rr : c.reps items vs) (hz : len' vs ≤ 100000) (ro : c.rep (.ref p) (mkTup vs)) {a n : Nat} (h1 : n ≤ len' vs) (hs : c.s.heap.IsSliceOf sl lo hi .none)
    (hap : ∀ {Q : Int × Int × Nat → Shared → Prop} {E : Value → Shared → Prop}, Q ((a : Int), 1, n) c.s → wpAny (model X.prog X.w) c.A.in1 (Builtin.Slice.sliceApplied (.ref sl) (pure ((len' vs : Nat) : Int))) Q E c.s) (q : Q (mkTup ((vs.drop a).take n)) c.st) : c.item (.ref p) (.ref sl) Q := by
  have sz := size_of rr hz
  refine ⟨"tuple", _, slot_tuple_getitem.lookup, ht.typeIs, tuple_part (a := a) (c := n) ht hs (sz.1 ▸ hap) (sz.1 ▸ h1) (fun e1 e2 => c.here ro ?_) (post_tup (tk := c.s.toks) c.S ((rr.drop a).take n) q) (sz_le sz.2)⟩
  rw [e1, e2, sz.1, len'_eq, List.drop_zero, List.take_length] at q
  exact q
theorem op_slTo (hs : c.s.heap.IsSliceOf sl .none vi .none) (ro : c.rep vo o) (ri : c.rep vi i) (h : slToK o i c.st Q) : c.item vo (.ref sl) Q := by
  obtain ⟨k, ek, h1⟩ := optK_iff h
  clear h
  obtain ⟨t, rfl⟩ := int_at ri ek
  obtain ⟨vs, ev, h2⟩ := optK_iff h1
  obtain ⟨n, en, h1⟩ := optK_iff h2
  obtain ⟨hz, h⟩ := small_iff h1
  clear h1 h2 ek; clear h1
  obtain ⟨rfl, hn⟩ := cut_some en
  obtain ⟨a, items, rfl, rr, hh⟩ := items_at c.S ro ev
  rcases hh with ⟨hl, hh⟩ | ⟨hl, hh, e3⟩
  · rw [hl] at h
    exact ⟨"list", _, slot_list_getitem.lookup, hh.typeIs, wpAny_getItem_list_slice hh hs .none (.int _ _) .none (by simp) (by rw [slicePick_upto']; exact post_list (tk := c.s.toks) c.S (rr.take n) h) (sz_le (size_of rr hz).2)⟩
  · rw [hl] at h
    exact cut_tup (b := n) hh rr hz (rep_tup ro e3) hn hs (applied_to hs hn) h
theorem op_slFrom (hs : c.s.heap.IsSliceOf sl vi .none .none) (ro : c.rep vo o) (ri : c.rep vi i) (h : slFromK o i c.st Q) : c.item vo (.ref sl) Q := by
  obtain ⟨k, ek, h1⟩ := optK_iff h
  clear h
  obtain ⟨t, rfl⟩ := int_at ri ek
  obtain ⟨vs, ev, h2⟩ := optK_iff h1
  obtain ⟨n, en, h1⟩ := optK_iff h2
  obtain ⟨hz, h⟩ := small_iff h1
  clear h1 h2 ek; clear h1
  obtain ⟨rfl, hn⟩ := cut_some en
  obtain ⟨a, items, rfl, rr, hh⟩ := items_at c.S ro ev
  rcases hh with ⟨hl, hh⟩ | ⟨hl, hh, e3⟩
  · rw [hl] at h; exact h.elim
  · rw [hl] at h
    refine cut_tup (b := n) hh rr hz (rep_tup ro e3) (Nat.sub_le _ n) hs (sliceApplied_from hs hn) ?_
    rw [len'_eq, List.take_of_length_le (Nat.le_of_eq List.length_drop)]
    exact h
end
end Mine
namespace Mine
open PySem PySem.W PyProof.Rows PySem.Calls PySem.Spec
noncomputable def biV : BI → Value
  | .len => .builtin "len"
  | .max => .builtin "max"
  | .isstr => .builtin "isinstance"
noncomputable def biA : BI → List Value
  | .isstr => [.type "str"]
  | _ => []
noncomputable def tyV : TY → Value
  | .int => .type "int"
  | .tuple => .type "tuple"
  | .str => .type "str"
noncomputable def digOk (n : Nat) : Bool := band2 (lbeq (Str.ofString (toString (Int.ofNat n))).cps.toList [48 + n]) (Nat.blt (Int.ofNat n).natAbs.log2 1920)
theorem digit_str {a : Int} {cs : List Nat} (h : digit a = some cs) : (Str.ofString (toString a)).cps.toList = cs ∧ a.natAbs.log2 < 1920 := by
  cases a with
  | ofNat n =>
    have h' : (match Nat.blt n 10 with | true => some [48 + n] | false => none) = some cs := h
    cases q : Nat.blt n 10 with
    | false => rw [q] at h'; exact no h'
    | true =>
      rw [q] at h'
      have k : digOk n = true := List.all_eq_true.mp (show ((List.range 10).all digOk) = true by decide +kernel) n (List.mem_range.mpr (Nat.le_of_ble_eq_true q))
      unfold digOk at k
      rw [band2_eq, Bool.and_eq_true] at k
      exact ⟨(lbeq_iff.mp k.1).trans (Option.some.inj h'), Nat.le_of_ble_eq_true k.2⟩
  | negSucc n => exact no h
section
variable {c : Lc} {vs : List Value} {ds : List V} {d : V} {v : Value} {Q : V → St → Prop}
theorem reps1 {P : Params} {src xa : Option Addr} {ρ : List Addr} {F : Vw} (r : Reps P src xa ρ F vs [d]) : ∃ v, vs = [v] ∧ Rep P src xa ρ F v d :=
  r.imp fun _ r => r.elim fun w r => ⟨by rw [r.1, show w = [] from r.2.2], r.2.1⟩
theorem reps2 {P : Params} {src xa : Option Addr} {ρ : List Addr} {F : Vw} {e : V} (r : Reps P src xa ρ F vs [d, e]) : ∃ v w, vs = [v, w] ∧ Rep P src xa ρ F v d ∧ Rep P src xa ρ F w e :=
  r.imp fun _ r => r.elim fun w r => (reps1 r.2.2).imp fun _ q => ⟨by rw [r.1, q.1], r.2.1, q.2⟩
theorem reps_one (r : c.reps vs ds) (e : one ds = some d) : ∃ v, vs = [v] ∧ c.rep v d := by
  cases ds with
  | nil => exact no e
  | cons x ds => cases ds with
    | nil => cases e; exact reps1 r
    | cons _ _ => exact no e
theorem reps_two {p : V × V} (r : c.reps vs ds) (e : two ds = some p) : ∃ v w, vs = [v, w] ∧ c.rep v p.1 ∧ c.rep w p.2 := by
  cases ds with
  | nil => exact no e
  | cons x ds => cases ds with
    | nil => exact no e
    | cons y ds => cases ds with
      | nil => cases e; exact reps2 r
      | cons _ _ => exact no e
theorem rep_i (i : Int) (t : Tok) : c.rep (.int i t) (.dat (.int i)) := ⟨t, rfl⟩
theorem rep_s (x : Str) (t : Tok) : c.rep (.str x t) (.dat (.str x.cps.toList)) := ⟨x, t, rfl, rfl⟩
theorem op_bi {f : BI} (rs : c.reps vs ds) (h : biK f ds c.st Q) : c.run (call (biV f) (vs ++ biA f)) Q := by
  cases f with
  | len =>
    obtain ⟨d, e, h1⟩ := optK_iff h
    clear h
    obtain ⟨v, rfl, r⟩ := reps_one rs e
    obtain ⟨xs, ex, h⟩ := optK_iff h1
    obtain ⟨hz, hq⟩ := small_iff h
    obtain ⟨a, items, rfl, rr, hh⟩ := items_at c.S r ex
    have sz := size_of rr hz
    have key : ∀ tk tk', c.post Q (.int (items.toArray.size : Nat) tk) { c.s with toks := tk' } := fun tk tk' => c.at_ (rep_i _ _) (sz.1.symm ▸ hq) _
    rcases hh with ⟨_, hh⟩ | ⟨_, hh, _⟩
    · exact PyProof.Rows.len_list hh (fit63 sz.2) (key _ _)
    · exact PyProof.Rows.len_tuple hh (fit63 sz.2) (key _ _)
  | max =>
    obtain ⟨p, e, h1⟩ := optK_iff h
    clear h
    obtain ⟨v, w, rfl, r1, r2⟩ := reps_two rs e
    obtain ⟨a, b, t, u, rfl, rfl, h⟩ := two_ints r1 r2 h1
    refine max_two_ints c.hA.hn fun h' tk k => post_grow c.S k ?_ h
    unfold imax
    rw [iltb_eq]
    by_cases hab : a < b
    · rw [if_pos hab, decide_eq_true hab]; exact ⟨_, rfl⟩
    · rw [if_neg hab, decide_eq_false hab]; exact ⟨_, rfl⟩
  | isstr =>
    obtain ⟨d, e, h1⟩ := optK_iff h
    clear h
    obtain ⟨v, rfl, r⟩ := reps_one rs e
    obtain ⟨_, ex, h⟩ := optK_iff h1
    obtain ⟨x, t, rfl, rfl⟩ := str_at r ex
    exact call_isinstance_yes (Tx := "str") (T := "str") (typeIs_str _ _ _) rfl F.sub_str_str (c.here (d := .dat (.bool true)) rfl h)
theorem int_of {v : Value} {x : Int} (r : c.rep v d) (e : intOf d = some x) : (∃ t, v = .int x t) ∧ d = .dat (.int x) := ⟨int_at r e, by
  cases d with
  | dat d => cases d with
    | int _ => exact congrArg (fun x => V.dat (.int x)) (Option.some.inj e)
    | _ => exact no e
  | _ => exact no e⟩
theorem isBool_at {b : Bool} (r : c.rep v d) (e : isBool d = some b) : v = .bool b := by
  cases d with
  | dat d => cases d with
    | bool x => exact r.trans (congrArg _ (Option.some.inj e))
    | _ => exact no e
  | _ => exact no e
theorem op_ty {f : TY} (rs : c.reps vs ds) (h : tyK f ds c.st Q) : c.run (call (tyV f) vs) Q := by
  obtain ⟨d, e, h1⟩ := optK_iff h
  clear h
  obtain ⟨v, rfl, r⟩ := reps_one rs e
  cases f with
  | int =>
    rcases altK_iff h1 with ⟨x, ex, h⟩ | h
    · obtain ⟨t, rfl⟩ := int_at r ex
      exact call_int_int (c.here r h)
    · obtain ⟨b, eb, h⟩ := optK_iff h
      obtain rfl := isBool_at r eb
      exact call_int_bool (c.at_ (d := .dat (.int (bint b))) (by rw [bint_eq]; exact rep_i _ _) h _)
  | tuple =>
    rcases altK_iff h1 with ⟨xs, e, h⟩ | h
    · obtain ⟨a, items, rfl, rr, hh⟩ := tup_at c.S r e
      exact call_tuple_tup hh (c.here (rep_tup r e) h)
    · obtain ⟨hl, h⟩ := ifT_iff h
      obtain ⟨xs, ex, h⟩ := optK_iff h
      obtain ⟨hz, hq⟩ := small_iff h
      obtain ⟨a, items, rfl, rr, hh⟩ := lst_here r ex hl
      exact call_tuple_list hh (fun h' k => Post.trans (Go.grow (s' := { c.s with heap := h' }) (st := c.st) k ⟨rfl, rfl, rfl⟩) _ _ (post_tup (s := { c.s with heap := h' }) (tk := c.s.toks) (c.S.grow k) (repsGrow k rr) hq)) (sz_le (size_of rr hz).2)
  | str =>
    obtain ⟨a, ea, h⟩ := optK_iff h1
    obtain ⟨t, rfl⟩ := int_at r ea
    obtain ⟨cs, e, hq⟩ := optK_iff h
    obtain ⟨rfl, h2⟩ := digit_str e
    exact PySem.P.str_of_int h2 (c.at_ (rep_s _ _) hq _)
end
end Mine
namespace Mine
open PySem PySem.W PyProof.Rows PySem.Calls PySem.Spec
theorem extendW (l b : Addr) (items items2 : Array Value) (n n2 : Nat) (dd2 : Option Addr) (sl2 : Array (Option Value)) (hc0 : ¬(!items.isEmpty && Builtin.List.listTooLong (items.size + items2.size)) = true) (hc1 : items.size ≤ sizeLine) (hs2 : items.size + items2.size ≤ sizeLine + 1) :
    Meets (Builtin.«list.extend» ⟨[.ref l, .ref b], []⟩) (fun _ R s => s.heap.get? l = some { cls := .type "list", dict := none, data := .seq items n, slots := #[] } ∧ s.heap.get? b = some { cls := .type "list", dict := dd2, data := .seq items2 n2, slots := sl2 } ∧ R (.ok (.ret Value.none)) { s with heap := s.heap.update l (Obj.mapSeq fun x => x ++ items2), toks := s.toks }) :=
  .of_wp fun prog w A R s h => by
    obtain ⟨hp, g, d, tk, os⟩ := s; obtain ⟨hl, hb, h⟩ := h; have f1 := AutoSeq1.idx_int; have f2 := AutoSeq1.sub_tuple_tuple; have f3 := AutoSeq1.sub_list_list; have f4 := AutoSeq1.sub_tuple_list; have f5 := AutoSeq1.sub_list_tuple;
    have hz' : (items ++ items2).size ≤ sizeLine + 1 := by rw [Array.size_append]; exact hs2
    wp_walk using (wpAny_updateSeq hl rfl (hz := hc1) (_hz' := hz')), AutoSeq1.wpAny_loadPart' hl, AutoSeq1.wpAny_loadPart' hb; exact ⟨_, rfl, h⟩
noncomputable def mnN : MN → Str
  | .append => "append"
  | .extend => "extend"
  | .pop => "pop"
  | .get => "get"
  | .join => "join"
noncomputable def mnV : MN → String
  | .append => "list.append"
  | .extend => "list.extend"
  | .pop => "list.pop"
  | .get => "dict.get"
  | .join => "str.join"
theorem isSome_some {α : Type} {o : Option α} (h : o.isSome = true) : ∃ x, o = some x := by
  cases o with
  | none => exact absurd h nofun
  | some x => exact ⟨x, rfl⟩
section
variable {st : St} {o : V}
theorem lstAt_inv {p : Nat × List V} (e : lstAt st o = some p) : o = .obj p.1 ∧ nth st.objs p.1 = some (.list p.2) := by
  cases o with
  | obj n =>
    obtain ⟨k, ek, rfl⟩ := Option.map_eq_some_iff.mp e
    obtain ⟨ob, eo, el⟩ := Option.bind_eq_some_iff.mp ek
    cases ob with
    | list vs => cases el; exact ⟨rfl, eo⟩
    | _ => exact no el
  | _ => exact no e
end
section
variable {c : Lc} {va vb : Value} {a b d : V} {vs : List Value} {ds : List V} {Q : V → St → Prop}
noncomputable def LstAt (c : Lc) (v : Value) (p : Nat × List V) : Prop :=
  ∃ l items m, v = .ref l ∧ c.s.heap.get? l = some (listOf (List.toArray items) m) ∧ c.reps items p.2 ∧ c.ρ[p.1]? = some l ∧ c.st.objs[p.1]? = some (.list p.2)
theorem lst_at {p : Nat × List V} (r : c.rep va a) (e : lstAt c.st a = some p) : LstAt c va p := by
  obtain ⟨rfl, e2⟩ := lstAt_inv e
  obtain ⟨l, rfl, h1, h2, items, m, h3, h4⟩ := obj_at c.S r e2
  exact ⟨l, items, m, rfl, h3, h4, h1, h2⟩
theorem op_getMeth {n : MN} {pl : Sem Bool} {Q : Value × List Value → Shared → Prop} (r : c.rep va a) (h : tyOk n a c.st = true)
    (q : Q (.builtin (mnV n), [va]) c.s) : c.wp (getMethod va (mnN n) pl) Q := by
  have lst : (lstAt c.st a).isSome = true → ∃ l items, va = .ref l ∧ c.s.heap.IsList l items ∧ c.s.heap.NoDictAt (.ref l) := fun h =>
    (isSome_some h).elim fun p e => (lst_at r e).imp fun l h => h.elim fun items h => h.elim fun m h => ⟨items.toArray, h.1, ⟨_, h.2.1, rfl, m, rfl⟩, _, h.2.1, rfl⟩
  cases n with
  | append => obtain ⟨l, items, rfl, h1, h2⟩ := lst h; exact getMethod_list_of F.slot_list_append F.type_list_append h1 h2 q
  | extend => obtain ⟨l, items, rfl, h1, h2⟩ := lst h; exact getMethod_list_of F.slot_list_extend F.type_list_extend h1 h2 q
  | pop => obtain ⟨l, items, rfl, h1, h2⟩ := lst h; exact getMethod_list_of F.slot_list_pop F.type_list_pop h1 h2 q
  | get =>
    obtain ⟨kvs, e⟩ := isSome_some h
    obtain ⟨a, es, m, rfl, l3, e, rk⟩ := kvs_at c.S r e
    exact getMethod_builtin (T := "dict") ⟨_, e, rfl⟩ PySem.F.plainAttrs_dict F.slot_dict_get F.type_dict_get (fun b eb => by cases eb; exact ⟨_, e, rfl⟩) q
  | join =>
    obtain ⟨s, e⟩ := isSome_some h
    obtain ⟨x, t, rfl, _⟩ := str_at r e
    exact GM.join q
theorem Lc.setL {l : Addr} {its : List Value} {xs ys : List V} {i : Nat} {h' : Heap} (hρ : c.ρ[i]? = some l) (e : c.st.objs[i]? = some (.list xs)) (hs : Heap.SameBut l c.s.heap h') (hl : ∃ m, h'.get? l = some (listOf (List.toArray its) m)) (r : c.reps its ys)
    (rv : ∀ F', (∀ a o, c.F a o → F' a o) → Rep X.w.params c.R.src c.R.xa c.ρ F' va d) (q : Q d (putLst c.st i ys)) (tk : Nat) : c.post Q va { c.s with heap := h', toks := tk } := by
  have ha : l ∈ ownOf X c.R c.ρ c.st.objs := mem_own.mpr (.inr (.inr (.inr (mem_liveA.mpr ⟨i, hρ, _, e, rfl⟩))))
  have g : Go X c.R c.ρ c.ρ c.st.objs (c.st.objs.set i (.list ys)) c.s { c.s with heap := h', toks := tk } := Go.at ha hs (liveA_set rfl rfl e) ⟨rfl, rfl, rfl⟩
  have q' : Q d { c.st with objs := c.st.objs.set i (.list ys) } := putAt_eq c.st.objs _ i ▸ q
  exact ⟨d, _, c.ρ, c.S.setObj (o' := .list ys) e hρ rfl rfl hs (hl.elim fun _ h => ⟨_, h⟩) (hl.elim fun m h => ⟨its, m, h, r⟩), g, rv _ g.vw, q'⟩
theorem rep_no (F' : Vw) : (∀ a o, c.F a o → F' a o) → Rep X.w.params c.R.src c.R.xa c.ρ F' .none (.dat .none) := fun _ => rfl
theorem op_append (h : methB a .append ds c.st Q) (ro : c.rep va a) (rs : c.reps vs ds) : c.run (call (.builtin "list.append") (va :: vs)) Q := by
  obtain ⟨p, e, h1⟩ := optK_iff h
  obtain ⟨d, ed, h2⟩ := optK_iff h1
  obtain ⟨hz, hq⟩ := small_iff h2
  clear h h1 h2
  obtain ⟨v, rfl, rv⟩ := reps_one rs ed
  obtain ⟨l, items, m, rfl, h1, h2, h3, h4⟩ := lst_at ro e
  exact call_meets F.slot_list_append ⟨_, h1, rfl⟩ F.entry_list_append (F.args_list_append_2 _ _) (list_append l _ m v (sz_le (size_of h2 hz).2))
    ⟨h1, Lc.setL (its := items ++ [v]) h3 h4 (Heap.SameBut.update ..) ⟨_, by have := IsL.update h1 (fun x => x.push v); rw [List.push_toArray] at this; exact this⟩ (h2.append (.cons rv .nil)) rep_no hq _⟩
theorem sum_le {m n : Nat} (h : m + n ≤ 100000) : m ≤ 100000 := Nat.le_trans (Nat.le_add_right _ _) h
theorem op_extend (h : methB a .extend ds c.st Q) (ro : c.rep va a) (rs : c.reps vs ds) : c.run (call (.builtin "list.extend") (va :: vs)) Q := by
  obtain ⟨p, e, h1⟩ := optK_iff h
  obtain ⟨d, ed, h2⟩ := optK_iff h1
  obtain ⟨hL, h3⟩ := ifT_iff h2
  obtain ⟨ys, ey, h4⟩ := optK_iff h3
  obtain ⟨hz, hq⟩ := small_iff h4
  clear h h1 h2 h3 h4
  obtain ⟨v, rfl, rv⟩ := reps_one rs ed
  obtain ⟨b, its, rfl, rr, ⟨cls, dd, data, sl⟩, ho, rfl, n2, rfl⟩ := lst_here rv ey hL
  obtain ⟨l, items, m, rfl, h1, h2, h3, h4⟩ := lst_at ro e
  have z1 : items.toArray.size = _ := h2.length.trans (len'_eq _).symm
  have z2 : its.toArray.size = _ := rr.length.trans (len'_eq _).symm
  have hnt : ¬(!items.toArray.isEmpty && Builtin.List.listTooLong (items.toArray.size + its.toArray.size)) = true := by
    rw [show Builtin.List.listTooLong (items.toArray.size + its.toArray.size) = false from decide_eq_false (by rw [z1, z2]; exact Nat.not_lt.mpr (Nat.le_trans hz (by decide))), Bool.and_false]; nofun
  exact call_meets F.slot_list_extend ⟨_, h1, rfl⟩ F.entry_list_extend (F.args_list_extend_2 _ _) (extendW l b _ its.toArray m n2 dd sl hnt (z1 ▸ sz_le (sum_le hz)) (by rw [z1, z2]; exact Nat.le_succ_of_le (sz_le hz)))
    ⟨h1, ho, Lc.setL (its := items ++ its) h3 h4 (Heap.SameBut.update ..) ⟨_, by have := IsL.update h1 (fun x => x ++ its.toArray); rw [List.append_toArray] at this; exact this⟩ (h2.append rr) rep_no hq _⟩
theorem last_inv {P : Params} {src xa : Option Addr} {ρ : List Addr} {F : Vw} {xs : List V} : ∀ {items : List Value} {p : List V × V}, Reps P src xa ρ F items xs → lastOf xs = some p → ∃ its w, items = its ++ [w] ∧ Reps P src xa ρ F its p.1 ∧ Rep P src xa ρ F w p.2 := by
  induction xs with
  | nil => intro _ _ _ e; exact no e
  | cons d ds ih =>
    rintro _ p ⟨v, r, rfl, h1, h2⟩ e
    have e' : (lastOf ds).elim ([], d) (fun p => (d :: p.1, p.2)) = p := Option.some.inj e
    clear e
    cases q : lastOf ds with
    | none =>
      rw [q] at e'
      cases ds with
      | nil => cases h2; exact ⟨[], v, rfl, by rw [← e']; rfl, by rw [← e']; exact h1⟩
      | cons _ _ => exact no q.symm
    | some p' =>
      rw [q] at e'
      obtain ⟨its, w, e1, g1, g2⟩ := ih h2 q
      exact ⟨v :: its, w, congrArg (v :: ·) e1, by rw [← e']; exact .cons h1 g1, by rw [← e']; exact g2⟩
theorem op_pop (h : methB a .pop ds c.st Q) (ro : c.rep va a) (rs : c.reps vs ds) : c.run (call (.builtin "list.pop") (va :: vs)) Q := by
  obtain ⟨p, e, h1⟩ := optK_iff h
  rcases branch_iff h1 with ⟨_, h2⟩ | ⟨hn, h2⟩
  · exact h2.elim
  obtain ⟨q, eq, h3⟩ := optK_iff h2
  obtain ⟨hz, hq⟩ := small_iff h3
  clear h h1 h2 h3
  obtain rfl : vs = [] := by
    cases ds with
    | nil => exact rs
    | cons _ _ => exact absurd hn nofun
  obtain ⟨l, items, m, rfl, h1, h2, h3, h4⟩ := lst_at ro e
  have z := (size_of h2 hz).2
  obtain ⟨its, w, rfl, e2, e3⟩ := last_inv h2 eq
  exact call_meets F.slot_list_pop ⟨_, h1, rfl⟩ F.entry_list_pop (F.args_list_pop_1 _) (MeetsSeq.list_pop_last l _ m w (by simp) (sz_le z)) ⟨h1, Lc.setL (its := its) h3 h4 (Heap.SameBut.update ..) ⟨_, by
    have e := IsL.update h1 (fun xs => xs.eraseIdxIfInBounds ((its ++ [w]).toArray.size - 1))
    rw [show (its ++ [w]).toArray.eraseIdxIfInBounds ((its ++ [w]).toArray.size - 1) = its.toArray by simp [List.eraseIdx_append_of_length_le (Nat.le_refl _)]] at e
    exact e⟩ e2 (fun F' hF => e3.mono (fun _ _ e => e) hF) hq _⟩
theorem op_get (h : methB a .get ds c.st Q) (ro : c.rep va a) (rs : c.reps vs ds) : c.run (call (.builtin "dict.get") (va :: vs)) Q := by
  obtain ⟨p, ep, h1⟩ := optK_iff h
  obtain ⟨k, ek, h2⟩ := optK_iff h1
  obtain ⟨kvs, ev, h3⟩ := optK_iff h2
  obtain ⟨ha, hq⟩ := ifT_iff h3
  clear h h1 h2 h3
  obtain ⟨v, w, rfl, r1, r2⟩ := reps_two rs ep
  obtain ⟨y, t, rfl, rfl⟩ := str_at r1 ek
  obtain ⟨a, es, m, rfl, l3, e, rk⟩ := kvs_at c.S ro ev
  have hm := mapOf_rep e rk ha
  have f := strs_in rk ha y
  refine call_meetsIn F.slot_dict_get hm.typeIs F.entry_dict_get (F.args_dict_get_3 _ _ _) (meets_dict_get_default (strKind X.prog X.w) a (strKind_is _ _ _ _) (notSys l3) w) ⟨_, hm, ?_⟩
  cases l : lookK kvs (.str y.cps.toList) with
  | none => rw [f.none l]; rw [l] at hq; exact c.at_ r2 hq _
  | some v => obtain ⟨u, e1, e2⟩ := f.some l; rw [e1]; rw [l] at hq; exact c.at_ e2 hq _
theorem str_o {d : D} {s : List Nat} (e : strO d = some s) : d = .str s := by
  cases d with
  | str _ => exact congrArg _ (Option.some.inj e)
  | _ => exact no e
theorem strs_join {P : Params} {src : Option Addr} {F : Vw} {sep : Nat} {ds : List D} : ∀ {items : List Value} {n : Nat}, DReps P src F items ds → joinD sep ds = some n → ∃ ys : List Str, StrsAre items ys ∧ (ys.map (·.length)).sum + ys.length * sep = n := by
  induction ds with
  | nil => intro _ _ r e; cases r; cases e; exact ⟨[], .nil, by simp⟩
  | cons d ds ih =>
    rintro _ n ⟨v, r, rfl, h1, h2⟩ e
    obtain ⟨cs, ec, e⟩ := bind_inv e
    obtain ⟨m, em, e⟩ := map_inv e
    rw [str_o ec] at h1
    obtain ⟨x, t, e1, e2⟩ := h1
    obtain ⟨ys, g1, g2⟩ := ih h2 em
    refine ⟨x :: ys, by rw [e1]; exact .cons x t g1, ?_⟩
    rw [List.map_cons, List.sum_cons, List.length_cons, Nat.succ_mul, ← e, ← e2, ← g2, len'_eq]
    show x.cps.size + _ + _ = x.cps.size + _ + _
    ac_rfl
theorem op_join (h : methB a .join ds c.st Q) (ro : c.rep va a) (rs : c.reps vs ds) : c.run (call (.builtin "str.join") (va :: vs)) Q := by
  obtain ⟨k, ek, h1⟩ := optK_iff h
  obtain ⟨d, ed, h2⟩ := optK_iff h1
  obtain ⟨hL, h3⟩ := ifT_iff h2
  clear h h1 h2
  obtain ⟨xs, ex, h1⟩ := optK_iff h3
  obtain ⟨es, ee, h2⟩ := optK_iff h1
  obtain ⟨n, en, h⟩ := optK_iff h2
  obtain ⟨hz, hq⟩ := small_iff h
  clear h h1 h2 h3
  obtain ⟨v, rfl, rv⟩ := reps_one rs ed
  obtain ⟨x, t, rfl, rfl⟩ := str_at ro ek
  obtain ⟨a, items, rfl, rr, hh⟩ := lst_here rv ex hL
  obtain ⟨ys, h4, h5⟩ := strs_join (Reps.dats (allDat_eq ee ▸ rr)) en
  have h6 : (ys.map (·.length)).sum + ys.length * x.length = n := by rw [len'_eq, Array.length_toList] at h5; exact h5
  refine join_list hh h4 (h6 ▸ sz_le hz) fun t' k => c.at_ (rep_s _ _) (hq _ ?_) _
  rw [len'_eq, Array.length_toList, ← h6]
  show (PySem.Builtin.Str.glued x ys).length ≤ _
  rw [StrLaws.glued_eq_join]
  exact StrLaws.join_length_le x ys
theorem op_meth {n : MN} (ro : c.rep va a) (rs : c.reps vs ds) (h : methB a n ds c.st Q) : c.run (call (.builtin (mnV n)) (va :: vs)) Q := by
  cases n with
  | append => exact op_append h ro rs
  | extend => exact op_extend h ro rs
  | pop => exact op_pop h ro rs
  | get => exact op_get h ro rs
  | join => exact op_join h ro rs
end
end Mine
namespace Mine
open PySem PySem.W PyProof.Rows PySem.Calls PySem.Spec
structure AttrOk (K : Frag) (c : Addr) (x : Str) : Prop where
  get : plainGet K c x = true
  hasDict : hasDictIn K c = true
  find : findIn K (.ref c) x = some none
  set : findIn K (.ref c) "__setattr__" = some (some (.builtin "object.__setattr__"))
  over : plainOver K c = true
structure KOk (X : Cx) : Prop where
  attr : ∀ c n, clsOk c n = true → AttrOk X.K c ⟨n.toArray⟩
theorem Sat.K {R : Rn} {s : Shared} {ρ : List Addr} {st : St} (S : Sat X R ρ st s.heap) : X.K.In s.heap := fun b o e => S.base b o (X.kin b o e)
theorem isStr_of (x : Str) (v : Value) : Value.isStrOf x v = v.isStr x := by cases v <;> rfl
section
variable {c : Lc} {va : Value} {a d : V} {Q : V → St → Prop}
noncomputable def FldsAt (c : Lc) (v : Value) (p : Addr × List (D × V)) : Prop :=
  ∃ a dx es n, v = .ref a ∧ c.s.heap.get? a = some (instObj p.1 dx) ∧ c.s.heap.get? dx = some (dictOf es n) ∧ c.drepK es p.2
theorem flds_of {k : Addr} {dx : Addr} {kvs : List (D × V)} (f : InsAt c.F va k dx) (h : KvsAt c.R c.ρ c.st c.s.heap (.ref dx) kvs) : FldsAt c va (k, kvs) := by
  obtain ⟨b, es, n, e, _, g, rk⟩ := h
  cases e
  exact f.imp fun a f => ⟨dx, es, n, f.1, f.2.2, g, rk⟩
theorem ins_of {d : D} {p : Addr × D} (e : insOf d = some p) : d = .ins p.1 p.2 := by
  cases d with
  | ins c d => cases e; rfl
  | _ => exact no e
theorem flds_at {p : Addr × List (D × V)} (r : c.rep va a) (e : fldsOf c.st a = some p) : FldsAt c va p := by
  cases a with
  | dat d =>
    obtain ⟨q, e1, e2⟩ := bind_inv e
    obtain ⟨k, e3, rfl⟩ := map_inv e2
    rw [ins_of e1] at r
    exact r.elim fun dx r => flds_of r.1 (kvs_at c.S (d := .dat q.2) r.2 e3)
  | ins k kvs => cases e; exact r.elim fun dx r => r.2.elim fun es q => flds_of r.1 (q.1.elim fun a h => h.elim fun n h => ⟨a, es, n, h.1, h.2.1, h.2.2.2, q.2⟩)
  | lvi k i => obtain ⟨kvs, e3, rfl⟩ := map_inv e; exact r.elim fun dx r => flds_of r.1 (kvs_at c.S (d := .obj i) ⟨dx, rfl, r.2⟩ e3)
  | exi k => obtain ⟨kvs, e3, rfl⟩ := map_inv e; exact r.elim fun dx r => flds_of r.1 (kvs_at c.S (d := .ext) ⟨dx, rfl, r.2⟩ e3)
  | _ => exact no e
theorem isStr_fun (x : Str) : (fun e : DictEntry => Value.isStrOf x e.key) = (fun e => e.key.isStr x) := funext fun e => isStr_of _ _
theorem op_att {n : List Nat} {expr : Bool} (hK : KOk X) (ro : c.rep va a) (h : attK a n c.st Q) : c.run (getAttr va ⟨n.toArray⟩ expr) Q := by
  obtain ⟨p, e, h1⟩ := optK_iff h
  obtain ⟨hc, h2⟩ := ifT_iff h1
  obtain ⟨ha, h3⟩ := ifT_iff h2
  obtain ⟨v, ev, h4⟩ := optK_iff h3
  clear h h1 h2 h3
  rcases branch_iff h4 with ⟨_, h⟩ | ⟨hr, h⟩
  · exact h.elim
  obtain ⟨b, dx, es, m, rfl, e1, e2, rk⟩ := flds_at ro e
  have ok := hK.attr p.1 n hc
  obtain ⟨w, f1, f2⟩ := (rk.find ha ⟨n.toArray⟩).some (x := v) ev
  rw [isStr_fun] at f1
  have hl : getL ⟨n.toArray⟩ es = some (some w) := by
    unfold getL
    cases q : es.find? (·.key.isStr ⟨n.toArray⟩) with
    | none => rw [q] at f1; exact no f1
    | some en => rw [q] at f1; cases f1; rfl
  exact get_value c.S.K ⟨e1, rfl, rfl, e2⟩ (plainGet_of ok.get).1 (findObj_own ok.hasDict ok.find rfl (by rw [lookIn_dict]; exact hl)) (rep_form f2 hr).1 (c.at_ f2 h _)
end
end Mine
namespace Mine
open PySem PySem.W PyProof.Rows PySem.Calls PySem.Spec
section
variable {prog : Program} {w : World} {A : Around} {E : Value → Shared → Prop} {s : Shared} {K : Frag} {R : Result → Shared → Prop}
theorem osa_at {x C dx : Addr} {name : Str} {tk : Tok} {v : Value} {es : List DictEntry} {n : Nat} (D : s.heap.get? dx = some (dictOf es n)) (X : K.In s.heap)
    (hx : s.heap.get? x = some (instObj C dx)) (ok : AttrOk K C name) (hl : (getL name es).isSome = true) (hz : (putL name (PyData.keyHash w.params name) (.str name s.toks) v es).length ≤ 1000)
    (h : ∀ h', h'.get? dx = some (dictOf (putL name (PyData.keyHash w.params name) (.str name s.toks) v es) (putN name es n)) → Heap.SameBut dx s.heap h' → R (.ok (.ret .none)) { s with heap := h', toks := s.toks + 1 }) :
    codeAny (model prog w) A (.call (.builtin "object.__setattr__") ⟨[.ref x, .str name tk, v], []⟩) R s := by
  have I : InstAt s.heap x (instObj C dx) C (some (dictOf es n)) := ⟨hx, rfl, rfl, D⟩
  refine osa_open X I ok.over (r := none) (by unfold takerIn; rw [ok.find]; rfl) fun b => ?_
  obtain ⟨cd, hc, hd'⟩ := any_some ok.hasDict
  have D' : (s.heap.update dx (Obj.putName name (PyData.keyHash w.params name) (.str name s.toks) v)).get? dx = some (dictOf (putL name (PyData.keyHash w.params name) (.str name s.toks) v es) (putN name es n)) :=
    (Heap.get?_update_self _ D (by rw [putName_dict]; rfl)).trans (by rw [putName_dict])
  refine wpAny_bind (wpAny_pure (wpAny_bind (wpAny_bind (wpAny_loadPart hx (wpAny_bind ((looks_clsIn X hc).here ?_))))))
  rw [hd']
  refine wpAny_pure (a := some dx) (wpAny_bind (wpAny_pure (wpAny_bind ?_)))
  unfold nsSet
  refine wpAny_bind (wpAny_bind (wpAny_askSetting (wpAny_pure (wpAny_bind (wpAny_mkText (wpAny_bind (wpAny_loadPart D ?_)))))))
  dsimp only
  have c : (!es.toArray.any (·.key.isStr name) && es.toArray.any (·.refKey)) = false := by
    unfold getL at hl
    split at hl
    · rename_i en he
      have : es.any (·.key.isStr name) = true := List.any_eq_true.mpr ⟨en, List.mem_of_find?_eq_some he, List.find?_some (p := fun x : DictEntry => x.key.isStr name) he⟩
      simp [this]
    · split at hl
      · cases hl
      · rename_i z; rw [Bool.not_eq_true] at z; simp only [List.any_toArray]; rw [z, Bool.and_false]
  rw [aRefKeyMayBeTheName_at, c]
  refine wpAny_updatePart D ?_
  refine wpAny_bind (wpAny_lookBehind D' (by exact pastItsLine_dict (by rw [List.size_toArray, sizeLine_eq]; omega)) ?_)
  exact wpAny_pure (h _ D' (Heap.SameBut.update ..))
end
section
variable {P : Params} {src : Option Addr} {xa : Option Addr} {ρ : List Addr} {F : Vw}
theorem RepK.put {w : Value} {d : V} (rw' : Rep P src xa ρ F w d) (x : Str) (tk : Tok) {kvs : List (D × V)} : ∀ {es : List DictEntry}, RepK P src xa ρ F es kvs → allStrK kvs = true →
    RepK P src xa ρ F (putL x (PyData.keyHash P x) (.str x tk) w es) (putK kvs (.str x.cps.toList) d) := by
  induction kvs with
  | nil => intro es r _; cases r; exact .cons ⟨x, tk, rfl, rfl⟩ rw' (by show PyData.keyHash P x = PyData.keyHash P ⟨x.cps.toList.toArray⟩; rw [str_eta]) .nil
  | cons p kvs ih =>
    obtain ⟨k, v⟩ := p
    rintro _ ⟨e, es, rfl, h1, h2, h3⟩ ha
    obtain ⟨⟨cs, rfl⟩, ha'⟩ := allStrK_cons ha
    obtain ⟨y, t, hy, ec⟩ := h1.1
    have e1 : e.key.isStr x = (x == y) := by rw [← isStr_of, hy]; exact isStr_key x y t
    have e2 : dbeq (.str cs) (.str x.cps.toList) = (x == y) := by rw [← ec]; exact find_str x y
    unfold putL putK
    rw [e1, e2]
    cases x == y with
    | true => exact .cons h1.1 rw' h2 h3
    | false => exact .cons h1.1 h1.2 h2 (ih h3 ha')
theorem putL_len (x : Str) (hsh : Int) (key v : Value) : ∀ es : List DictEntry, (putL x hsh key v es).length ≤ es.length + 1
  | [] => Nat.le_refl _
  | e :: r => by
    unfold putL
    split
    · simp
    · have := putL_len x hsh key v r; simp; omega
theorem RepK.look {es : List DictEntry} {kvs : List (D × V)} (r : RepK P src xa ρ F es kvs) (ha : allStrK kvs = true) (x : Str) : (getL x es).isSome = true := by
  unfold getL
  split
  · rfl
  · rw [List.any_eq_false.mpr fun e he => by obtain ⟨y, t, h1, h2⟩ := r.keys ha e he; unfold DictEntry.refKey; rw [h1]; nofun]; rfl
end
section
variable {c : Lc} {va vb : Value} {a d : V} {Q : St → Prop}
inductive DicAt (c : Lc) (v : Value) (p : Option Nat × List (D × V)) : Prop
  | mk (l : Addr) (es : List DictEntry) (n : Nat) (e : v = .ref l) (l3 : @LT.lt Nat _ 3 l) (g : c.s.heap.get? l = some (dictOf es n)) (r : c.drepK es p.2)
    (put : ∀ h' es' m kvs tk (Q : St → Prop), Heap.SameBut l c.s.heap h' → h'.get? l = some (dictOf es' m) → c.drepK es' kvs → Q (putDic c.st p.1 kvs) → c.postU Q () { c.s with heap := h', toks := tk })
theorem kvs_x {o : AObj} {k : List (D × V)} (e : kvsX o = some k) : o = .dict k := by
  cases o with
  | dict _ => exact congrArg _ (Option.some.inj e)
  | _ => exact no e
theorem dic_at {p : Option Nat × List (D × V)} (r : c.rep va a) (e : dicAt c.st a = some p) : DicAt c va p := by
  cases a with
  | obj i =>
    obtain ⟨k, ek, rfl⟩ := map_inv e
    obtain ⟨o, eo, e⟩ := bind_inv ek
    obtain rfl := kvs_x e
    obtain ⟨l, e1, h1, h2, es, n, h3, h4⟩ := obj_at c.S r eo
    have ha : l ∈ ownOf X c.R c.ρ c.st.objs := mem_own.mpr (.inr (.inr (.inr (mem_liveA.mpr ⟨i, h1, _, h2, rfl⟩))))
    refine ⟨l, es, n, e1, c.S.hi _ ha, h3, h4, fun h' es' m kvs tk Q hs hl r q => ?_⟩
    have g : Go X c.R c.ρ c.ρ c.st.objs (c.st.objs.set i (.dict kvs)) c.s { c.s with heap := h', toks := tk } := Go.at ha hs (liveA_set rfl rfl h2) ⟨rfl, rfl, rfl⟩
    have q' : Q { c.st with objs := c.st.objs.set i (.dict kvs) } := putAt_eq c.st.objs _ i ▸ q
    exact ⟨(), _, c.ρ, c.S.setObj (o' := .dict kvs) h2 h1 rfl rfl hs ⟨_, hl⟩ ⟨es', m, hl, r⟩, g, trivial, q'⟩
  | ext =>
    obtain ⟨k, ek, rfl⟩ := map_inv e
    obtain ⟨o, eo, e⟩ := bind_inv ek
    obtain rfl := kvs_x e
    obtain ⟨l, h1, h2, es, n, h3, h4⟩ := c.S.ext _ eo
    obtain ⟨b, e1, hb⟩ := r
    cases hb.symm.trans h1
    have ha : l ∈ ownOf X c.R c.ρ c.st.objs := mem_own.mpr (.inr (.inr (.inl h1)))
    exact ⟨l, es, n, e1, c.S.hi _ ha, h3, h4, fun h' es' m kvs tk Q hs hl r q =>
      ⟨(), _, c.ρ, c.S.setExt (o' := .dict kvs) h1 rfl hs ⟨_, hl⟩ ⟨es', m, hl, r⟩, Go.at ha hs rfl ⟨rfl, rfl, rfl⟩, trivial, q⟩⟩
  | _ => exact no e
theorem holder_at {q : Addr × V} (r : c.rep va a) (e : holder a = some q) : ∃ dx, InsAt c.F va q.1 dx ∧ c.rep (.ref dx) q.2 := by
  cases a with
  | exi k => cases e; exact r.imp fun dx r => ⟨r.1, dx, rfl, r.2⟩
  | lvi k i => cases e; exact r.imp fun dx r => ⟨r.1, dx, rfl, r.2⟩
  | _ => exact no e
theorem op_setAt {n : List Nat} (hK : KOk X) (ro : c.rep va a) (r : c.rep vb d) (h : setAtK a n d c.st Q) : c.wp (setAttr va ⟨n.toArray⟩ vb) (c.postU Q) := by
  obtain ⟨q, eq, h1⟩ := optK_iff h
  obtain ⟨hc, h2⟩ := ifT_iff h1
  obtain ⟨p, ep, h3⟩ := optK_iff h2
  obtain ⟨ha, h4⟩ := ifT_iff h3
  obtain ⟨hz, hq⟩ := ifT_iff h4
  clear h h1 h2 h3 h4
  obtain ⟨dx, ⟨b, rfl, f⟩, rd⟩ := holder_at ro eq
  obtain ⟨l, es, m, e, l3, g, rk, put⟩ := dic_at rd ep
  cases e
  have ok := hK.attr q.1 n hc
  have hz' : (putL ⟨n.toArray⟩ (PyData.keyHash X.w.params ⟨n.toArray⟩) (.str ⟨n.toArray⟩ (c.s.toks + 1)) vb es).length ≤ 1000 :=
    Nat.le_trans (putL_len ..) (Nat.succ_le_succ (by rw [rk.length, ← len'_eq]; exact Nat.le_trans (Nat.le_of_ble_eq_true hz) (by decide)))
  exact set_plain c.S.K (od := some (dictOf es m)) ⟨f.2, rfl, rfl, g⟩ ok.set (osa_at (s := { c.s with toks := c.s.toks + 1 }) g c.S.K f.2 ok (rk.look ha _) hz' fun h' D' hs => put _ _ _ _ _ _ hs D' (rk.put r ⟨n.toArray⟩ (c.s.toks + 1) ha) hq)
end
end Mine
namespace Mine
open PySem PySem.W PyProof.Rows PySem.Calls PySem.Spec
noncomputable local instance : DecidableEq PyData := fun a b => Classical.propDecidable (a = b)
section
variable {R : Rn} {A : Around} {s : Shared} {ρ : List Addr} {st : St} {Ev : Value → Shared → Prop}
theorem setItem_str {prog : Program} {w : World} {d : Addr} {es : List DictEntry} {n : Nat} {x : Str} {t : Tok} {v : Value} {Q : Unit → Shared → Prop} (ho : s.heap.get? d = some (dictOf es n)) (hk : KeysOf (strKind prog w) es.toArray) (hz : es.length ≤ 100000)
    (hQ : ∀ h' n', h'.get? d = some (dictOf (putL x (PyData.keyHash w.params x) (.str x t) v es) n') → Heap.SameBut d s.heap h' → Q () { s with heap := h', toks := s.toks + 1 }) :
    wpAny (model prog w) A (setItem (.ref d) (.str x t) v) Q Ev s := by
  have hT : s.TypeIs (.ref d) "dict" := ⟨_, ho, rfl⟩
  have hkey := strKind_is prog w x t
  unfold setItem
  try with_reducible refine wpAny_holding ?_
  refine wpAny_bind (wpAny_sequenceKey hT (by decide) ?_)
  refine wpAny_bind (wpAny_callSpecial?_slot (name := Str.ofString "__setitem__") hT slot_dict_setitem
    (wpAny_call_entry slot_dict_setitem hT entry_dict_setitem ?_ (args_dict_setitem _ _ _)))
  show wpAny _ _ (Builtin.Dict.notOrdered "__setitem__" ⟨[.ref d, .str x t, v], []⟩ >>= _) _ _ s
  refine wpAny_bind (wpAny_notOrdered_dict hT ?_)
  show wpAny _ _ (dictSet d (.str x t) v >>= _) _ _ s
  refine wpAny_bind ?_
  unfold dictSet
  try with_reducible refine wpAny_holding ?_
  refine wpAny_bind ((strKind prog w).pyHash hkey ?_)
  unfold dictSetHashed
  try with_reducible refine wpAny_holding ?_
  refine wpAny_bind (wpAny_dictFind_of (s := { s with toks := s.toks + 1 }) hkey ho rfl hk ?_)
  have pf := putL_find x (PyData.keyHash w.params x) (.str x t) v es
  have ef : (fun e : DictEntry => (strKind prog w).is x e.key) = (fun e => e.key.isStr x) := funext fun e => isStr_of _ _
  rw [ef]
  cases hi : es.toArray.findIdx? (fun e => e.key.isStr x) with
  | some i =>
    rw [List.findIdx?_toArray] at hi
    rw [hi] at pf
    refine wpAny_bind (wpAny_rule (wpAny_bind (wpAny_updateDict (s := { s with toks := s.toks + 1 }) ho rfl (wpAny_point ?_))))
    refine wpAny_pure ⟨.none, rfl, wpAny_pure (hQ _ n ?_ (Heap.SameBut.update ..))⟩
    refine (Heap.get?_update_self _ ho rfl).trans ?_
    rw [← pf]
    simp [Obj.mapDict]
  | none =>
    rw [List.findIdx?_toArray] at hi
    rw [hi] at pf
    refine wpAny_bind (wpAny_rule (wpAny_updateDictKeys (hz := sz_le hz) (s := { s with toks := s.toks + 1 }) ho rfl ?_))
    refine wpAny_pure ⟨.none, rfl, wpAny_pure (hQ _ (n + 1) ?_ (Heap.SameBut.update ..))⟩
    refine (Heap.get?_update_self _ ho rfl).trans ?_
    rw [← pf]
    simp [Obj.mapDictKeys]
    rfl
end
section
variable {ρ : List Addr} {src xa : Option Addr} {F : Vw}
theorem lookK_put_none {k : D} {d : V} {kvs : List (D × V)} : lookK kvs k = none → putK kvs k d = kvs ++ [(k, d)] := by
  induction kvs with
  | nil => exact fun _ => rfl
  | cons p kvs ih =>
    intro l
    unfold lookK at l
    unfold putK
    cases q : dbeq p.1 k with
    | true => rw [q] at l; exact no l.symm
    | false => rw [q] at l; exact congrArg (p :: ·) (ih l)
theorem RX.app {kvs kvs' : List (D × V)} {ys : List (PyData × Addr × Value)} (r' : RX ρ src xa F ys kvs') : ∀ {xs : List (PyData × Addr × Value)}, RX ρ src xa F xs kvs → RX ρ src xa F (xs ++ ys) (kvs ++ kvs') := by
  induction kvs with
  | nil => intro xs r; cases r; exact r'
  | cons p kvs ih => rintro xs ⟨a, v, r, rfl, h1, h2⟩; exact ⟨a, v, r ++ ys, rfl, h1, ih h2⟩
theorem RX.over {k : D} {v : Value} {d : V} (hk : keyOk 8 k = true) (rv : Rep X.w.params src xa ρ F v d) {kvs : List (D × V)} : ∀ {xs : List (PyData × Addr × Value)}, RX ρ src xa F xs kvs → allTupK kvs = true → lookK kvs k ≠ none →
    RX ρ src xa F (xs.map (PySem.putAt (toP k) v)) (putK kvs k d) := by
  induction kvs with
  | nil => exact fun _ _ h => absurd rfl h
  | cons p kvs ih =>
    obtain ⟨k', d'⟩ := p
    rintro xs ⟨a, v', r, rfl, h1, h2⟩ ha hl
    obtain ⟨_, g2, g3, g4⟩ := allTupK_cons ha
    have e := keyOk_eq g2 hk
    unfold lookK at hl
    unfold putK
    rw [List.map_cons]
    unfold PySem.putAt
    cases q : dbeq k' k with
    | true =>
      rw [q] at e
      have e3 : toP k' = toP k := of_decide_eq_true e.symm
      rw [if_pos e3]
      refine ⟨a, v, r, congrArg (_ :: ·) (map_putAt_of_not_mem r _ v fun m => ?_), ⟨g2, h1.2.1, rv⟩, h2⟩
      obtain ⟨x, hx, e1⟩ := List.mem_map.mp m
      exact List.find?_eq_none.mp (Option.map_eq_none_iff.mp ((RX.atKey g2 h2).none g3)) x hx (decide_eq_true (e1.trans e3.symm))
    | false =>
      rw [q] at e hl
      rw [if_neg (of_decide_eq_false e.symm)]
      exact ⟨a, v', _, rfl, h1, ih h2 g4 hl⟩
theorem RX.put {k : D} {a : Addr} {v : Value} {d : V} (hk : keyOk 8 k = true) (rk : DRep X.w.params src F (.ref a) k) (rv : Rep X.w.params src xa ρ F v d) {kvs : List (D × V)} {xs : List (PyData × Addr × Value)} (r : RX ρ src xa F xs kvs) (ha : allTupK kvs = true) :
    RX ρ src xa F (PySem.storedH xs (toP k) a v) (putK kvs k d) := by
  cases l : lookK kvs k with
  | none =>
    rw [storedH_new ((RX.atKey hk r).none l), lookK_put_none l]
    exact RX.app (kvs' := [(k, d)]) (ys := [(toP k, a, v)]) ⟨a, v, [], rfl, ⟨hk, rk, rv⟩, rfl⟩ r
  | some w =>
    obtain ⟨p, e1, _⟩ := (RX.atKey hk r).some l
    rw [storedH_old e1]
    exact r.over hk rv ha (by rw [l]; nofun)
end
section
variable {c : Lc} {vo vi vd : Value} {o i d : V} {Q : St → Prop}
theorem set_dict {k : D} {p : Option Nat × List (D × V)} (D : DicAt c vo p) (r : c.drep vi k) (rd : c.rep vd d) (f : keyFits p.2 k = true) (hz : len' p.2 ≤ 100000) (q : Q (putDic c.st p.1 (putK p.2 k d))) : c.wp (setItem vo vi vd) (c.postU Q) := by
  obtain ⟨l, es, m, rfl, l3, g, rk, put⟩ := D
  have hz' : es.length ≤ 100000 := by rw [rk.length, ← len'_eq]; exact hz
  refine fits_inv f r (fun y t e1 e2 ha => ?_) fun a e1 ht hk ha => ?_
  · cases e1; cases e2
    exact setItem_str g (mapOf_rep g rk ha |>.elim fun o h => h.elim fun es' h => h.elim fun n h => by cases g.symm.trans h.1; cases h.2.2.1; exact h.2.2.2.1) hz' fun h' n' D hs => put _ _ _ _ _ _ hs D (rk.put rd y t ha) q
  · cases e1
    obtain ⟨xs, rx, e, hd⟩ := tupDict g rk ha
    refine wpAny_setItem_heap (c.room 17 (by decide)) (r.isKey (fun _ _ f => f.2) hk) hd (fun h' hm' hs' => ?_) (sz_le (by rw [e, List.length_map] at hz'; exact hz'))
    obtain ⟨⟨cl, dd, dt, sl⟩, es', n', g1, ⟨rfl, rfl, rfl⟩, rfl, g6, _⟩ := hm'
    exact put _ es'.toList n' _ _ _ hs' g1 (by rw [g6]; exact (rx.put hk r rd ha).entries) q
theorem op_setIt (ro : c.rep vo o) (ri : c.rep vi i) (r : c.rep vd d) (h : setItK o i d c.st Q) : c.wp (setItem vo vi vd) (c.postU Q) := by
  rcases branch_iff h with ⟨hs, h1⟩ | ⟨_, h1⟩
  · clear h
    obtain ⟨k, ek, h⟩ := optK_iff h1
    obtain ⟨x, ex, h2⟩ := optK_iff h
    clear h h1
    obtain ⟨t, rfl⟩ := int_at ri ek
    obtain ⟨u, rfl⟩ := int_at r ex
    obtain ⟨p, rfl, ep⟩ := src_at ro hs
    obtain ⟨x0, tx, y0, ty, hl, g1, g2, g3⟩ := c.S.src p ep
    have fin : ∀ {h' : Heap} {x y : Int} {tx ty : Tok}, Heap.SameBut p c.s.heap h' → h'.IsList p #[.int x tx, .int y ty] → 0 ≤ x → 0 ≤ y → y < 2147483647 → Q c.st → c.postU Q () { c.s with heap := h' } :=
      fun hs hl' g1 g2 g3 hq => ⟨(), c.st, c.ρ, c.S.setSrc ep hs ⟨_, _, _, _, hl', g1, g2, g3⟩, Go.at (mem_own.mpr (.inl ep)) hs rfl ⟨rfl, rfl, rfl⟩, trivial, hq⟩
    rcases branch_iff h2 with ⟨q, h⟩ | ⟨_, h1⟩
    · obtain rfl := ibeq_one q
      exact wpAny_setItem_list hl (by decide) (by decide) (by simp) fun h' hl' hs => fin hs hl' h.1 g2 g3 h.2
    · obtain ⟨q, h⟩ := ifT_iff h1
      obtain rfl := ibeq_one q
      exact wpAny_setItem_list hl (by decide) (by decide) (by simp) fun h' hl' hs => fin hs hl' g1 h.1.1 h.1.2 h.2
  · obtain ⟨k, ek, h2⟩ := optK_iff h1
    obtain ⟨p, ep, h3⟩ := optK_iff h2
    obtain ⟨f, h4⟩ := ifT_iff h3
    obtain ⟨hz, hq⟩ := small_iff h4
    rw [dat_of ek] at ri
    exact set_dict (dic_at ro ep) ri r f hz hq
end
end Mine
namespace Mine
open PySem PySem.W PyProof.Rows PySem.Calls PySem.Spec
section
variable {R : Rn} {ρ : List Addr} {s : Shared}
structure Given (X : Cx) (R : Rn) (ρ : List Addr) (s : Shared) (st st' : St) : Prop where
  sat : Sat X R ρ st' s.heap
  go : Go X R ρ ρ st.objs st'.objs s s
  loc : st'.loc = st.loc
  ext : st'.ext = st.ext
theorem Given.refl {st : St} (S : Sat X R ρ st s.heap) : Given X R ρ s st st := ⟨S, Go.refl X R ρ _ s, rfl, rfl⟩
theorem Given.trans {a b c : St} (x : Given X R ρ s a b) (y : Given X R ρ s b c) : Given X R ρ s a c :=
  ⟨y.sat, x.go.trans y.go, y.loc.trans x.loc, y.ext.trans x.ext⟩
theorem Given.vw {st st' : St} (x : Given X R ρ s st st') : ∀ a o, vwOf X R ρ st.objs s.heap a o → vwOf X R ρ st'.objs s.heap a o := x.go.vw
theorem Given.rep {st st' : St} (x : Given X R ρ s st st') {v : Value} {d : V} (r : RepOf X R ρ st.objs s.heap v d) : RepOf X R ρ st'.objs s.heap v d := r.mono (fun _ _ e => e) x.vw
theorem Given.reps {st st' : St} (x : Given X R ρ s st st') {v : List Value} {d : List V} (r : RepsOf X R ρ st.objs s.heap v d) : RepsOf X R ρ st'.objs s.heap v d := r.mono (fun _ _ e => e) x.vw
theorem frz_ok {st st1 : St} {i : Nat} {a : Addr} {o : AObj} {d : D} (g : Given X R ρ s st st1) (e : nth st1.objs i = some o) (hl : o.live = true) (hρ : ρ[i]? = some a)
    (hd : ∀ F : Vw, (∀ b x, vwOf X R ρ st1.objs s.heap b x → F b x) → (∀ x, s.heap.get? a = some x → F a x) → DRep X.w.params R.src F (.ref a) d) :
    Given X R ρ s st (frz st1 i d).2 ∧ DRep X.w.params R.src (vwOf X R ρ (frz st1 i d).2.objs s.heap) (.ref a) d := by
  rw [nth_eq] at e
  have fz := g.sat.freeze e hρ hl hd
  unfold frz
  rw [putAt_eq]
  refine ⟨g.trans ⟨fz.1, fz.2 s s rfl rfl (.refl s), rfl, rfl⟩, ?_⟩
  obtain ⟨b, hb, hr⟩ := fz.1.objs i (.fz d) (List.getElem?_set_self (List.getElem?_eq_some_iff.mp e).1)
  cases hρ.symm.trans hb
  exact hr
noncomputable def ToD (R : Rn) (ρ : List Addr) (s : Shared) (n : Nat) : Prop := ∀ {st : St} {v : Value} {d : V} {p : D × St}, Sat X R ρ st s.heap → RepOf X R ρ st.objs s.heap v d → toD n st d = some p → Given X R ρ s st p.2 ∧ DRep X.w.params R.src (vwOf X R ρ p.2.objs s.heap) v p.1
noncomputable def ToDs (R : Rn) (ρ : List Addr) (s : Shared) (n : Nat) : Prop := ∀ {st : St} {v : List Value} {d : List V} {p : List D × St}, Sat X R ρ st s.heap → RepsOf X R ρ st.objs s.heap v d → toDs n st d = some p → Given X R ρ s st p.2 ∧ DReps X.w.params R.src (vwOf X R ρ p.2.objs s.heap) v p.1
noncomputable def ToDk (R : Rn) (ρ : List Addr) (s : Shared) (n : Nat) : Prop := ∀ {st : St} {v : List DictEntry} {d : List (D × V)} {p : List (D × D) × St}, Sat X R ρ st s.heap → RepK X.w.params R.src R.xa ρ (vwOf X R ρ st.objs s.heap) v d → toDk n st d = some p → Given X R ρ s st p.2 ∧ DRepK X.w.params R.src (vwOf X R ρ p.2.objs s.heap) v p.1
theorem lst_x {o : AObj} {k : List V} (e : lstX o = some k) : o = .list k := by
  cases o with
  | list _ => exact congrArg _ (Option.some.inj e)
  | _ => exact no e
theorem toD_obj {n : Nat} (h1 : ToDs R ρ s n) (h2 : ToDk R ρ s n) {st : St} {v : Value} {i : Nat} {p : D × St} (S : Sat X R ρ st s.heap) (r : RepOf X R ρ st.objs s.heap v (.obj i)) (e : toD (n + 1) st (.obj i) = some p) :
    Given X R ρ s st p.2 ∧ DRep X.w.params R.src (vwOf X R ρ p.2.objs s.heap) v p.1 := by
  obtain ⟨o, eo, e1⟩ := bind_inv e
  clear e
  obtain ⟨a, rfl, hρ, hi, hr⟩ := obj_at S r eo
  cases o with
  | fz d => cases e1; exact ⟨.refl S, hr⟩
  | list vs =>
    obtain ⟨q, e2, e3⟩ := bind_inv e1
    obtain ⟨ws, e4, rfl⟩ := map_inv e3
    obtain ⟨o1, e5, e6⟩ := bind_inv e4
    obtain rfl := lst_x e6
    obtain ⟨items, m, g1, g2⟩ := hr
    obtain ⟨g, hds⟩ := h1 S g2 e2
    exact frz_ok g e5 rfl hρ fun F hF hx => ⟨items, ⟨a, _, m, rfl, hx _ g1, rfl, rfl⟩, hds.mono hF⟩
  | dict kvs =>
    obtain ⟨q, e2, e3⟩ := bind_inv e1
    obtain ⟨ws, e4, rfl⟩ := map_inv e3
    obtain ⟨o1, e5, e6⟩ := bind_inv e4
    obtain rfl := kvs_x e6
    obtain ⟨es, m, g1, g2⟩ := hr
    obtain ⟨g, hds⟩ := h2 S g2 e2
    exact frz_ok g e5 rfl hρ fun F hF hx => ⟨es, ⟨a, m, rfl, S.hi _ (mem_own.mpr (.inr (.inr (.inr (mem_liveA.mpr ⟨i, hρ, _, hi, rfl⟩))))), hx _ g1⟩, hds.mono hF⟩
theorem toD_step {n : Nat} (h0 : ToD R ρ s n) (h1 : ToDs R ρ s n) (h2 : ToDk R ρ s n) : ToD R ρ s (n + 1) := by
  intro st v d p S r e
  cases d with
  | dat d => cases e; exact ⟨.refl S, r⟩
  | obj i => exact toD_obj h1 h2 S r e
  | tup vs =>
    obtain ⟨q, e2, rfl⟩ := map_inv e
    obtain ⟨items, f, r⟩ := r
    obtain ⟨g, hds⟩ := h1 S r e2
    exact ⟨g, items, f.mono g.vw, hds⟩
  | ins c kvs =>
    obtain ⟨q, e2, rfl⟩ := map_inv e
    obtain ⟨dx, f, es, l, r⟩ := r
    obtain ⟨g, hds⟩ := h2 S r e2
    exact ⟨g, dx, f.mono g.vw, es, l.mono g.vw, hds⟩
  | lvi c i =>
    obtain ⟨q, e2, rfl⟩ := map_inv e
    obtain ⟨dx, f, r⟩ := r
    obtain ⟨g, hds⟩ := h0 S (d := .obj i) ⟨dx, rfl, r⟩ e2
    exact ⟨g, dx, f.mono g.vw, hds⟩
  | _ => exact no e
theorem toDs_step {n : Nat} (h0 : ToD R ρ s n) (h1 : ToDs R ρ s n) : ToDs R ρ s (n + 1) := by
  intro st v d p S r e
  cases d with
  | nil => cases e; exact ⟨.refl S, r⟩
  | cons d ds =>
    obtain ⟨x, w, rfl, r1, r2⟩ := r
    obtain ⟨p1, e1, e⟩ := bind_inv e
    obtain ⟨p2, e2, rfl⟩ := map_inv e
    obtain ⟨g1, d1⟩ := h0 S r1 e1
    obtain ⟨g2, d2⟩ := h1 g1.sat (g1.reps r2) e2
    exact ⟨g1.trans g2, .cons (d1.mono g2.vw) d2⟩
theorem toDk_step {n : Nat} (h0 : ToD R ρ s n) (h1 : ToDk R ρ s n) : ToDk R ρ s (n + 1) := by
  intro st v d p S r e
  cases d with
  | nil => cases e; exact ⟨.refl S, r⟩
  | cons d ds =>
    obtain ⟨x, w, rfl, r0, rh, r2⟩ := r
    obtain ⟨p1, e1, e⟩ := bind_inv e
    obtain ⟨p2, e2, rfl⟩ := map_inv e
    obtain ⟨g1, d1⟩ := h0 S r0.2 e1
    obtain ⟨g2, d2⟩ := h1 g1.sat (r2.mono (fun _ _ e => e) g1.vw) e2
    exact ⟨g1.trans g2, .cons ((r0.1.mono g1.vw).mono g2.vw) (d1.mono g2.vw) rh d2⟩
theorem to_all (n : Nat) : ToD R ρ s n ∧ ToDs R ρ s n ∧ ToDk R ρ s n := by
  induction n with
  | zero => exact ⟨fun _ _ e => no e, fun _ _ e => no e, fun _ _ e => no e⟩
  | succ n ih => exact ⟨toD_step ih.1 ih.2.1 ih.2.2, toDs_step ih.1 ih.2.1, toDk_step ih.1 ih.2.2⟩
theorem toD_ok (n : Nat) : ToD R ρ s n := (to_all n).1
theorem toDs_ok (n : Nat) : ToDs R ρ s n := (to_all n).2.1
end
end Mine
namespace Mine
open PySem PySem.W PyProof.Rows PySem.Calls PySem.Spec
structure Pt (R : Rn) where
  s : Shared
  ρ : List Addr
  st : St
  S : Sat X R ρ st s.heap
noncomputable abbrev Pt.tk {R : Rn} (p : Pt R) (tk : Nat) : Pt R := ⟨{ p.s with toks := tk }, p.ρ, p.st, p.S⟩
structure Gx where
  P : Gp
  d : Nat
  sc : Scope
section
variable (c : Lc)
noncomputable abbrev Lc.mv (p : Pt c.R) : Lc := ⟨c.R, c.A, p.s, p.ρ, p.st, c.hA, p.S⟩
noncomputable abbrev Lc.pt : Pt c.R := ⟨c.s, c.ρ, c.st, c.S⟩
noncomputable abbrev Lc.to (p : Pt c.R) : Prop := Go X c.R c.ρ p.ρ c.st.objs p.st.objs c.s p.s
noncomputable abbrev Lc.epost (E : Bool → St → Prop) : Value → Shared → Prop := EPost X c.R c.ρ c.st.objs c.s E
noncomputable abbrev Lc.postR {α δ : Type} (rel : (Value → V → Prop) → α → δ → Prop) (Q : δ → St → Prop) : α → Shared → Prop := Post X c.R c.ρ c.st.objs c.s rel Q
noncomputable abbrev Lc.go {α : Type} (E : Bool → St → Prop) (t : Sem α) (k : α → Shared → Prop) (s : Shared) : Prop := wpAny (model X.prog X.w) c.A t k (c.epost E) s
noncomputable def Lc.W {α δ : Type} (rel : (Value → V → Prop) → α → δ → Prop) (t : Sem α) (Q : δ → St → Prop) (E : Bool → St → Prop) : Prop := c.go E t (c.postR rel Q) c.s
noncomputable def Lc.In (G : Gx) : Prop := c.R.env.scope = G.sc ∧ c.R.d = G.d
end
section
variable {c : Lc} {E : Bool → St → Prop} {p : Pt c.R}
theorem Lc.seq {α δ : Type} {rel : (Value → V → Prop) → α → δ → Prop} {t : Sem α} {Q : δ → St → Prop} (h : (c.mv p).W rel t Q E) (g : c.to p) {k : α → Shared → Prop}
    (hk : ∀ a d (q : Pt c.R), c.to q → (c.mv p).to q → rel (c.mv q).rep a d → Q d q.st → k a q.s) : c.go E t k p.s :=
  wpAny_mono h (fun _ _ h => h.rec fun d st' ρ' h1 h2 h3 h4 => hk _ d ⟨_, ρ', st', h1⟩ (g.trans h2) h2 h3 h4) (EPost.trans g)
theorem Lc.seq0 {α δ : Type} {rel : (Value → V → Prop) → α → δ → Prop} {t : Sem α} {Q : δ → St → Prop} (h : c.W rel t Q E) {k : α → Shared → Prop}
    (hk : ∀ a d (q : Pt c.R), c.to q → rel (c.mv q).rep a d → Q d q.st → k a q.s) : c.go E t k c.s :=
  wpAny_mono h (fun _ _ h => h.rec fun d st' ρ' h1 h2 h3 h4 => hk _ d ⟨_, ρ', st', h1⟩ h2 h3 h4) fun _ _ e => e
theorem Lc.fin {α δ : Type} {rel : (Value → V → Prop) → α → δ → Prop} {t : Sem α} {Q : δ → St → Prop} (h : (c.mv p).W rel t Q E) (g : c.to p) : c.go E t (c.postR rel Q) p.s :=
  wpAny_mono h (Post.trans g) (EPost.trans g)
theorem Lc.op {α δ : Type} {rel : (Value → V → Prop) → α → δ → Prop} {t : Sem α} {Q : δ → St → Prop} (g : c.to p) (h : (c.mv p).wp t ((c.mv p).postR rel Q)) : c.go E t (c.postR rel Q) p.s := wpAny_mono h (Post.trans g) fun _ _ e => e.elim
theorem Lc.done {α δ : Type} {rel : (Value → V → Prop) → α → δ → Prop} {a : α} {d : δ} {Q : δ → St → Prop} (g : c.to p) (r : rel (c.mv p).rep a d) (q : Q d p.st) : c.postR rel Q a p.s := ⟨d, p.st, p.ρ, p.S, g, r, q⟩
theorem Lc.tk (g : c.to p) (tk : Nat) : c.to (p.tk tk) := g.trans (Go.grow (fun _ _ e => e) ⟨rfl, rfl, rfl⟩)
theorem Lc.self : c.to c.pt := Go.refl ..
end
structure SE (G : Gx) (e : Expr) (pe : PE) : Prop where
  ns : ∀ rest env, starEach (e :: rest) env = (false, eval e env) :: starEach rest env
  run : ∀ c : Lc, c.In G → ∀ Q E, gE G.P pe c.st Q E → c.W relV (eval e c.R.env) Q E
structure SEs (G : Gx) (es : List Expr) (pes : PEs) : Prop where
  plain : ∀ env pos, (backTo pos (starEach es env)).any (·.1) = false
  hd : es = [] ∨ ∃ e r, es = e :: r ∧ ∀ env, starEach (e :: r) env = (false, eval e env) :: starEach r env
  run : ∀ c : Lc, c.In G → ∀ pos Q E, gEs G.P pes c.st Q E → c.W relL (spliced (backTo pos (starEach es c.R.env))) Q E
noncomputable def SB (G : Gx) (isAnd : Bool) (es : List Expr) (pes : PEs) : Prop :=
  ∀ c : Lc, c.In G → ∀ pos Q E, gB G.P isAnd pes c.st Q E → c.W relV (boolOp pos (if isAnd then .And else .Or) (evalEach es c.R.env)) Q E
noncomputable def ST (G : Gx) (e : Expr) (pt : PT1) : Prop := ∀ c : Lc, c.In G → ∀ Q E, gT G.P pt c.st Q E → c.W relB (isTrue e c.R.env (eval e c.R.env)) Q E
noncomputable def STs (G : Gx) (isAnd : Bool) (es : List Expr) (pts : PTs) : Prop := ∀ c : Lc, c.In G → ∀ Q E, gTs G.P isAnd pts c.st Q E → c.W relB (allTrue (if isAnd then .And else .Or) es c.R.env) Q E
theorem relL_reps {P : Params} {src xa : Option Addr} {ρ : List Addr} {F : Vw} {vs : List Value} : ∀ {ds : List V}, relL (Rep P src xa ρ F) vs ds → Reps P src xa ρ F vs ds := by
  induction vs with
  | nil => intro ds h; cases ds with
    | nil => rfl
    | cons _ _ => exact h.elim
  | cons v vs ih => intro ds h; cases ds with
    | nil => exact h.elim
    | cons d ds => exact .cons h.1 (ih h.2)
section
variable {G : Gx} {l r e t a b : Expr} {pl pr pe pa pb : PE} {pt : PT1} {pos : Pos} {k : Nat}
theorem se_none : SE G (.Constant .none k pos) (.cst .none) := ⟨fun _ _ => rfl, fun c _ _ _ h => wpAny_Constant_none (c.here (d := .dat .none) rfl h)⟩
theorem se_bool {b : Bool} : SE G (.Constant (.bool b) k pos) (.cst (.bool b)) := ⟨fun _ _ => rfl, fun c _ _ _ h => wpAny_Constant_bool (c.here (d := .dat (.bool b)) rfl h)⟩
theorem se_int {i : Int} : SE G (.Constant (.int i) k pos) (.cst (.int i)) := ⟨fun _ _ => rfl, fun c _ _ _ h => wpAny_Constant_int (c.at_ (rep_i _ _) h _)⟩
theorem se_str {x : Str} : SE G (.Constant (.str x) k pos) (.cst (.str x.cps.toList)) := ⟨fun _ _ => rfl, fun c _ _ _ h => wpAny_Constant_str (c.at_ (rep_s _ _) h _)⟩
theorem name_in {R : Rn} {sc : Scope} (E : EnvOk R) (hs : R.env.scope = sc) {i : Nat} {x : Str} {kd : NameKind} (e : sc.names[i]? = some (x, kd)) : R.env.kindOf x = some kd ∧ (x == ("__debug__" : Str)) = false ∧ (x == ("__classdict__" : Str)) = false :=
  ⟨lookup_of_get E.nodup (hs ▸ e), E.noDebug _ (List.mem_of_getElem? (hs.symm ▸ e))⟩
theorem name_at {c : Lc} (ic : c.In G) {i : Nat} {x : Str} {kd : NameKind} (e : G.sc.names[i]? = some (x, kd)) : c.R.env.kindOf x = some kd ∧ (x == ("__debug__" : Str)) = false ∧ (x == ("__classdict__" : Str)) = false := name_in c.S.env ic.1 e
theorem loc_run {R : Rn} {p : Pt R} {A : Around} {Ev : Value → Shared → Prop} {sc : Scope} {i : Nat} {x : Str} {kd : NameKind} {v : V} {Q : Value → Shared → Prop} (hs : R.env.scope = sc) (e : sc.names[i]? = some (x, kd)) (ev : nth p.st.loc i = some (some v))
    (h : ∀ w, RepOf X R p.ρ p.st.objs p.s.heap w v → Q w p.s) : wpAny (model X.prog X.w) A (eval (.Name x pos) R.env) Q Ev p.s := by
  obtain ⟨m, hm, hl⟩ := p.S.loc
  obtain ⟨x', k', w, e1, e2, e3⟩ := hl i v (nth_eq p.st.loc i ▸ ev)
  cases e1.symm.trans (hs ▸ e)
  obtain ⟨hk, hd⟩ := name_in p.S.env hs e
  refine wpAny_Name ?_ hd.1
  rcases e2 with ⟨rfl, hv⟩ | ⟨rfl | rfl, c', hc, hv⟩
  · exact wpAny_loadName_local p.S.env.kind hk hm hv (h _ e3)
  · exact wpAny_loadName_cell p.S.env.kind hk hc hv (h _ e3)
  · exact wpAny_loadName_free p.S.env.kind hk hc hv (h _ e3) hd.2
theorem se_loc {i : Nat} {x : Str} {kd : NameKind} (e : G.sc.names[i]? = some (x, kd)) : SE G (.Name x pos) (.loc i) := ⟨fun _ _ => rfl, fun c ic Q E h => by
  obtain ⟨o, eo, h1⟩ := optK_iff h
  obtain ⟨v, rfl, hq⟩ := optK_iff h1
  exact loc_run (p := c.pt) ic.1 e eo fun w r => c.here r hq⟩
theorem se_glob {x : Str} {v : Value} {dd : D} {i : Nat} (e : G.sc.names[i]? = some (x, .globalImplicit)) (hg : X.mg x = some v) (hv : ∀ src, DRep X.w.params src (fun _ _ => False) v dd) : SE G (.Name x pos) (.cst dd) := ⟨fun _ _ => rfl, fun c ic Q E h =>
  Name_function_global c.S.env.kind (name_at ic e).1 (loadGlobal_global (by rw [c.S.env.glob]; exact X.g.keeps c.S.base) hg (c.here (d := .dat dd) (DRep.mono (fun _ _ h => h.elim) (hv _)) h)) (name_at ic e).2.1⟩
theorem se_bin {op : Operator} (hl : SE G l pl) (hr : SE G r pr) : SE G (.BinOp l op r pos) (.bin op pl pr) := ⟨fun _ _ => rfl, fun c ic Q E h =>
  wpAny_BinOp (Lc.seq0 (hl.run c ic _ _ h) fun a da p g r1 q1 => Lc.seq (hr.run (c.mv p) ic _ _ q1) g fun b db p2 g2 g2' r2 q2 => Lc.op g2 (op_bin c.hA p2.S (g2'.rep r1) r2 q2))⟩
theorem bp_fin {c : Lc} {p : Pt c.R} {E : Bool → St → Prop} {t : Sem Value} {Q : Bool → Prop} {k : Value → Shared → Prop} (h : (c.mv p).cmp t Q) (hk : ∀ b tk, Q b → k (.bool b) (p.tk tk).s) : c.go E t k p.s :=
  wpAny_mono h (fun _ _ h => h.elim fun b h => h.elim fun tk h => by rw [h.1, h.2.1]; exact hk b tk h.2.2) fun _ _ e => e.elim
theorem se_cmp {op : CmpOp} (hl : SE G l pl) (hr : SE G r pr) (hm : behindInMarks op r = false) : SE G (.Compare l [op] [r] pos) (.cmp op pl pr) := ⟨fun _ _ => rfl, fun c ic Q E h =>
  wpAny_Compare1 (Lc.seq0 (hl.run c ic _ _ h) fun a da p g r1 q1 => Lc.seq (hr.run (c.mv p) ic _ _ q1) g fun b db p2 g2 g2' r2 q2 =>
    bp_fin (op_cmp (c := c.mv p2) (g2'.rep r1) r2 q2) fun b tk q => Lc.done (p := p2.tk tk) (rel := relV) (d := .dat (.bool b)) (Lc.tk g2 tk) rfl q) hm⟩
theorem st_cmp {op : CmpOp} (hl : SE G l pl) (hr : SE G r pr) (hm : behindInMarks op r = false) : ST G (.Compare l [op] [r] pos) (.cmp op pl pr) := fun c ic Q E h =>
  wpAny_isTrue_Compare1 (Lc.seq0 (hl.run c ic _ _ h) fun a da p g r1 q1 => Lc.seq (hr.run (c.mv p) ic _ _ q1) g fun b db p2 g2 g2' r2 q2 =>
    bp_fin (op_cmp (c := c.mv p2) (g2'.rep r1) r2 q2) fun b tk q => wpAny_truthy_bool (Lc.done (p := p2.tk tk) (rel := relB) (d := b) (Lc.tk g2 tk) rfl q)) hm
theorem tp_fin {c : Lc} {p : Pt c.R} {E : Bool → St → Prop} {v : Value} {dv : V} {Q : Bool → Prop} {k : Bool → Shared → Prop} (r : (c.mv p).rep v dv) (h : truthK dv p.st Q) (hk : ∀ b tk, Q b → k b (p.tk tk).s) : c.go E (truthy v) k p.s :=
  wpAny_mono (op_truth (c := c.mv p) r h) (fun b _ h => h.elim fun tk h => by rw [h.1]; exact hk b tk h.2) fun _ _ e => e.elim
theorem st_val (he : SE G e pe) (hw : ∀ env whole, isTrue e env whole = (do let v ← whole; standAt e.pos; holding [v] (truthy v))) : ST G e (.val pe) := fun c ic Q E h =>
  wpAny_isTrue_value (Lc.seq0 (he.run c ic _ _ h) fun a da p g r1 q1 => tp_fin r1 q1 fun b tk q => Lc.done (p := p.tk tk) (rel := relB) (d := b) (Lc.tk g tk) rfl q) (hw _ _)
theorem st_not (he : ST G e pt) : ST G (.UnaryOp .Not e pos) (.nt pt) := fun c ic Q E h =>
  wpAny_isTrue_Not (Lc.seq0 (he c ic _ _ h) fun b b' p g r1 q1 => Lc.done (rel := relB) (d := negB b') g (by rw [show b = b' from r1, negB_eq]; rfl) q1)
theorem se_ite (ht : ST G t pt) (ha : SE G a pa) (hb : SE G b pb) : SE G (.IfExp t a b pos) (.ite pt pa pb) := ⟨fun _ _ => rfl, fun c ic Q E h =>
  wpAny_IfExp (Lc.seq0 (ht c ic _ _ h) fun b b' p g r1 q1 => by
    cases (show b = b' from r1)
    cases b with
    | true => exact Lc.fin (ha.run (c.mv p) ic _ _ q1) g
    | false => exact Lc.fin (hb.run (c.mv p) ic _ _ q1) g)⟩
theorem sts_nil {a : Bool} : STs G a [] .nil := fun c _ Q E h => by
  cases a with
  | true => exact wpAny_allTrue_And_nil (Lc.done (p := c.pt) (rel := relB) (d := true) Lc.self rfl h)
  | false => exact wpAny_allTrue_Or_nil (Lc.done (p := c.pt) (rel := relB) (d := false) Lc.self rfl h)
theorem sts_cons {a : Bool} {es : List Expr} {pts : PTs} (he : ST G e pt) (hr : STs G a es pts) : STs G a (e :: es) (.cons pt pts) := fun c ic Q E h => by
  cases a with
  | true =>
    refine wpAny_allTrue_And_cons (Lc.seq0 (he c ic _ _ h) fun b b' p g r1 q1 => ?_)
    cases (show b = b' from r1)
    cases b with
    | true => exact Lc.fin (hr (c.mv p) ic _ _ q1) g
    | false => exact Lc.done (rel := relB) (d := false) g rfl q1
  | false =>
    refine wpAny_allTrue_Or_cons (Lc.seq0 (he c ic _ _ h) fun b b' p g r1 q1 => ?_)
    cases (show b = b' from r1)
    cases b with
    | true => exact Lc.done (rel := relB) (d := true) g rfl q1
    | false => exact Lc.fin (hr (c.mv p) ic _ _ q1) g
theorem st_and {es : List Expr} {pts : PTs} (h : STs G true es pts) : ST G (.BoolOp .And es pos) (.bop true pts) := fun c ic Q E hg => wpAny_isTrue_BoolOp (h c ic Q E hg)
theorem st_or {es : List Expr} {pts : PTs} (h : STs G false es pts) : ST G (.BoolOp .Or es pos) (.bop false pts) := fun c ic Q E hg => wpAny_isTrue_BoolOp (h c ic Q E hg)
theorem sb_one {a : Bool} (he : SE G e pe) : SB G a [e] (.cons pe .nil) := fun c ic _ Q E hg => he.run c ic Q E hg
theorem sb_cons {a : Bool} {e2 : Expr} {es : List Expr} {pe2 : PE} {pes : PEs} (he : SE G e pe) (hr : SB G a (e2 :: es) (.cons pe2 pes)) : SB G a (e :: e2 :: es) (.cons pe (.cons pe2 pes)) := by
  intro c ic pos Q E h
  show c.go E (do
    let v ← eval e c.R.env
    standAt pos
    let t ← holding [v] (truthy v)
    match (if a then BoolOp.And else BoolOp.Or), t with
    | .And, false | .Or, true => pure v
    | _, _ => boolOp pos (if a then .And else .Or) (evalEach (e2 :: es) c.R.env)) _ _
  refine wpAny_bind (Lc.seq0 (he.run c ic _ _ h) fun v dv p g r1 q1 => wpAny_bind (wpAny_standAt (wpAny_bind (wpAny_holding (tp_fin r1 q1 fun t tk hq => ?_)))))
  have g2 := Lc.tk g tk
  cases a with
  | true => cases t with
    | true => exact Lc.fin (hr (c.mv (p.tk tk)) ic pos _ _ hq) g2
    | false => exact wpAny_pure (Lc.done (rel := relV) g2 r1 hq)
  | false => cases t with
    | true => exact wpAny_pure (Lc.done (rel := relV) g2 r1 hq)
    | false => exact Lc.fin (hr (c.mv (p.tk tk)) ic pos _ _ hq) g2
theorem se_and {es : List Expr} {pes : PEs} (h : SB G true es pes) : SE G (.BoolOp .And es pos) (.bop true pes) := ⟨fun _ _ => rfl, fun c ic Q E hg => h c ic pos Q E hg⟩
theorem se_or {es : List Expr} {pes : PEs} (h : SB G false es pes) : SE G (.BoolOp .Or es pos) (.bop false pes) := ⟨fun _ _ => rfl, fun c ic Q E hg => h c ic pos Q E hg⟩
end
end Mine
namespace Mine
open PySem PySem.W PyProof.Rows PySem.Calls PySem.Spec
section
variable {G : Gx} {e i u : Expr} {es : List Expr} {pe pi pu : PE} {pes : PEs} {pos p2 : Pos} {k : Nat}
theorem ses_nil : SEs G [] .nil := ⟨fun _ _ => rfl, .inl rfl, fun c _ pos Q E h => wpAny_items_nil (Lc.done (p := c.pt) (rel := relL) (d := []) Lc.self trivial h)⟩
theorem ses_cons (he : SE G e pe) (hr : SEs G es pes) : SEs G (e :: es) (.cons pe pes) := ⟨fun env pos => by rw [he.ns]; exact hr.plain env pos, .inr ⟨e, es, rfl, he.ns es⟩, fun c ic pos Q E h =>
  wpAny_items_cons (Lc.seq0 (he.run c ic _ _ h) fun v dv p g r1 q1 => Lc.seq (hr.run (c.mv p) ic pos _ _ q1) g fun vs ds p2 g2 g2' r2 q2 => Lc.done (rel := relL) (d := dv :: ds) g2 ⟨g2'.rep r1, r2⟩ q2) (he.ns _ _)⟩
theorem reps_size {c : Lc} {vs : List Value} {ds : List V} (r : c.reps vs ds) (h : len' ds ≤ 100000) : vs.length ≤ sizeLine := sz_le (by rw [r.length, ← len'_eq]; exact h)
theorem se_tup (h : SEs G es pes) : SE G (.Tuple es k pos) (.tup pes) := ⟨fun _ _ => rfl, fun c ic Q E hg =>
  wpAny_Tuple (Lc.seq0 (h.run c ic pos _ _ hg) fun vs ds p g r1 q1 => ⟨reps_size (c := c.mv p) (relL_reps r1) (small_iff q1).1, Post.trans g _ _ (post_tup (tk := p.s.toks) p.S (relL_reps r1) (small_iff q1).2)⟩)⟩
theorem se_lst (h : SEs G es pes) : SE G (.List es pos) (.lst pes) := ⟨fun _ _ => rfl, fun c ic Q E hg =>
  wpAny_List (Lc.seq0 (h.run c ic pos _ _ hg) fun vs ds p g r1 q1 => ⟨reps_size (c := c.mv p) (relL_reps r1) (small_iff q1).1, Post.trans g _ _ (post_list (tk := p.s.toks) p.S (relL_reps r1) (small_iff q1).2)⟩)⟩
theorem item_fin {c : Lc} {p : Pt c.R} {E : Bool → St → Prop} {o i : Value} {Q : V → St → Prop} (g : c.to p) (h : (c.mv p).item o i Q) : ItemOn (model X.prog X.w) c.A (c.epost E) o i (c.postR relV Q) p.s :=
  h.imp fun T h => h.imp fun id h => ⟨h.1, h.2.1, Lc.op g h.2.2⟩
theorem se_sub (he : SE G e pe) (hi : SE G i pi) (hs : ∀ o v, subscripted i false o v = operate [o, v] (getItem o v)) : SE G (.Subscript e i pos) (.sub pe pi) := ⟨fun _ _ => rfl, fun c ic Q E h =>
  sub_run (fun o v => ⟨_, hs o v⟩) (Lc.seq0 (he.run c ic _ _ h) fun a da p g r1 q1 => Lc.seq (hi.run (c.mv p) ic _ _ q1) g fun b db p2 g2 g2' r2 q2 => item_fin g2 (op_sub (c := c.mv p2) (g2'.rep r1) r2 q2))⟩
noncomputable abbrev Pt.push {R : Rn} (p : Pt R) (o : Obj) : Pt R := ⟨{ p.s with heap := p.s.heap.push o }, p.ρ, p.st, p.S.grow grow_push⟩
theorem Pt.grown {R : Rn} (p : Pt R) (o : Obj) : Go X R p.ρ p.ρ p.st.objs p.st.objs p.s (p.push o).s := Go.grow (st := p.st) grow_push ⟨rfl, rfl, rfl⟩
noncomputable def slObj (lo hi : Value) : Obj := { cls := .type "slice", data := .fields #[lo, hi, .none] }
theorem se_slTo (he : SE G e pe) (hu : SE G u pu) : SE G (.Subscript e (.Slice none (some u) none p2) pos) (.slTo pe pu) := ⟨fun _ _ => rfl, fun c ic Q E h => by
  refine sub_run (fun o v => ⟨_, rfl⟩) (Lc.seq0 (he.run c ic _ _ h) fun a da p g r1 q1 => wpAny_Slice (show c.go E (pure Value.none) _ _ from wpAny_pure ?_))
  rw [evalPart_some]
  refine Lc.seq (hu.run (c.mv p) ic _ _ q1) g fun b db p2 g2 g2' r2 q2 => (show c.go E (pure Value.none) _ _ from wpAny_pure ?_)
  have gp := p2.grown (slObj .none b)
  exact item_fin (g2.trans gp) (op_slTo (c := c.mv (p2.push (slObj .none b))) (Heap.IsSliceOf.new p2.s.heap .none b .none) ((g2'.trans gp).rep r1) (gp.rep r2) q2)⟩
theorem se_slFrom (he : SE G e pe) (hu : SE G u pu) : SE G (.Subscript e (.Slice (some u) none none p2) pos) (.slFrom pe pu) := ⟨fun _ _ => rfl, fun c ic Q E h => by
  refine sub_run (fun o v => ⟨_, rfl⟩) (Lc.seq0 (he.run c ic _ _ h) fun a da p g r1 q1 => wpAny_Slice ?_)
  rw [evalPart_some]
  refine Lc.seq (hu.run (c.mv p) ic _ _ q1) g fun b db p2 g2 g2' r2 q2 => (show c.go E (pure Value.none) _ _ from wpAny_pure (show c.go E (pure Value.none) _ _ from wpAny_pure ?_))
  have gp := p2.grown (slObj b .none)
  exact item_fin (g2.trans gp) (op_slFrom (c := c.mv (p2.push (slObj b .none))) (Heap.IsSliceOf.new p2.s.heap b .none .none) ((g2'.trans gp).rep r1) (gp.rep r2) q2)⟩
theorem se_neg (he : SE G e pe) : SE G (.UnaryOp .USub e pos) (.neg pe) := ⟨fun _ _ => rfl, fun c ic Q E h =>
  wpAny_UnaryOp (Lc.seq0 (he.run c ic _ _ h) fun a da p g r1 q1 => by
    obtain ⟨x, ex, hq⟩ := optK_iff q1
    obtain ⟨t, rfl⟩ := int_at r1 ex
    exact neg_int (Lc.done (p := p.tk _) (rel := relV) (d := .dat (.int (-x))) (Lc.tk g _) ⟨_, rfl⟩ hq))⟩
theorem se_att {n : Str} (hK : KOk X) (he : SE G e pe) (hv : ∀ env, eval (.Attribute e n pos) env = (do
      let o ← eval e env
      standAt pos.atName
      let r ← holding [o] (getAttr o n true)
      letTemporaryGo e o r
      pure r)) : SE G (.Attribute e n pos) (.att pe n.cps.toList) := ⟨fun _ _ => rfl, fun c ic Q E h =>
  Attribute_any_ (Lc.seq0 (he.run c ic _ _ h) fun a da p g r1 q1 => Lc.op g (by have := op_att (expr := true) (c := c.mv p) hK r1 q1; rw [str_eta] at this; exact this)) (hv _)⟩
theorem args_run {M : Model} {A : Around} {s : Shared} {Ev : Value → Shared → Prop} {f : Value} {env : Env} {Q : Args → Shared → Prop} (hn : es = [] ∨ ∃ e r, es = e :: r ∧ ∀ env, starEach (e :: r) env = (false, eval e env) :: starEach r env)
    (h : wpAny M A (spliced (backTo pos (starEach es env))) (fun vs s1 => Q ⟨vs, []⟩ s1) Ev s) : wpAny M A (evalArgs f true (backTo pos (starEach es env)) (backToKw pos (keywordEach [] env))) Q Ev s := by
  rcases hn with rfl | ⟨e, r, rfl, h1⟩
  · unfold evalArgs
    show wpAny M A (spliced [] >>= _) Q Ev s
    exact wpAny_bind (wpAny_mono h (fun vs s' h' => wpAny_holding (wpAny_bind (wpAny_pure (wpAny_bind (wpAny_pure (wpAny_pure h')))))) fun _ _ e => e)
  · exact evalArgs_kw2 rfl (wpAny_mono h (fun vs s1 q => kwAll_nil q) fun _ _ e => e) (h1 _)
end
end Mine
namespace Mine
open PySem PySem.W PyProof.Rows PySem.Calls PySem.Spec
structure BltIs (X : Cx) (sc : Scope) (x : Str) (v : Value) : Prop where
  at_ : ∃ i : Nat, sc.names[i]? = some (x, .globalImplicit)
  no : X.mg x = none
  is : X.mb x = some v
structure GlbIs (X : Cx) (sc : Scope) (x : Str) (v : Value) : Prop where
  at_ : ∃ i : Nat, sc.names[i]? = some (x, .globalImplicit)
  is : X.mg x = some v
section
variable {G : Gx} {c : Lc} {Ev : Value → Shared → Prop} {s : Shared} {x y : Str} {v : Value} {np pos yp : Pos} {e o : Expr} {es : List Expr} {pe po : PE} {pes : PEs}
theorem nm_blt {R : Rn} {p : Pt R} {A : Around} {sc : Scope} (hs : R.env.scope = sc) (b : BltIs X sc x v) {k : Value → Shared → Prop} (h : k v p.s) : wpAny (model X.prog X.w) A (eval (.Name x np) R.env) k Ev p.s :=
  b.at_.elim fun _ e => Name_function_global p.S.env.kind (name_in p.S.env hs e).1 (loadGlobal_builtin (by rw [p.S.env.glob]; exact X.g.keeps p.S.base) b.no (by rw [p.S.env.blt]; exact X.b.keeps p.S.base) b.is h) (name_in p.S.env hs e).2.1
theorem nm_glb {R : Rn} {p : Pt R} {A : Around} {sc : Scope} (hs : R.env.scope = sc) (b : GlbIs X sc x v) {k : Value → Shared → Prop} (h : k v p.s) : wpAny (model X.prog X.w) A (eval (.Name x np) R.env) k Ev p.s :=
  b.at_.elim fun _ e => Name_function_global p.S.env.kind (name_in p.S.env hs e).1 (loadGlobal_global (by rw [p.S.env.glob]; exact X.g.keeps p.S.base) b.is h) (name_in p.S.env hs e).2.1
theorem name_blt (ic : c.In G) (b : BltIs X G.sc x v) {k : Value → Shared → Prop} (h : k v c.s) : wpAny (model X.prog X.w) c.A (eval (.Name x np) c.R.env) k Ev c.s := nm_blt (p := c.pt) ic.1 b h
theorem name_glb (ic : c.In G) (b : GlbIs X G.sc x v) {k : Value → Shared → Prop} (h : k v c.s) : wpAny (model X.prog X.w) c.A (eval (.Name x np) c.R.env) k Ev c.s := nm_glb (p := c.pt) ic.1 b h
theorem call_name {M : Model} {A : Around} {env : Env} {Q : Value → Shared → Prop}
    (h : wpAny M A (eval (.Name x np) env) (fun f s₁ => wpAny M A (callWith pos f [] (backTo pos (starEach es env)) (backToKw pos (keywordEach [] env))) Q Ev s₁) Ev s) :
    wpAny M A (eval (.Call (.Name x np) es [] pos) env) Q Ev s := by
  show wpAny M A (do callWith pos (← eval (.Name x np) env) [] (backTo pos (starEach es env)) (backToKw pos (keywordEach [] env))) Q Ev s
  exact wpAny_bind h
theorem se_bi {f : BI} {id : String} (hv : biV f = .builtin id) (ha : biA f = []) (b : BltIs X G.sc x (.builtin id)) (h : SEs G es pes) : SE G (.Call (.Name x np) es [] pos) (.bi f pes) := ⟨fun _ _ => rfl, fun c ic Q E hg =>
  call_name (name_blt ic b (callWith_builtin (h.plain _ _) (args_run h.hd (Lc.seq0 (h.run c ic pos _ _ hg) fun vs ds p g r1 q1 => Lc.op g (by
    have := op_bi (c := c.mv p) (relL_reps r1) q1
    rw [hv, ha, List.append_nil] at this
    exact this)))))⟩
theorem se_isstr (b : BltIs X G.sc x (.builtin "isinstance")) (hy : BltIs X G.sc y (.type "str")) (h : SE G e pe) : SE G (.Call (.Name x np) [e, .Name y yp] [] pos) (.bi .isstr (.cons pe .nil)) := ⟨fun _ _ => rfl, fun c ic Q E hg => by
  refine call_name (name_blt ic b (callWith_builtin (by rw [h.ns]; rfl) (args_run (.inr ⟨e, _, rfl, h.ns _⟩) (wpAny_items_cons (Lc.seq0 (h.run c ic _ _ hg) fun v dv p g r1 q1 => ?_) (h.ns _ _)))))
  exact wpAny_items_cons (name_blt (c := c.mv p) ic hy (wpAny_items_nil (Lc.op g (op_bi (c := c.mv p) (f := .isstr) (ds := [dv]) (.cons r1 .nil) q1)))) rfl⟩
theorem se_ty {f : TY} {id : String} (hv : tyV f = .type id) (b : BltIs X G.sc x (.type id)) (h : SEs G es pes) : SE G (.Call (.Name x np) es [] pos) (.ty f pes) := ⟨fun _ _ => rfl, fun c ic Q E hg =>
  call_name (name_blt ic b (PySem.callWith_type (h.plain _ _) (args_run h.hd (Lc.seq0 (h.run c ic pos _ _ hg) fun vs ds p g r1 q1 => Lc.op g (hv ▸ op_ty (c := c.mv p) (relL_reps r1) q1)))))⟩
theorem se_meth {n : MN} {apos : Pos} (ho : SE G o po) (h : SEs G es pes) {pl : Env → Sem Bool}
    (he : ∀ env, eval (.Call (.Attribute o (mnN n) apos) es [] pos) env = (do
      let ov ← eval o env
      standAt apos.atName
      let (f, first) ← holding [ov] (getMethod ov (mnN n) (pl env))
      callWith pos f first (backTo pos (starEach es env)) (backToKw pos (keywordEach [] env)))) : SE G (.Call (.Attribute o (mnN n) apos) es [] pos) (.meth po n pes) := ⟨fun _ _ => rfl, fun c ic Q E hg =>
  methodCall_KW (Lc.seq0 (ho.run c ic _ _ hg) fun ov dv p g r1 q1 => wpAny_mono (op_getMeth (c := c.mv p) (pl := pl c.R.env) (Q := fun fv s => s = p.s ∧ fv = (.builtin (mnV n), [ov])) r1 (ifT_iff q1).1 ⟨rfl, rfl⟩) (fun fv s e => by
    rw [e.1, e.2]
    exact callWith_builtin (h.plain _ _) (args_run h.hd (Lc.seq (h.run (c.mv p) ic pos _ _ (ifT_iff q1).2) g fun vs ds p2 g2 g2' r2 q2 => Lc.op g2 (op_meth (c := c.mv p2) (g2'.rep r1) (relL_reps r2) q2)))) fun _ _ e => e.elim) (he _)⟩
end
end Mine
namespace Mine
open PySem PySem.W PyProof.Rows PySem.Calls PySem.Spec
noncomputable def SA (G : Gx) (t : Expr) (pa : PA) : Prop :=
  ∀ c : Lc, c.In G → c.R.top = true → ∀ v v0 Q E, c.rep v v0 → gA G.P pa v0 c.st Q E → c.go E (assign t c.R.env v) (c.postU Q) c.s
noncomputable def Stores (R : Rn) (t : Value → Sem Unit) (i : Nat) : Prop :=
  ∀ A (p : Pt R) v d (Q : Unit → Shared → Prop) Ev, RepOf X R p.ρ p.st.objs p.s.heap v d →
    (∀ s', Sat X R p.ρ { p.st with loc := putAt p.st.loc i (some d) } s'.heap → Go X R p.ρ p.ρ p.st.objs p.st.objs p.s s' → Q () s') → wpAny (model X.prog X.w) A (t v) Q Ev p.s
section
variable {G : Gx} {R : Rn} {x : Str} {i : Nat} {kd : NameKind} {p2 : Pos}
theorem storeName_ok (e : R.env.scope.names[i]? = some (x, kd)) (hk : kd = .local ∨ (kd = .cell ∧ R.top = true)) : Stores R (storeName R.env x) i := by
  intro A p v d Q Ev r h
  rw [putAt_eq] at h
  have hkind : R.env.kindOf x = some kd := lookup_of_get p.S.env.nodup e
  rcases hk with rfl | ⟨rfl, htop⟩
  · rw [storeName_local hkind (by rw [p.S.env.kind]; rfl)]
    obtain ⟨m, hm, hl⟩ := p.S.loc
    exact nsSet_keeps hm fun h' hn hs hc => h _ (p.S.setLocal e r hl hn hs hc) (Go.at (mem_own.mpr (.inr (.inl p.S.env.Lw))) hs rfl ⟨rfl, rfl, rfl⟩)
  · obtain ⟨c, hc, hw⟩ := p.S.env.own htop i x e
    obtain ⟨q, hq, rfl⟩ := mem_of_lookup2 hc
    obtain ⟨v0, hv0⟩ := p.S.cellsAre q hq
    exact wpAny_storeName_cell p.S.env.kind hkind hc hv0 fun h' hn hs => h _ (p.S.setCell e hc hw r hn hs) (Go.at (mem_own.mpr (.inr (.inl hw))) hs rfl ⟨rfl, rfl, rfl⟩)
theorem bindName_ok (e : R.env.scope.names[i]? = some (x, kd)) (hk : kd = .local ∨ (kd = .cell ∧ R.top = true)) : Stores R (bindName R.env x) i :=
  fun A p v d Q Ev r h => wpAny_bindName (storeName_ok e hk A p v d Q Ev r h)
theorem assignName_ok (e : R.env.scope.names[i]? = some (x, kd)) (hk : kd = .local ∨ (kd = .cell ∧ R.top = true)) : Stores R (assign (.Name x p2) R.env) i :=
  fun A p v d Q Ev r h => assign_Name (storeName_ok e hk A p v d Q Ev r h)
theorem sa_loc (e : G.sc.names[i]? = some (x, kd)) (hk : kd = .local ∨ kd = .cell) : SA G (.Name x p2) (.loc i) := fun c ic htop v v0 Q E r h =>
  assignName_ok (ic.1 ▸ e) (hk.imp id fun q => ⟨q, htop⟩) c.A c.pt v v0 _ _ r fun s' S' g => Post.mk () _ c.ρ S' g trivial h
noncomputable def StoresAll (R : Rn) : List (Value → Sem Unit) → List Nat → Prop
  | ts, [] => ts = []
  | ts, i :: is => ∃ t r, ts = t :: r ∧ Stores R t i ∧ StoresAll R r is
theorem stores_run {A : Around} {Ev : Value → Shared → Prop} {is : List Nat} : ∀ {ts : List (Value → Sem Unit)} {p : Pt R} {vs : List Value} {ds : List V} {l : List (Option V)} {Q : Unit → Shared → Prop}, StoresAll R ts is → RepsOf X R p.ρ p.st.objs p.s.heap vs ds → setLs p.st.loc is ds = some l →
    (∀ s', Sat X R p.ρ { p.st with loc := l } s'.heap → Go X R p.ρ p.ρ p.st.objs p.st.objs p.s s' → Q () s') → wpAny (model X.prog X.w) A (assignInOrder ts vs) Q Ev p.s := by
  induction is with
  | nil =>
    intro ts p vs ds l Q T r e h
    cases ds with
    | nil => cases r; cases T; cases e; exact assignInOrder_nil (h p.s p.S (Go.refl ..))
    | cons _ _ => exact no e
  | cons i is ih =>
    rintro ts p vs ds l Q ⟨t, ts, rfl, t1, T⟩ r e h
    cases ds with
    | nil => exact no e
    | cons d ds =>
      obtain ⟨v, vs, rfl, r1, r2⟩ := r
      exact assignInOrder_cons (t1 A p v d _ _ r1 fun s1 S1 g1 => ih (p := ⟨s1, p.ρ, _, S1⟩) T (g1.reps r2) e fun s' S' g' => h s' S' (g1.trans g'))
theorem extBut_grow {h h' : Heap} (e : Heap.ExtBut h.objs.size h h') : ∀ b o, h.get? b = some o → h'.get? b = some o := fun b o q => e b o (Nat.ne_of_lt (Heap.lt_size q)) q
noncomputable def NamesAt (top : Bool) (sc : Scope) : List Expr → List Nat → Prop
  | es, [] => es = []
  | es, i :: is => ∃ x p kd r, es = .Name x p :: r ∧ sc.names[i]? = some (x, kd) ∧ (kd = .local ∨ (kd = .cell ∧ top = true)) ∧ NamesAt top sc r is
theorem NamesAt.stores {top : Bool} {is : List Nat} (htop : top = true → R.top = true) : ∀ {es : List Expr}, NamesAt top R.env.scope es is →
    StoresAll R ((assignEach es R.env).map (·.2)) is ∧ (assignEach es R.env).length = is.length ∧ (assignEach es R.env).findIdx? (·.1) = none := by
  induction is with
  | nil => intro es n; cases n; exact ⟨rfl, rfl, rfl⟩
  | cons i is ih =>
    rintro es ⟨x, p, kd, r, rfl, e, hk, n⟩
    have h := ih n
    refine ⟨⟨_, _, rfl, assignName_ok e (hk.imp id fun q => ⟨q.1, htop q.2⟩), h.1⟩, congrArg (· + 1) h.2.1, ?_⟩
    show List.findIdx? _ ((false, _) :: assignEach _ R.env) = none
    rw [List.findIdx?_cons, h.2.2]; rfl
theorem setLs_len {is : List Nat} : ∀ {l l' : List (Option V)} {vs : List V}, setLs l is vs = some l' → is.length = vs.length := by
  induction is with
  | nil => intro l l' vs e; cases vs with
    | nil => rfl
    | cons _ _ => exact no e
  | cons i is ih => intro l l' vs e; cases vs with
    | nil => exact no e
    | cons v vs => exact congrArg (· + 1) (ih e)
theorem names_take {top : Bool} {es : List Expr} {is : List Nat} {k : Nat} {c : Lc} {Ev : Value → Shared → Prop} (n : NamesAt top c.R.env.scope es is) (htop : top = true → c.R.top = true) {v : Value} {d : V} {vs : List V} {l : List (Option V)} {Q : Unit → Shared → Prop} (r : c.rep v d)
    (e : tupItems d = some vs) (hl : setLs c.st.loc is vs = some l) (h : ∀ s', Sat X c.R c.ρ { c.st with loc := l } s'.heap → Go X c.R c.ρ c.ρ c.st.objs c.st.objs c.s s' → Q () s') : wpAny (model X.prog X.w) c.A (assign (.Tuple es k p2) c.R.env v) Q Ev c.s := by
  obtain ⟨a, items, rfl, rr, ht⟩ := tup_at c.S r e
  have N := n.stores htop
  refine assign_Tuple_tuple c.hA.hn ht (N.2.1.trans ((setLs_len hl).trans rr.length.symm)) N.2.2 fun h' he => ?_
  exact stores_run (p := ⟨{ c.s with heap := h' }, c.ρ, c.st, c.S.grow (extBut_grow he)⟩) N.1 (repsGrow (extBut_grow he) rr) hl fun s' S' g => h s' S' ((Go.grow (s' := { c.s with heap := h' }) (st := c.st) (extBut_grow he) ⟨rfl, rfl, rfl⟩).trans g)
theorem sa_locs {es : List Expr} {is : List Nat} {k : Nat} (n : NamesAt true G.sc es is) : SA G (.Tuple es k p2) (.locs false is) := fun c ic htop v v0 Q E r h => by
  obtain ⟨vs, e, h1⟩ := optK_iff h
  obtain ⟨l, hl, hq⟩ := optK_iff h1
  exact names_take (ic.1 ▸ n) (fun _ => htop) r e hl fun s' S' g => Post.mk () _ c.ρ S' g trivial hq
theorem sa_sub {o i : Expr} {po pi : PE} (ho : SE G o po) (hi : SE G i pi) : SA G (.Subscript o i p2) (.sub po pi) := fun c ic htop v v0 Q E r h => by
  rw [assign_Subscript]
  exact wpAny_bind (wpAny_holding (Lc.seq0 (ho.run c ic _ _ h) fun ov do1 p g r1 q1 => wpAny_bind (wpAny_holding (Lc.seq (hi.run (c.mv p) ic _ _ q1) g fun iv di p2 g2 g2' r2 q2 =>
    wpAny_bind (wpAny_standAt (wpAny_bind (wpAny_holding (wpAny_mono (op_setIt (c := c.mv p2) (g2'.rep r1) r2 (g2.rep r) q2) (fun u s3 z => wpAny_release (Post.trans g2 _ _ z)) fun _ _ e => e.elim))))))))
theorem sa_att {o : Expr} {po : PE} (hK : KOk X) (ho : SE G o po) : SA G (.Attribute o x p2) (.att po x.cps.toList) := fun c ic htop v v0 Q E r h => by
  show c.go E (do
    let ov ← holding [v] (eval o c.R.env)
    standAt p2.atName
    holding [v, ov] (setAttr ov x v)
    release [v, ov] []) _ _
  exact wpAny_bind (wpAny_holding (Lc.seq0 (ho.run c ic _ _ h) fun ov do1 p g r1 q1 => wpAny_bind (wpAny_standAt (wpAny_bind (wpAny_holding (wpAny_mono (E := NoE) (by
    have := op_setAt (c := c.mv p) hK r1 (g.rep r) q1
    rw [str_eta] at this; exact this) (fun u s3 z => wpAny_release (Post.trans g _ _ z)) fun _ _ e => e.elim))))))
end
end Mine
namespace Mine
open PySem PySem.W PyProof.Rows PySem.Calls PySem.Spec
noncomputable def SS (G : Gx) (t : Stmt) (ps : PS) : Prop := ∀ c : Lc, c.In G → c.R.top = true → ∀ Q E, gS G.P ps c.st Q E → c.W relF (exec t c.R.env) Q E
noncomputable def SSs (G : Gx) (ts : List Stmt) (pss : PSs) : Prop := ∀ c : Lc, c.In G → c.R.top = true → ∀ Q E, gSs G.P pss c.st Q E → c.W relF (execs ts c.R.env) Q E
section
variable {G : Gx} {pos p1 p2 tp : Pos} {k : Nat} {e t : Expr} {pe : PE} {ts : List Stmt}
theorem two_of {α : Type} {vs : List α} {p : α × α} (e : two vs = some p) : vs = [p.1, p.2] := by
  cases vs with
  | nil => exact no e
  | cons x ds => cases ds with
    | nil => exact no e
    | cons y ds => cases ds with
      | nil => exact Option.some.inj e ▸ rfl
      | cons _ _ => exact no e
theorem sa_subs2 {o1 i1 o2 i2 : Expr} {po1 pi1 po2 pi2 : PE} (h1 : SA G (.Subscript o1 i1 p1) (.sub po1 pi1)) (h2 : SA G (.Subscript o2 i2 p2) (.sub po2 pi2)) :
    SA G (.Tuple [.Subscript o1 i1 p1, .Subscript o2 i2 p2] k pos) (.subs2 po1 pi1 po2 pi2) := fun c ic htop v v0 Q E r h => by
  obtain ⟨vs, e, h3⟩ := optK_iff h
  obtain ⟨q, eq, h4⟩ := optK_iff h3
  clear h h3
  obtain ⟨t, items, rfl, rr, ht⟩ := tup_at c.S r e
  obtain ⟨v1, v2, rfl, r1, r2⟩ := reps2 (two_of eq ▸ rr)
  refine assign_Tuple_tuple c.hA.hn ht (by rfl) (by rfl) fun h' he => ?_
  let p : Pt c.R := ⟨{ c.s with heap := h' }, c.ρ, c.st, c.S.grow (extBut_grow he)⟩
  have g0 : c.to p := Go.grow (st := c.st) (extBut_grow he) ⟨rfl, rfl, rfl⟩
  show c.go E (assignInOrder [assign (.Subscript o1 i1 p1) c.R.env, assign (.Subscript o2 i2 p2) c.R.env] [v1, v2]) _ p.s
  exact assignInOrder_cons (Lc.seq (rel := relU) (h1 (c.mv p) ic htop v1 q.1 _ E (g0.rep r1) h4) g0 fun _ _ q1 g1 _ _ h5 =>
    assignInOrder_cons (Lc.seq (rel := relU) (h2 (c.mv q1) ic htop v2 q.2 _ E (g1.rep r2) h5) g1 fun _ _ q2 g2 _ _ h6 => assignInOrder_nil (Lc.done (d := ()) g2 trivial h6)))
theorem sss_nil : SSs G [] .nil := fun c _ _ Q E h => wpAny_execs_nil (Lc.done (p := c.pt) (rel := relF) (d := .next) Lc.self trivial h)
theorem flow_by {r : Value → V → Prop} {fl : Flow} {dl : AFlow} {M : Flow → AFlow → Prop} (h : relF r fl dl) (h1 : M .next .next) (h2 : M .brk .brk) (h3 : M .cont .cont) (h4 : ∀ v d, r v d → M (.ret v) (.ret d)) : M fl dl := by
  cases fl with
  | next => cases dl with
    | next => exact h1
    | _ => exact h.elim
  | brk => cases dl with
    | brk => exact h2
    | _ => exact h.elim
  | cont => cases dl with
    | cont => exact h3
    | _ => exact h.elim
  | ret v => cases dl with
    | ret dv => exact h4 v dv h
    | _ => exact h.elim
theorem sss_cons {t : Stmt} {ps : PS} {pss : PSs} (ht : SS G t ps) (hr : SSs G ts pss) : SSs G (t :: ts) (.cons ps pss) := fun c ic htop Q E h =>
  wpAny_execs_cons (Lc.seq0 (ht c ic htop _ _ h) fun fl dl p g r1 =>
    flow_by (M := fun fl dl => flowK dl p.st (fun st1 => gSs G.P pss st1 Q E) Q → match fl with | .next => c.go E (execs ts c.R.env) (c.postR relF Q) p.s | f => c.postR relF Q f p.s) r1 (fun q => Lc.fin (hr (c.mv p) ic htop _ _ q) g)
      (fun q => Lc.done (rel := relF) (d := .brk) g trivial q) (fun q => Lc.done (rel := relF) (d := .cont) g trivial q) (fun v d r q => Lc.done (rel := relF) (d := .ret d) g r q))
theorem ss_expr (he : SE G e pe) (hi : ∀ env : Env, env.scope = G.sc → interactive env = false) (hs : ∀ env : Env, env.scope = G.sc → swapsWith e none pos.line env = pure false) : SS G (.Expr e pos) (.expr pe) := fun c ic htop Q E h => by
  unfold Lc.W
  rw [exec_Expr c.R.env e pos (hi _ ic.1) (hs _ ic.1)]
  exact wpAny_bind (wpAny_standAt (wpAny_bind (Lc.seq0 (he.run c ic _ _ h) fun v dv p g r1 q1 => wpAny_dropValue (Lc.done (rel := relF) (d := .next) g trivial q1))))
theorem ss_ret (he : SE G e pe) : SS G (.Return (some e) pos) (.ret pe) := fun c ic htop Q E h =>
  wpAny_Return_some (Lc.seq0 (he.run c ic _ _ h) fun v dv p g r1 q1 => Lc.done (rel := relF) (d := .ret dv) g r1 q1)
theorem ss_brk : SS G (.Break pos) .brk := fun c _ _ Q E h => wpAny_Break (Lc.done (p := c.pt) (rel := relF) (d := .brk) Lc.self trivial h)
theorem ss_cont : SS G (.Continue pos) .cont := fun c _ _ Q E h => wpAny_Continue (Lc.done (p := c.pt) (rel := relF) (d := .cont) Lc.self trivial h)
theorem ss_if {a b : List Stmt} {pt : PT1} {pa pb : PSs} (ht : ST G t pt) (ha : SSs G a pa) (hb : SSs G b pb) : SS G (.If t a b pos) (.ife pt pa pb) := fun c ic htop Q E h =>
  wpAny_If (Lc.seq0 (ht c ic _ _ h) fun b b' p g r1 q1 => by
    cases (show b = b' from r1)
    cases b with
    | true => exact Lc.fin (ha (c.mv p) ic htop _ _ q1) g
    | false => exact Lc.fin (hb (c.mv p) ic htop _ _ q1) g)
theorem ss_asg {pa : PA} (he : SE G e pe) (ht : SA G t pa) (hn : ∀ env, assignEach [t] env = [(false, assign t env)])
    (hs : ∀ env : Env, env.scope = G.sc → swapsWithSole [t] e pos.line env = pure false) (hw : ∀ env : Env, env.scope = G.sc → swappedStores [t] e env = pure none) : SS G (.Assign [t] e pos) (.asg pa pe) := fun c ic htop Q E h => by
  unfold Lc.W
  rw [exec_Assign, hs _ ic.1, hw _ ic.1, hn]
  refine wpAny_bind (wpAny_standAt (wpAny_bind (wpAny_pure ?_)))
  rw [if_neg (by decide)]
  refine wpAny_bind (Lc.seq0 (he.run c ic _ _ h) fun v dv p g r1 q1 => wpAny_bind (wpAny_pure ?_))
  show c.go E (do assignAll v [assign t c.R.env]; pure Flow.next) _ _
  exact wpAny_bind (Lc.seq (rel := relU) (ht (c.mv p) ic htop v dv _ E r1 q1) g fun _ _ p2 g2 _ _ q2 => wpAny_pure (Lc.done (rel := relF) (d := .next) g2 trivial q2))
noncomputable def BindsAt (sc : Scope) : List Str → List Nat → Prop
  | xs, [] => xs = []
  | xs, i :: is => ∃ x kd r, xs = x :: r ∧ sc.names[i]? = some (x, kd) ∧ (kd = .local ∨ kd = .cell) ∧ BindsAt sc r is
theorem BindsAt.snoc {x : Str} {i : Nat} {kd : NameKind} (e : G.sc.names[i]? = some (x, kd)) (hk : kd = .local ∨ kd = .cell) {is : List Nat} : ∀ {xs : List Str}, BindsAt G.sc xs is → BindsAt G.sc (xs ++ [x]) (is ++ [i]) := by
  induction is with
  | nil => intro xs n; cases n; exact ⟨x, kd, [], rfl, e, hk, rfl⟩
  | cons i is ih => rintro xs ⟨y, kd, r, rfl, h1, h2, h3⟩; exact ⟨y, kd, _, rfl, h1, h2, ih h3⟩
theorem BindsAt.rev {is : List Nat} : ∀ {xs : List Str}, BindsAt G.sc xs is → BindsAt G.sc xs.reverse is.reverse := by
  induction is with
  | nil => intro xs n; cases n; rfl
  | cons i is ih => rintro xs ⟨y, kd, r, rfl, h1, h2, h3⟩; rw [List.reverse_cons, List.reverse_cons]; exact (ih h3).snoc h1 h2
theorem BindsAt.stores {R : Rn} (htop : R.top = true) {is : List Nat} : ∀ {xs : List Str}, BindsAt R.env.scope xs is → StoresAll R (xs.map fun x => bindName R.env x) is := by
  induction is with
  | nil => intro xs n; cases n; rfl
  | cons i is ih => rintro xs ⟨y, kd, r, rfl, h1, h2, h3⟩; exact ⟨_, _, rfl, bindName_ok h1 (h2.imp id fun q => ⟨q, htop⟩), ih h3⟩
theorem BindsAt.len {sc : Scope} {is : List Nat} : ∀ {xs : List Str}, BindsAt sc xs is → xs.length = is.length := by
  induction is with
  | nil => intro xs n; cases n; rfl
  | cons i is ih => rintro xs ⟨y, kd, r, rfl, h1, h2, h3⟩; exact congrArg (· + 1) (ih h3)
theorem Reps.rev {Pp : Params} {src xa : Option Addr} {ρ : List Addr} {F : Vw} {ds : List V} : ∀ {vs : List Value}, Reps Pp src xa ρ F vs ds → Reps Pp src xa ρ F vs.reverse ds.reverse := by
  induction ds with
  | nil => intro vs r; cases r; rfl
  | cons d ds ih => rintro vs ⟨v, w, rfl, h1, h2⟩; rw [List.reverse_cons, List.reverse_cons]; exact (ih h2).append (.cons h1 .nil)
theorem ss_asgR {es : List Expr} {xs : List Str} {is : List Nat} (he : SE G e pe) (n : BindsAt G.sc xs is)
    (hs : ∀ env : Env, env.scope = G.sc → swapsWithSole [.Tuple es k tp] e pos.line env = pure false) (hw : ∀ env : Env, env.scope = G.sc → swappedStores [.Tuple es k tp] e env = pure (some xs)) : SS G (.Assign [.Tuple es k tp] e pos) (.asg (.locs true is) pe) := fun c ic htop Q E h => by
  refine Assign_Tuple_swapped (Lc.seq0 (he.run c ic _ _ h) fun v dv p g r1 q1 => ?_) (hs _ ic.1) (hw _ ic.1)
  obtain ⟨vs, e, h1⟩ := optK_iff q1
  obtain ⟨l, hl, hq⟩ := optK_iff h1
  obtain ⟨a, items, rfl, rr, ht⟩ := tup_at p.S r1 e
  have hlen : xs.length = items.toArray.size := by
    have := setLs_len hl
    rw [List.length_reverse, List.length_reverse] at this
    exact n.len.trans (this.trans rr.length.symm)
  rw [hlen]
  refine unpackItems_tuple c.hA.hn ht fun h' he => ?_
  rw [List.map_reverse]
  refine stores_run (p := ⟨{ p.s with heap := h' }, p.ρ, p.st, p.S.grow (extBut_grow he)⟩) (by rw [← List.map_reverse]; exact BindsAt.stores htop (ic.1 ▸ n.rev)) (repsGrow (extBut_grow he) rr).rev hl fun s' S' g' => ?_
  exact Post.mk .next _ p.ρ S' (g.trans ((Go.grow (s' := { p.s with heap := h' }) (st := p.st) (extBut_grow he) ⟨rfl, rfl, rfl⟩).trans g')) trivial hq
end
end Mine
namespace Mine
open PySem PySem.W PyProof.Rows PySem.Calls PySem.Spec
noncomputable def Rn.hide (R : Rn) (wr : List Addr) : Rn := { R with hid := wr ++ R.hid, sub := fun e he L q => (R.sub e he L q).imp id fun m => List.mem_append_right _ m }
theorem Sat.frNone {R : Rn} {ρ : List Addr} {st : St} {h : Heap} (S : Sat X R ρ st h) {a : Addr} (e : h.get? a = none) : a ∉ frs R := fun m => (S.frThere m).elim fun _ q => no (e.symm.trans q.1)
structure GoB (X : Cx) (R : Rn) (wr : List Addr) (ρ ρ' : List Addr) (os os' : List AObj) (s s' : Shared) : Prop where
  keep : ∀ b o, b ∉ ownOf X R ρ os → b ∉ wr → s.heap.get? b = some o → b ∉ ownOf X R ρ' os' ∧ (b ∉ frs R → s'.heap.get? b = some o) ∧ ∃ sl, s'.heap.get? b = some { o with slots := sl }
  fresh : ∀ a ∈ ownOf X R ρ' os', a ∈ ownOf X R ρ os ∨ (a ∉ wr ∧ s.heap.get? a = none)
  pre : ∀ (i : Nat) (a : Addr), ρ[i]? = some a → ρ'[i]? = some a
  same : Same s s'
section
variable {R : Rn} {wr : List Addr} {ρ ρ' ρ'' : List Addr} {os os' os'' : List AObj} {s s' s'' : Shared} {st : St} {h h' : Heap}
theorem Go.toB (g : Go X R ρ ρ' os os' s s') (l : ∀ b ∈ wr, ∃ o, s.heap.get? b = some o) : GoB X R wr ρ ρ' os os' s s' :=
  ⟨fun b o n _ e => g.stp.keep b o n e, fun a m => (g.stp.fresh a m).imp id fun e => ⟨fun w => (l a w).elim fun _ q => no (e.symm.trans q), e⟩, g.pre, g.same⟩
theorem GoB.trans (x : GoB X R wr ρ ρ' os os' s s') (y : GoB X R wr ρ' ρ'' os' os'' s' s'') : GoB X R wr ρ ρ'' os os'' s s'' := by
  refine ⟨fun b o n w e => ?_, fun a m => ?_, fun i a e => y.pre i a (x.pre i a e), x.same.trans y.same⟩
  · obtain ⟨n', k1, sl, k2⟩ := x.keep b o n w e
    obtain ⟨n'', l1, sl2, l2⟩ := y.keep b _ n' w k2
    exact ⟨n'', fun hf => (y.keep b o n' w (k1 hf)).2.1 hf, sl2, l2⟩
  rcases y.fresh a m with m' | ⟨w, l⟩
  · exact x.fresh a m'
  · by_cases hq : a ∈ ownOf X R ρ os
    · exact .inl hq
    · refine .inr ⟨w, ?_⟩
      cases e : s.heap.get? a with
      | none => rfl
      | some o => exact (x.keep a o hq w e).2.2.elim fun _ q => no (l.symm.trans q)
theorem GoB.go (x : GoB X R wr ρ ρ' os os' s s') (f : ∀ b ∈ wr, s.heap.get? b = none) : Go X R ρ ρ' os os' s s' :=
  ⟨⟨fun b o n e => x.keep b o n (fun w => no ((f b w).symm.trans e)) e, fun a m => (x.fresh a m).imp id And.right⟩, x.pre, x.same⟩
theorem GoB.step (same : Same s s') (k : ∀ b o, b ∉ wr → s.heap.get? b = some o → s'.heap.get? b = some o) : GoB X R wr ρ ρ os os s s' :=
  ⟨fun b o n w e => ⟨n, fun _ => k b o w e, _, k b o w e⟩, fun _ m => .inl m, fun _ _ e => e, same⟩
theorem Go.unhid (g : Go X (R.hide wr) ρ ρ' os os' s s') : Go X R ρ ρ' os os' s s' := ⟨g.stp, g.pre, g.same⟩
theorem GoB.vw (x : GoB X R wr ρ ρ' os os' s s') : ∀ a o, vwOf X (R.hide wr) ρ os s.heap a o → vwOf X (R.hide wr) ρ' os' s'.heap a o := by
  rintro a o ⟨n, e⟩
  have n1 : a ∉ ownOf X R ρ os := fun m => n (List.mem_append_left _ m)
  have n2 : a ∉ wr ++ R.hid := fun m => n (List.mem_append_right _ m)
  have k := x.keep a o n1 (fun m => n2 (List.mem_append_left _ m)) e
  exact ⟨fun m => (List.mem_append.mp m).elim k.1 n2, k.2.1 (frs_off n1 fun m => n2 (List.mem_append_right _ m))⟩
theorem GoB.rep (x : GoB X R wr ρ ρ' os os' s s') {v : Value} {d : V} (r : RepOf X (R.hide wr) ρ os s.heap v d) : RepOf X (R.hide wr) ρ' os' s'.heap v d := r.mono x.pre x.vw
theorem EnvOk.hide (E : EnvOk R) (wr : List Addr) : EnvOk (R.hide wr) :=
  ⟨E.kind, E.glob, E.blt, E.nodup, E.Lw, E.noDebug, fun p hp => ⟨(E.cells p hp).1, (E.cells p hp).2.imp id fun m => List.mem_append_right _ m⟩, E.cellsNd, E.own, E.all, E.hd⟩
structure Apart (R : Rn) (wr : List Addr) : Prop where
  cells : ∀ p ∈ R.env.cells, p.2 ∉ wr
  frs : ∀ b ∈ frs R, b ∉ wr
  hid : ∀ a ∈ R.hid, a ∉ wr
theorem Sat.apart (S : Sat X R ρ st h) (f : ∀ b ∈ wr, h.get? b = none) : Apart R wr :=
  ⟨fun p hp w => (S.cellsAre p hp).elim fun _ q => q.elim fun _ q => no ((f _ w).symm.trans q.1), fun b m w => (S.frThere m).elim fun _ q => no ((f _ w).symm.trans q.1), fun a m w => (S.there a (List.mem_append_right _ m)).elim fun _ q => no ((f _ w).symm.trans q)⟩
theorem Sat.hide (S : Sat X R ρ st h) (k : ∀ b o, h.get? b = some o → h'.get? b = some o) (f : ∀ b ∈ wr, h.get? b = none) (l : ∀ b ∈ wr, ∃ o, h'.get? b = some o) :
    Sat X (R.hide wr) ρ st h' ∧ ∀ a o, vwOf X R ρ st.objs h a o → vwOf X (R.hide wr) ρ st.objs h' a o := by
  have nw : ∀ a o, h.get? a = some o → a ∉ wr := fun a o e w => no ((f a w).symm.trans e)
  exact S.to (S.env.hide wr) (fun _ => False) (fun b o _ e => k b o e) (fun _ _ => id) (fun _ _ => id) (fun _ _ => id) (fun b o e => ⟨id, fun m => (List.mem_append.mp m).elim (nw b o (S.base b o e)) fun m => S.baseOff b o e (List.mem_append_right _ m)⟩)
    (fun a m q => (List.mem_append.mp q).elim (fun w => (S.there a (List.mem_append_left _ m)).elim fun o e => nw a o e w) (S.dis a m)) (fun a m => (List.mem_append.mp m).elim (l a) fun m => (S.there a (List.mem_append_right _ m)).imp fun o e => k a o e)
    fun a _ n o e => ⟨fun m => (List.mem_append.mp m).elim (nw a o e) n, id⟩
theorem Sat.hidStep (S : Sat X (R.hide wr) ρ st h) (k : ∀ b o, b ∉ wr → h.get? b = some o → h'.get? b = some o) (l : ∀ b ∈ wr, ∃ o, h'.get? b = some o) (ap : Apart R wr) : Sat X (R.hide wr) ρ st h' :=
  (S.to (hid' := wr ++ R.hid) S.env (· ∈ wr) (fun b o n e => k b o n e) (fun a m w => S.dis a m (List.mem_append_left _ w)) ap.cells ap.frs (fun b o e => ⟨fun w => S.baseOff b o e (List.mem_append_right _ (List.mem_append_left _ w)), fun m => S.baseOff b o e (List.mem_append_right _ m)⟩) S.dis
    (fun a m => (List.mem_append.mp m).elim (l a) fun w => (S.there a (List.mem_append_right _ m)).imp fun o e => k a o (ap.hid a w) e) fun a _ n o _ => ⟨n, fun w => n (List.mem_append_left _ w)⟩).1
theorem Sat.hidOut (S : Sat X (R.hide wr) ρ st h) (k : ∀ b o, b ∉ wr → h.get? b = some o → h'.get? b = some o) (E : EnvOk R) (ap : Apart R wr) : Sat X R ρ st h' ∧ ∀ a o, vwOf X (R.hide wr) ρ st.objs h a o → vwOf X R ρ st.objs h' a o :=
  S.to (hid' := R.hid) E (· ∈ wr) (fun b o n e => k b o n e) (fun a m w => S.dis a m (List.mem_append_left _ w)) ap.cells ap.frs (fun b o e => ⟨fun w => S.baseOff b o e (List.mem_append_right _ (List.mem_append_left _ w)), fun m => S.baseOff b o e (List.mem_append_right _ (List.mem_append_right _ m))⟩)
    (fun a m q => S.dis a m (List.mem_append_right _ q)) (fun a m => (S.there a (List.mem_append_right _ (List.mem_append_right _ m))).imp fun o e => k a o (ap.hid a m) e) fun a _ n o _ => ⟨fun m => n (List.mem_append_right _ m), fun w => n (List.mem_append_left _ w)⟩
end
end Mine
namespace Mine
open PySem PySem.W PyProof.Rows PySem.Calls PySem.Spec
def IsSq (k : Bool) (h : Heap) (l : Addr) (xs : Array Value) : Prop := match k with | true => h.IsList l xs | false => h.IsTuple l xs
def IsIt (k : Bool) (h : Heap) (i l : Addr) (n : Nat) : Prop := match k with | true => h.IsListIter i l n | false => h.IsTupleIter i l n
theorem IsSq.at {k : Bool} {h h' : Heap} {l : Addr} {xs : Array Value} (x : IsSq k h l xs) (e : ∀ o, h.get? l = some o → h'.get? l = some o) : IsSq k h' l xs := by
  cases k with
  | true => exact Heap.IsList.at x e
  | false => exact Heap.IsTuple.at x e
theorem IsIt.at {k : Bool} {h h' : Heap} {i l : Addr} {n : Nat} (x : IsIt k h i l n) (e : ∀ o, h.get? i = some o → h'.get? i = some o) : IsIt k h' i l n := by
  cases k with
  | true => exact Heap.IsListIter.at x e
  | false => exact Heap.IsTupleIter.at x e
theorem IsIt.there {k : Bool} {h : Heap} {i l : Addr} {n : Nat} (x : IsIt k h i l n) : ∃ o, h.get? i = some o := by
  cases k with
  | true => obtain ⟨o, e, _⟩ := x; exact ⟨o, e⟩
  | false => obtain ⟨o, e, _⟩ := x; exact ⟨o, e⟩
theorem IsIt.ext {k : Bool} {h h' : Heap} {i l b : Addr} {n : Nat} (x : IsIt k h i l n) (e : Heap.ExtBut b h h') (ne : i ≠ b) : IsIt k h' i l n := x.at fun o => e i o ne
theorem IsSq.ext {k : Bool} {h h' : Heap} {l b : Addr} {xs : Array Value} (x : IsSq k h l xs) (e : Heap.ExtBut b h h') (ne : l ≠ b) : IsSq k h' l xs := x.at fun o => e l o ne
section
variable {prog : Program} {w : World} {A : Around} {E : Value → Shared → Prop} {s : Shared}
theorem nextOf_tup {it t : Addr} {i : Nat} {items : Array Value} {x : Value} {Q : Value → Shared → Prop} (hit : s.heap.IsTupleIter it t i) (ht : s.heap.IsTuple t items) (hx : items[i]? = some x)
    (hQ : ∀ h', h'.IsTupleIter it t (i + 1) → Heap.SameBut it s.heap h' → Q x { s with heap := h' }) : wpAny (model prog w) A (Builtin.SmallTypes.nextOf (.ref it)) Q E s := by
  obtain ⟨o, ho, hc, hd⟩ := id hit
  obtain ⟨ol, hol, _, nl, hdl⟩ := ht
  unfold Builtin.SmallTypes.nextOf
  refine wpAny_bind (wpAny_callSpecial?_slot (name := Str.ofString "__next__") hit.typeIs F.slot_tuple_iterator_next
    (wpAny_call_entry F.slot_tuple_iterator_next hit.typeIs F.entry_tuple_iterator_next ?_ (F.args_tuple_iterator_next_1 _)))
  refine wpAny_bind (m := field (.ref it) 0) (wpAny_field ho hd (x := .ref t) rfl ?_)
  show wpAny _ _ (if (Value.ref t == Value.none) = true then _ else _) _ _ s
  rw [if_neg (show ¬ ((Value.ref t == Value.none) = true) from Bool.false_ne_true)]
  refine wpAny_bind (m := field (.ref it) 1) (wpAny_field ho hd (x := .int i 0) rfl ?_)
  refine wpAny_bind (m := seqItems? (.ref t)) (wpAny_seqItems hol hdl ?_)
  simp only [Int.toNat_natCast, hx]
  refine wpAny_bind (wpAny_setField ho hd (by simp) (wpAny_pure ⟨x, rfl, wpAny_pure (hQ _ ?_ (Heap.SameBut.update ..))⟩))
  exact ⟨_, Heap.get?_update_self _ ho (Obj.isFreed_of_fields (Obj.data_mapFields hd _)), (Obj.cls_mapFields ..).trans hc, by
    rw [Obj.data_mapFields hd]; simp [rawInt]⟩
theorem nextOf_tup_end {it t : Addr} {i : Nat} {items : Array Value} {Q : Value → Shared → Prop} (hh : A.handled = none) (hit : s.heap.IsTupleIter it t i) (ht : s.heap.IsTuple t items) (hx : items[i]? = none)
    (hE : ∀ h' e, Heap.ExtBut it s.heap h' → (∃ o, h'.get? e = some o ∧ o.cls = .type "StopIteration") → E (.ref e) { s with heap := h' }) : wpAny (model prog w) A (Builtin.SmallTypes.nextOf (.ref it)) Q E s := by
  obtain ⟨o, ho, hc, hd⟩ := id hit
  obtain ⟨ol, hol, _, nl, hdl⟩ := ht
  unfold Builtin.SmallTypes.nextOf
  refine wpAny_bind (wpAny_callSpecial?_slot (name := Str.ofString "__next__") hit.typeIs F.slot_tuple_iterator_next
    (wpAny_call_entry F.slot_tuple_iterator_next hit.typeIs F.entry_tuple_iterator_next ?_ (F.args_tuple_iterator_next_1 _)))
  refine wpAny_bind (m := field (.ref it) 0) (wpAny_field ho hd (x := .ref t) rfl ?_)
  show wpAny _ _ (if (Value.ref t == Value.none) = true then _ else _) _ _ s
  rw [if_neg (show ¬ ((Value.ref t == Value.none) = true) from Bool.false_ne_true)]
  refine wpAny_bind (m := field (.ref it) 1) (wpAny_field ho hd (x := .int i 0) rfl ?_)
  refine wpAny_bind (m := seqItems? (.ref t)) (wpAny_seqItems hol hdl ?_)
  simp only [Int.toNat_natCast, hx]
  refine wpAny_bind (wpAny_rule (wpAny_bind (wpAny_setField ho hd (by simp) ?_)))
  refine wpAny_bind (m := newExc (.type "StopIteration") []) ?_
  simp only [newExc, newTuple]
  refine wpAny_bind (wpAny_newObj_type ?_ (by size_fits))
  refine wpAny_bind (m := firstArgMember _ _) (wpAny_of_eq (a := Value.none) (by first | rfl | (simp only [firstArgMember]; rfl)) ?_)
  refine wpAny_newObj_type ?_ (by size_fits)
  simp only [raiseNew]
  refine wpAny_bind (wpAny_handled ?_)
  first | rw [show A.in1.handled = none from hh] | rw [hh]
  refine wpAny_bind (wpAny_pure (wpAny_throw ?_))
  exact hE _ _ (((Heap.SameBut.update ..).extBut.push _).push _) ⟨_, Heap.get?_push_size _ rfl, rfl⟩
theorem next_it {k : Bool} {i l : Addr} {n : Nat} {xs : Array Value} {x : Value} {Q : Value → Shared → Prop} (hi : IsIt k s.heap i l n) (hl : IsSq k s.heap l xs) (hx : xs[n]? = some x)
    (hQ : ∀ h', IsIt k h' i l (n + 1) → Heap.SameBut i s.heap h' → Q x { s with heap := h' }) : wpAny (model prog w) A (Builtin.SmallTypes.nextOf (.ref i)) Q E s := by
  cases k with
  | true => exact wpAny_nextOf_list_item hi hl hx hQ
  | false => exact nextOf_tup hi hl hx hQ
theorem next_stop {k : Bool} {i l : Addr} {n : Nat} {xs : Array Value} {Q : Value → Shared → Prop} (hh : A.handled = none) (hi : IsIt k s.heap i l n) (hl : IsSq k s.heap l xs) (hx : xs[n]? = none)
    (hE : ∀ h' e, Heap.ExtBut i s.heap h' → (∃ o, h'.get? e = some o ∧ o.cls = .type "StopIteration") → E (.ref e) { s with heap := h' }) : wpAny (model prog w) A (Builtin.SmallTypes.nextOf (.ref i)) Q E s := by
  cases k with
  | true => exact wpAny_nextOf_list_end hh hi hl hx hE
  | false => exact nextOf_tup_end hh hi hl hx hE
end
end Mine
namespace Mine
open PySem PySem.W PyProof.Rows PySem.Calls PySem.Spec
structure Zp where
  n : Nat
  kd : Bool → Bool
  l : Bool → Addr
  xs : Bool → Array Value
noncomputable abbrev zipObj (f0 : Value) (fl : Bool) (TI TO : Addr) : Obj := { cls := .type "zip", dict := none, data := .fields #[f0, .bool fl, .bool false, .ref TI, .ref TO], slots := #[] }
noncomputable def upd {α : Type} (f : Bool → α) (j : Bool) (v : α) : Bool → α := fun k => match j, k with
  | true, true => v
  | false, false => v
  | _, _ => f k
namespace Zp
variable (w : Zp)
noncomputable abbrev i (j : Bool) : Addr := match j with
  | false => w.n
  | true => w.n + 1
noncomputable abbrev TI : Addr := w.n + 2
noncomputable abbrev TO : Addr := w.n + 3
noncomputable abbrev z : Addr := w.n + 4
noncomputable def Out (b : Addr) : Prop := @LT.lt Nat _ b w.n ∨ @LT.lt Nat _ (w.n + 4) b
noncomputable def Off (h h' : Heap) : Prop := ∀ b o, w.Out b → h.get? b = some o → h'.get? b = some o
end Zp
structure ZAt (w : Zp) (f0 : Value) (fl : Bool) (n : Bool → Nat) (a : Bool → Value) (h : Heap) : Prop where
  z : h.get? w.z = some (zipObj f0 fl w.TI w.TO)
  ti : IsPair h w.TI (.ref (w.i false)) (.ref (w.i true))
  to : IsPair h w.TO (a false) (a true)
  it : ∀ j, IsIt (w.kd j) h (w.i j) (w.l j) (n j)
  sq : ∀ j, IsSq (w.kd j) h (w.l j) (w.xs j)
  lt : ∀ j, @LT.lt Nat _ (w.l j) w.n
section
variable {w : Zp} {f0 f1 : Value} {fl f2 j k : Bool} {n : Bool → Nat} {a b : Bool → Value} {h h' h'' : Heap}
theorem Zp.le_i (j : Bool) : @LE.le Nat _ w.n (w.i j) ∧ @LT.lt Nat _ (w.i j) (w.n + 2) := by
  cases j with
  | true => exact ⟨Nat.le_succ _, Nat.lt_succ_self _⟩
  | false => exact ⟨Nat.le_refl _, Nat.lt_add_of_pos_right (by decide)⟩
theorem Zp.i_ne {m : Nat} (j : Bool) (hm : 2 ≤ m) : w.i j ≠ w.n + m := Nat.ne_of_lt (Nat.lt_of_lt_of_le (Zp.le_i j).2 (Nat.add_le_add_left hm _))
theorem Zp.out_ne {c : Addr} {m : Nat} (hm : m ≤ 4) (o : w.Out c) : c ≠ w.n + m := fun q => o.elim (fun o => Nat.not_lt.mpr (Nat.le_add_right w.n m) (q ▸ o)) fun o => Nat.not_lt.mpr (Nat.add_le_add_left hm w.n) (q ▸ o)
theorem Zp.out_i {c : Addr} (o : w.Out c) (j : Bool) : c ≠ w.i j := by
  cases j with
  | true => exact Zp.out_ne (m := 1) (by decide) o
  | false => exact Zp.out_ne (m := 0) (by decide) o
theorem Zp.Off.refl : w.Off h h := fun _ _ _ e => e
theorem Zp.Off.trans (x : w.Off h h') (y : w.Off h' h'') : w.Off h h'' := fun b o k e => y b o k (x b o k e)
theorem Zp.off_at {m : Nat} (hm : m ≤ 4) (e : Heap.ExtBut (w.n + m) h h') : w.Off h h' := fun b o k q => e b o (Zp.out_ne hm k) q
theorem Zp.off_i (e : Heap.ExtBut (w.i j) h h') : w.Off h h' := fun b o k q => e b o (Zp.out_i k j) q
theorem ZAt.l_out (Z : ZAt w f0 fl n a h) (j : Bool) : w.Out (w.l j) := .inl (Z.lt j)
theorem add_ne {n m k : Nat} (h : m ≠ k) : n + m ≠ n + k := fun q => h (Nat.add_left_cancel q)
theorem ZAt.setZ (Z : ZAt w f0 fl n a h) (e : Heap.ExtBut w.z h h') (hz : h'.get? w.z = some (zipObj f1 f2 w.TI w.TO)) : ZAt w f1 f2 n a h' :=
  ⟨hz, e _ _ (add_ne (by decide)) Z.ti, e _ _ (add_ne (by decide)) Z.to, fun j => (Z.it j).ext e (Zp.i_ne j (by decide)), fun j => (Z.sq j).ext e (Zp.out_ne (by decide) (Z.l_out j)), Z.lt⟩
theorem ZAt.setTO (Z : ZAt w f0 fl n a h) (e : Heap.ExtBut w.TO h h') (ht : IsPair h' w.TO (b false) (b true)) : ZAt w f0 fl n b h' :=
  ⟨e _ _ (add_ne (by decide)) Z.z, e _ _ (add_ne (by decide)) Z.ti, ht, fun j => (Z.it j).ext e (Zp.i_ne j (by decide)), fun j => (Z.sq j).ext e (Zp.out_ne (by decide) (Z.l_out j)), Z.lt⟩
theorem upd_self {α : Type} {f : Bool → α} {v : α} : upd f j v j = v := by cases j <;> rfl
theorem ZAt.setIt {m : Nat} (Z : ZAt w f0 fl n a h) (e : Heap.ExtBut (w.i j) h h') (hi : IsIt (w.kd j) h' (w.i j) (w.l j) m) : ZAt w f0 fl (upd n j m) a h' := by
  have ne : ∀ {m : Nat}, 2 ≤ m → w.n + m ≠ w.i j := fun hm => (Zp.i_ne j hm).symm
  refine ⟨e _ _ (ne (by decide)) Z.z, e _ _ (ne (by decide)) Z.ti, e _ _ (ne (by decide)) Z.to, fun k => ?_, fun k => (Z.sq k).ext e (Zp.out_i (Z.l_out k) j), Z.lt⟩
  cases j with
  | true => cases k with
    | true => exact hi
    | false => exact (Z.it false).ext e (Nat.ne_of_lt (Nat.lt_succ_self _))
  | false => cases k with
    | true => exact (Z.it true).ext e (Nat.ne_of_gt (Nat.lt_succ_self _))
    | false => exact hi
theorem ZAt.keep (Z : ZAt w f0 fl n a h) (k : ∀ b o, (@LE.le Nat _ w.n b ∧ @LE.le Nat _ b (w.n + 4)) ∨ b = w.l true ∨ b = w.l false → h.get? b = some o → h'.get? b = some o) : ZAt w f0 fl n a h' := by
  have ki : ∀ j, (@LE.le Nat _ w.n (w.i j) ∧ @LE.le Nat _ (w.i j) (w.n + 4)) := fun j => ⟨(Zp.le_i j).1, Nat.le_of_lt (Nat.lt_of_lt_of_le (Zp.le_i j).2 (Nat.add_le_add_left (by decide) _))⟩
  have kl : ∀ j, w.l j = w.l true ∨ w.l j = w.l false := fun j => by cases j; exact .inr rfl; exact .inl rfl
  exact ⟨k _ _ (.inl ⟨Nat.le_add_right _ _, Nat.le_refl _⟩) Z.z, k _ _ (.inl ⟨Nat.le_add_right _ _, Nat.add_le_add_left (by decide) _⟩) Z.ti, k _ _ (.inl ⟨Nat.le_add_right _ _, Nat.add_le_add_left (by decide) _⟩) Z.to, fun j => (Z.it j).at fun o => k _ o (.inl (ki j)), fun j => (Z.sq j).at fun o => k _ o (.inr (kl j)), Z.lt⟩
end
section
variable {prog : Program} {W : World} {A : Around} {E : Value → Shared → Prop} {s : Shared} {w : Zp} {f0 : Value} {fl j : Bool} {n : Bool → Nat} {a : Bool → Value}
noncomputable def StopAt (h : Heap) (e : Addr) : Prop := ∃ o, h.get? e = some o ∧ o.cls = .type "StopIteration"
theorem draw (hn : A.handled = none) (Z : ZAt w f0 fl n a s.heap) {Q : Value → Shared → Prop}
    (hN : ∀ x h', (w.xs j)[n j]? = some x → ZAt w f0 fl (upd n j (n j + 1)) a h' → h'.objs.size = s.heap.objs.size → w.Off s.heap h' → Heap.ExtBut (w.i j) s.heap h' → Q x { s with heap := h' })
    (hS : (w.xs j)[n j]? = none → ∀ h' e, h'.get? w.z = some (zipObj f0 fl w.TI w.TO) → w.Off s.heap h' → StopAt h' e → E (.ref e) { s with heap := h' }) : wpAny (model prog W) A (Builtin.SmallTypes.nextOf (.ref (w.i j))) Q E s := by
  cases hx : (w.xs j)[n j]? with
  | none => exact next_stop hn (Z.it j) (Z.sq j) hx fun h' e k he => hS hx h' e (k _ _ (Zp.i_ne j (by decide)).symm Z.z) (Zp.off_i k) he
  | some x => exact next_it (Z.it j) (Z.sq j) hx fun h' hi sb => hN x h' hx (Z.setIt sb.extBut hi) sb.1 (Zp.off_i sb.extBut) sb.extBut
theorem forIn_two {M : Model} {α β : Type} {f : α → β → Sem (ForInStep β)} {x : Bool → α} {Q : β → Shared → Prop} (b : Nat → β) (I : Nat → Shared → Prop)
    (body : ∀ j s1, I j.toNat s1 → wpAny M A (f (x j) (b j.toNat)) (fun r s2 => match r with | .yield b' => b' = b (j.toNat + 1) ∧ I (j.toNat + 1) s2 | .done b' => Q b' s2) E s1) (fin : ∀ s', I 2 s' → Q (b 2) s') (h : I 0 s) : wpAny M A (forIn [x false, x true] (b 0) f) Q E s := by
  rw [List.forIn_cons]
  refine wpAny_bind (wpAny_mono (body false s h) (fun r s1 q => ?_) fun _ _ q => q)
  cases r with
  | done b' => exact wpAny_pure q
  | yield b' =>
    rw [show b' = b 1 from q.1]
    show wpAny M A (forIn [x true] (b 1) f) Q E s1
    rw [List.forIn_cons]
    refine wpAny_bind (wpAny_mono (body true s1 q.2) (fun r s2 q => ?_) fun _ _ q => q)
    cases r with
    | done b' => exact wpAny_pure q
    | yield b' => rw [show b' = b 2 from q.1]; exact wpAny_pure (fin _ q.2)
noncomputable def vec (m k : Nat) (i : Bool) : Nat := match Nat.blt i.toNat k with
  | true => m + 1
  | false => m
theorem vec_upd {m : Nat} : upd (vec m j.toNat) j (vec m j.toNat j + 1) = vec m (j.toNat + 1) := funext fun i => by cases j <;> cases i <;> rfl
theorem vec_at {m : Nat} : vec m j.toNat j = m := by cases j <;> rfl
theorem vec_start {m : Nat} : vec m 0 = fun _ => m := funext fun i => by cases i <;> rfl
theorem vec_end {m : Nat} : vec m 2 = fun _ => m + 1 := funext fun i => by cases i <;> rfl
noncomputable def Zp.val (w : Zp) (m : Nat) (j : Bool) : Value := ((w.xs j)[m]?).getD .none
theorem val_of {m : Nat} {v : Value} (h : (w.xs j)[m]? = some v) : w.val m j = v := by unfold Zp.val; rw [h]; rfl
noncomputable def mix (w : Zp) (m : Nat) (a : Bool → Value) (k : Nat) (i : Bool) : Value := match Nat.blt i.toNat k with
  | true => w.val m i
  | false => a i
noncomputable def Has (w : Zp) (m k : Nat) : Prop := ∀ i : Bool, Nat.blt i.toNat k = true → (w.xs i)[m]? = some (w.val m i)
theorem has_upd {m : Nat} {v : Value} (d : Has w m j.toNat) (h : (w.xs j)[m]? = some v) : Has w m (j.toNat + 1) := fun i q => by
  have e := h.trans (congrArg some (val_of h).symm)
  cases j with
  | true => cases i with
    | true => exact e
    | false => exact d false rfl
  | false => cases i with
    | true => exact absurd q nofun
    | false => exact e
theorem zip_stop {e : Addr} {Q : Bool → Shared → Prop} (he : StopAt s.heap e) (h : Q true s) : wpAny (model prog W) A (isInstance (.ref e) (.type "StopIteration")) Q E s :=
  he.elim fun oe q => wpAny_isInstance (T := "StopIteration") (b := true) ⟨oe, q.1, q.2⟩ isSubtype_stop h
theorem stop_z {h h' : Heap} {e : Addr} (hz : h.get? w.z = some (zipObj f0 fl w.TI w.TO)) (he : StopAt h e) (k : Heap.ExtBut w.z h h') : StopAt h' e := he.imp fun oe q => ⟨k _ _ (fun y => by subst y; cases hz.symm.trans q.1; exact absurd q.2 (by simp)) q.1, q.2⟩
structure ZMid (w : Zp) (s : Shared) (f0 : Value) (fl : Bool) (c : Nat → Bool → Value) (m k : Nat) (s1 : Shared) : Prop where
  at_ : ZAt w f0 fl (vec m k) (c k) s1.heap
  has : Has w m k
  size : s1.heap.objs.size = s.heap.objs.size
  off : w.Off s.heap s1.heap
  same : s1 = { s with heap := s1.heap }
theorem ZMid.put {s1 : Shared} {m : Nat} {v : Value} {hb hc : Heap} (Z : ZMid w s f0 fl (mix w m a) m j.toNat s1) (hx : (w.xs j)[vec m j.toNat j]? = some v) (Z2 : ZAt w f0 fl (upd (vec m j.toNat) j (vec m j.toNat j + 1)) (mix w m a j.toNat) hb) (z2 : hb.objs.size = s1.heap.objs.size) (o2 : w.Off s1.heap hb)
    (hTO : hc.get? w.TO = some { cls := .type "tuple", data := .seq ((#[mix w m a j.toNat false, mix w m a j.toNat true] : Array Value).setIfInBounds j.toNat v) }) (sc : Heap.SameBut w.TO hb hc) : ZMid w s f0 fl (mix w m a) m (j.toNat + 1) { s1 with heap := hc } := by
  have hx : (w.xs j)[m]? = some v := vec_at (m := m) (j := j) ▸ hx
  have e := val_of hx
  refine ⟨vec_upd (m := m) (j := j) ▸ Z2.setTO sc.extBut ?_, has_upd Z.has hx, sc.1.trans (z2.trans Z.size), (Z.off.trans o2).trans (Zp.off_at (by decide) sc.extBut), ?_⟩
  · cases j <;> (cases e; exact hTO)
  · show ({ s1 with heap := hc } : Shared) = _
    rw [Z.same]
theorem heap_at {s s1 : Shared} {P : Shared → Prop} {h : Heap} (e : s1 = { s with heap := s1.heap }) (p : P { s with heap := h }) : P { s1 with heap := h } := by
  rw [e]
  exact p
theorem zip_free {m : Nat} {Q : Option Value → Shared → Prop} (hn : A.handled = none) (Z : ZAt w .none false (fun _ => m) a s.heap)
    (hQ : ∀ h', (∀ j, (w.xs j)[m]? = some (w.val m j)) → ZAt w (rawInt s.heap.objs.size) false (fun _ => m + 1) (w.val m) h' → IsPair h' s.heap.objs.size (w.val m false) (w.val m true) → w.Off s.heap h' → Q (some (.ref s.heap.objs.size)) { s with heap := h' })
    (hS : (∃ j, (w.xs j)[m]? = none) → ∀ h', w.Off s.heap h' → Q none { s with heap := h' }) : wpAny (model prog W) A (pyNext (.ref w.z)) Q E s := by
  unfold pyNext
  refine wpAny_bind (wpAny_attempt (wpAny_callSpecial?_slot (name := Str.ofString "__next__") ⟨_, Z.z, rfl⟩ F.slot_zip_next (wpAny_call_entry F.slot_zip_next ⟨_, Z.z, rfl⟩ F.entry_zip_next ?_ (F.args_zip_next_1 _))))
  refine wpAny_bind (m := field (.ref w.z) 2) (wpAny_field Z.z rfl (x := .bool false) rfl ?_)
  refine wpAny_bind (m := field (.ref w.z) 3) (wpAny_field Z.z rfl (x := .ref w.TI) rfl (wpAny_bind (wpAny_seqItems Z.ti rfl ?_)))
  refine wpAny_bind (m := Builtin.SmallTypes.ownedTupleIsFree (.ref w.z)) (wpAny_bind (wpAny_field Z.z rfl (x := .none) rfl (wpAny_pure ?_)))
  refine wpAny_bind (wpAny_rule (wpAny_bind (wpAny_field Z.z rfl (x := .ref w.TO) rfl (wpAny_bind (wpAny_setField_rec Z.z (by show 0 < 5; decide) fun ha hz1 sa => wpAny_bind ?_)))))
  refine forIn_two (x := fun j => (Value.ref (w.i j), j.toNat)) (fun _ => (none, ())) (fun k s1 => ZMid w s .ellipsis false (mix w m a) m k s1) (fun j s1 M => ?_) (fun s1 M => ?_)
    ⟨(vec_start (m := m)).symm ▸ Z.setZ (f1 := .ellipsis) (f2 := false) sa.extBut hz1, fun i q => absurd q nofun, sa.1, Zp.off_at (m := 4) (by decide) sa.extBut, rfl⟩
  · refine wpAny_bind (wpAny_onRaise (wpAny_bind (m := Builtin.SmallTypes.nextOf (.ref (w.i j))) (draw (A := A.in1) hn M.at_ (fun v hb hx Z2 z2 o2 _ => wpAny_pure ?_) fun hx hb e hz o2 he => ?_)))
    · exact wpAny_bind (wpAny_seqItems Z2.to rfl (wpAny_bind (wpAny_updateSeq_pair Z2.to fun hc hTO sc => wpAny_bind (wpAny_letGo (wpAny_pure ⟨rfl, M.put hx Z2 z2 o2 hTO sc⟩)))))
    · exact wpAny_setField_rec hz (by show 0 < 5; decide) fun hf _ sf => wpAny_bind (zip_stop (stop_z hz he sf.extBut) (wpAny_pure (heap_at (s1 := s1) (P := Q none) M.same (hS ⟨j, vec_at (m := m) (j := j) ▸ hx⟩ hf ((M.off.trans o2).trans (Zp.off_at (by decide) sf.extBut))))))
  · refine wpAny_bind (wpAny_seqItems M.at_.to rfl (wpAny_bind (wpAny_newTuple (wpAny_bind (m := Builtin.SmallTypes.ownedTupleHandOut (.ref w.z) (.ref s1.heap.objs.size)) ?_))))
    refine wpAny_bind (m := setField (.ref w.z) 0 _) (wpAny_setField_rec (Heap.get?_push_of_some _ M.at_.z) (by show 0 < 5; decide) fun hg hzg sg => wpAny_setField_rec hzg (by show 1 < 5; decide) fun hh hzh sh => wpAny_pure ⟨_, rfl, wpAny_pure ?_⟩)
    have Z5 : ZAt w .ellipsis false (fun _ => m + 1) (w.val m) s1.heap := by
      have := M.at_
      rw [vec_end, show mix w m a 2 = w.val m from funext fun i => by cases i <;> rfl] at this
      exact this
    have hlt : w.z ≠ s1.heap.objs.size := Nat.ne_of_lt (Heap.lt_size Z5.z)
    have ex : Heap.ExtBut w.z s1.heap hh := fun b o n q => sh.extBut _ _ n (sg.extBut _ _ n (Heap.get?_push_of_some _ q))
    have q := hQ hh (fun j => M.has j (by cases j <;> rfl)) (M.size ▸ Z5.setZ (f2 := false) ex hzh) (M.size ▸ sh.extBut _ _ hlt.symm (sg.extBut _ _ hlt.symm (Heap.get?_push_size _ rfl))) (M.off.trans (Zp.off_at (by decide) ex))
    rw [M.size]
    exact heap_at (s1 := s1) (P := Q _) M.same q
theorem held_free {T : Nat} {TI TO z : Addr} {Q : Bool → Shared → Prop} (hz : s.heap.get? z = some (zipObj (rawInt T) fl TI TO)) (hT : ∃ o, s.heap.get? T = some o)
    (hQ : ∀ h', h'.get? z = some (zipObj (rawInt T) true TI TO) → Heap.SameBut z s.heap h' → Q false { s with heap := h' }) : wpAny (model prog W) A (Builtin.SmallTypes.ownedTupleIsFree (.ref z)) Q E s := by
  obtain ⟨o, hT⟩ := hT
  unfold Builtin.SmallTypes.ownedTupleIsFree
  refine wpAny_bind (wpAny_field hz rfl (x := rawInt T) rfl ?_)
  show wpAny _ _ (loadIfAlive ((T : Int).toNat) >>= _) _ _ _
  rw [Int.toNat_natCast]
  refine wpAny_bind (kdx_alive hT (wpAny_bind (wpAny_field hz rfl (x := .bool fl) rfl ?_)))
  cases fl with
  | true => exact wpAny_pure (hQ s.heap hz ⟨rfl, fun _ _ => rfl⟩)
  | false => exact wpAny_bind (wpAny_setField_rec hz (by show 1 < 5; decide) fun ha hz1 sa => wpAny_pure (hQ ha hz1 sa))
noncomputable def got (w : Zp) (m : Nat) : Nat → Array Value
  | 0 => #[]
  | 1 => #[w.val m false]
  | _ => #[w.val m false, w.val m true]
theorem got_push {m : Nat} {v : Value} (h : (w.xs j)[m]? = some v) : (got w m j.toNat).push v = got w m (j.toNat + 1) := by cases val_of h; cases j <;> rfl
theorem ZMid.draw {s1 : Shared} {m : Nat} {v : Value} {hb : Heap} {c : Nat → Bool → Value} (Z : ZMid w s f0 fl c m j.toNat s1) (hx : (w.xs j)[vec m j.toNat j]? = some v) (Z2 : ZAt w f0 fl (upd (vec m j.toNat) j (vec m j.toNat j + 1)) (c (j.toNat + 1)) hb) (z2 : hb.objs.size = s1.heap.objs.size) (o2 : w.Off s1.heap hb) : ZMid w s f0 fl c m (j.toNat + 1) { s1 with heap := hb } :=
  ⟨vec_upd (m := m) (j := j) ▸ Z2, has_upd Z.has (vec_at (m := m) (j := j) ▸ hx), z2.trans Z.size, Z.off.trans o2, by show ({ s1 with heap := hb } : Shared) = _; rw [Z.same]⟩
theorem zip_held {m : Nat} {T : Nat} {Q : Option Value → Shared → Prop} (hn : A.handled = none) (hT : ∃ o, s.heap.get? T = some o) (Z : ZAt w (rawInt T) fl (fun _ => m) a s.heap)
    (hQ : ∀ h', (∀ j, (w.xs j)[m]? = some (w.val m j)) → ZAt w (rawInt T) true (fun _ => m + 1) a h' → IsPair h' s.heap.objs.size (w.val m false) (w.val m true) → w.Off s.heap h' → Q (some (.ref s.heap.objs.size)) { s with heap := h' })
    (hS : (∃ j, (w.xs j)[m]? = none) → ∀ h', w.Off s.heap h' → Q none { s with heap := h' }) : wpAny (model prog W) A (pyNext (.ref w.z)) Q E s := by
  unfold pyNext
  refine wpAny_bind (wpAny_attempt (wpAny_callSpecial?_slot (name := Str.ofString "__next__") ⟨_, Z.z, rfl⟩ F.slot_zip_next (wpAny_call_entry F.slot_zip_next ⟨_, Z.z, rfl⟩ F.entry_zip_next ?_ (F.args_zip_next_1 _))))
  refine wpAny_bind (m := field (.ref w.z) 2) (wpAny_field Z.z rfl (x := .bool false) rfl ?_)
  refine wpAny_bind (m := field (.ref w.z) 3) (wpAny_field Z.z rfl (x := .ref w.TI) rfl (wpAny_bind (wpAny_seqItems Z.ti rfl ?_)))
  refine wpAny_bind (m := Builtin.SmallTypes.ownedTupleIsFree (.ref w.z)) (held_free Z.z hT fun ha hza sa => wpAny_bind ?_)
  rw [← Array.forIn_toList]
  refine forIn_two (x := fun j => Value.ref (w.i j)) (fun k => (none, got w m k)) (fun k s1 => ZMid w s (rawInt T) true (fun _ => a) m k s1) (fun j s1 M => ?_) (fun s1 M => ?_)
    ⟨(vec_start (m := m)).symm ▸ Z.setZ sa.extBut hza, fun i q => absurd q nofun, sa.1, Zp.off_at (m := 4) (by decide) sa.extBut, rfl⟩
  · refine wpAny_bind (wpAny_holding (wpAny_bind (m := Builtin.SmallTypes.nextOf (.ref (w.i j))) (draw (A := A.in1) hn M.at_ (fun v hb hx Z2 z2 o2 _ => wpAny_pure (wpAny_pure ⟨congrArg (Prod.mk none) (got_push (vec_at (m := m) (j := j) ▸ hx)), M.draw hx Z2 z2 o2⟩)) fun hx hb e hz o2 he => ?_)))
    exact wpAny_bind (zip_stop he (wpAny_pure (heap_at (s1 := s1) (P := Q none) M.same (hS ⟨j, vec_at (m := m) (j := j) ▸ hx⟩ hb (M.off.trans o2)))))
  · refine wpAny_bind (wpAny_newTuple (wpAny_pure ⟨_, rfl, wpAny_pure ?_⟩) (hsz := by show 2 ≤ sizeLine; decide))
    have up : ∀ c o, s1.heap.get? c = some o → (s1.heap.push { cls := .type "tuple", data := .seq #[w.val m false, w.val m true] }).get? c = some o := fun c o q => Heap.get?_push_of_some _ q
    have q := hQ _ (fun j => M.has j (by cases j <;> rfl)) (vec_end (m := m) ▸ M.at_.keep fun b o _ q => up b o q) (M.size ▸ Heap.get?_push_size _ rfl) (M.off.trans fun b o _ q => up b o q)
    rw [M.size]
    exact heap_at (s1 := s1) (P := Q _) M.same q
end
end Mine
namespace Mine
open PySem PySem.W PyProof.Rows PySem.Calls PySem.Spec
noncomputable abbrev itObj (k : Bool) (l : Addr) : Obj := { cls := .type (match k with | true => "list_iterator" | false => "tuple_iterator"), data := .fields #[.ref l, .int 0 0] }
theorem itObj_is (k : Bool) (h : Heap) (l : Addr) : IsIt k (h.push (itObj k l)) h.objs.size l 0 := by
  cases k with
  | true => exact ⟨_, Heap.get?_push_size _ rfl, rfl, rfl⟩
  | false => exact ⟨_, Heap.get?_push_size _ rfl, rfl, rfl⟩
section
variable {prog : Program} {w : World} {A : Around} {E : Value → Shared → Prop} {s : Shared}
theorem pyIter_sq {k : Bool} {l : Addr} {xs : Array Value} {Q : Value → Shared → Prop} (hl : IsSq k s.heap l xs) (hQ : Q (.ref s.heap.objs.size) { s with heap := s.heap.push (itObj k l) }) : wpAny (model prog w) A (pyIter (.ref l)) Q E s := by
  cases k with
  | true => exact wpAny_pyIter_list hl hQ
  | false => exact wpAny_pyIter_tuple hl hQ
end
noncomputable abbrev zH1 (k1 : Bool) (h : Heap) (l1 : Addr) : Heap := h.push (itObj k1 l1)
noncomputable abbrev zH2 (k1 k2 : Bool) (h : Heap) (l1 l2 : Addr) : Heap := (zH1 k1 h l1).push (itObj k2 l2)
noncomputable abbrev zH3 (k1 k2 : Bool) (h : Heap) (l1 l2 : Addr) : Heap := (zH2 k1 k2 h l1 l2).push { cls := .type "tuple", data := .seq #[.ref h.objs.size, .ref (zH1 k1 h l1).objs.size] }
noncomputable abbrev zH4 (k1 k2 : Bool) (h : Heap) (l1 l2 : Addr) : Heap := (zH3 k1 k2 h l1 l2).push { cls := .type "tuple", data := .seq #[.none, .none] }
noncomputable abbrev zH5 (k1 k2 : Bool) (h : Heap) (l1 l2 : Addr) : Heap := (zH4 k1 k2 h l1 l2).push { cls := .type "zip", data := .fields #[.none, .bool false, .bool false, .ref (zH2 k1 k2 h l1 l2).objs.size, .ref (zH3 k1 k2 h l1 l2).objs.size] }
theorem zip_made (k1 k2 : Bool) (l1 l2 : Addr) (xs ys : Array Value) :
    Meets (Builtin.«zip.__new__» ⟨[.type "zip", .ref l1, .ref l2], []⟩) (fun _ R s => IsSq k1 s.heap l1 xs ∧ IsSq k2 s.heap l2 ys ∧
      R (.ok (.ret (.ref (zH4 k1 k2 s.heap l1 l2).objs.size))) { s with heap := zH5 k1 k2 s.heap l1 l2 }) :=
  .of_wp fun prog w A R s h => by
    obtain ⟨hp, g, d, tk, os⟩ := s; obtain ⟨hl1, hl2, h⟩ := h
    have hsub := sub_zip
    have hL1 : IsSq k1 (Shared.heap ⟨hp, g, d, tk, os⟩) l1 xs := hl1
    have hL2 : IsSq k2 (Shared.heap ⟨hp.push (itObj k1 l1), g, d, tk, os⟩) l2 ys := hl2.at fun o e => Heap.get?_push_of_some _ e
    wp_walk using pyIter_sq hL1, pyIter_sq hL2
    exact ⟨_, rfl, h⟩
section
variable {prog : Program} {w : World} {A : Around} {E : Value → Shared → Prop} {s : Shared}
theorem IsSq.there {k : Bool} {h : Heap} {l : Addr} {xs : Array Value} (x : IsSq k h l xs) : ∃ o, h.get? l = some o := by
  cases k with
  | true => exact x.imp fun _ q => q.1
  | false => exact x.imp fun _ q => q.1
theorem zip_heap (k1 k2 : Bool) (h : Heap) (l1 l2 : Addr) : (zH4 k1 k2 h l1 l2).objs.size = h.objs.size + 4 ∧ (zH5 k1 k2 h l1 l2).get? (h.objs.size + 4) = some (zipObj .none false (h.objs.size + 2) (h.objs.size + 3)) ∧ IsPair (zH5 k1 k2 h l1 l2) (h.objs.size + 2) (.ref h.objs.size) (.ref (h.objs.size + 1)) ∧
    IsPair (zH5 k1 k2 h l1 l2) (h.objs.size + 3) .none .none ∧ IsIt k1 (zH5 k1 k2 h l1 l2) h.objs.size l1 0 ∧ IsIt k2 (zH5 k1 k2 h l1 l2) (h.objs.size + 1) l2 0 := by
  have z1 : (zH1 k1 h l1).objs.size = h.objs.size + 1 := Heap.size_push ..
  have z2 : (zH2 k1 k2 h l1 l2).objs.size = h.objs.size + 2 := (Heap.size_push ..).trans (congrArg (· + 1) z1)
  have z3 : (zH3 k1 k2 h l1 l2).objs.size = h.objs.size + 3 := (Heap.size_push ..).trans (congrArg (· + 1) z2)
  have z4 : (zH4 k1 k2 h l1 l2).objs.size = h.objs.size + 4 := (Heap.size_push ..).trans (congrArg (· + 1) z3)
  have g5 : (zH5 k1 k2 h l1 l2).get? (zH4 k1 k2 h l1 l2).objs.size = some (zipObj .none false (zH2 k1 k2 h l1 l2).objs.size (zH3 k1 k2 h l1 l2).objs.size) := Heap.get?_push_size _ rfl
  have g4 : IsPair (zH5 k1 k2 h l1 l2) (zH3 k1 k2 h l1 l2).objs.size .none .none := Heap.get?_push_of_some _ (Heap.get?_push_size _ rfl)
  have g3 : IsPair (zH5 k1 k2 h l1 l2) (zH2 k1 k2 h l1 l2).objs.size (.ref h.objs.size) (.ref (zH1 k1 h l1).objs.size) := Heap.get?_push_of_some _ (Heap.get?_push_of_some _ (Heap.get?_push_size _ rfl))
  have j2 : IsIt k2 (zH5 k1 k2 h l1 l2) (zH1 k1 h l1).objs.size l2 0 := (itObj_is k2 (zH1 k1 h l1) l2).at fun o x => Heap.get?_push_of_some _ (Heap.get?_push_of_some _ (Heap.get?_push_of_some _ x))
  rw [z2, z3, z4] at g5
  rw [z1, z2] at g3
  rw [z3] at g4
  rw [z1] at j2
  exact ⟨z4, g5, g3, g4, (itObj_is k1 h l1).at fun o x => Heap.get?_push_of_some _ (Heap.get?_push_of_some _ (Heap.get?_push_of_some _ (Heap.get?_push_of_some _ x))), j2⟩
theorem zip_call {kd : Bool → Bool} {l : Bool → Addr} {xs : Bool → Array Value} {Q : Value → Shared → Prop} (hl : ∀ j, IsSq (kd j) s.heap (l j) (xs j))
    (h : ∀ h', ZAt ⟨s.heap.objs.size, kd, l, xs⟩ .none false (fun _ => 0) (fun _ => .none) h' → (∀ c o, s.heap.get? c = some o → h'.get? c = some o) → Q (.ref (s.heap.objs.size + 4)) { s with heap := h' }) :
    wpAny (model prog w) A (call (.type "zip") [.ref (l false), .ref (l true)]) Q E s := by
  refine callType_new F.called_zip (by decide) (F.typeCall_zip_2 _ _) (F.newCall_zip_2 _ _) (fun obj => F.args_object_init_3 obj _ _) F.entry_zip_new
    (zip_made (kd false) (kd true) (l false) (l true) (xs false) (xs true)) ⟨hl false, hl true, ?_⟩
  have lt : ∀ j, @LT.lt Nat _ (l j) s.heap.objs.size := fun j => (hl j).there.elim fun o e => Heap.lt_size e
  have H := zip_heap (kd false) (kd true) s.heap (l false) (l true)
  rw [H.1]
  have kk : ∀ c o, s.heap.get? c = some o → (zH5 (kd false) (kd true) s.heap (l false) (l true)).get? c = some o := fun c o x =>
    Heap.get?_push_of_some _ (Heap.get?_push_of_some _ (Heap.get?_push_of_some _ (Heap.get?_push_of_some _ (Heap.get?_push_of_some _ x))))
  exact ⟨⟨_, H.2.1, rfl⟩, h _ ⟨H.2.1, H.2.2.1, H.2.2.2.1, fun j => by cases j; exact H.2.2.2.2.1; exact H.2.2.2.2.2, fun j => (hl j).at (kk _), lt⟩ kk⟩
end
noncomputable def Kp (wr : List Addr) (h h' : Heap) : Prop := (∀ b o, b ∉ wr → h.get? b = some o → h'.get? b = some o) ∧ ∀ b ∈ wr, ∃ o, h'.get? b = some o
noncomputable def Shown (src : Option Addr) (F : Vw) (h h' : Heap) (v : Value) (d : D) : Prop := ∀ F' : Vw, (∀ a o, F a o → F' a o) → (∀ a o, h.get? a = none → h'.get? a = some o → F' a o) → DRep X.w.params src F' v d
structure Turns (src : Option Addr) (F : Vw) (A : Around) (I : Addr) (fp wr : List Addr) (tg : Expr) (ds : List D) (Sx : Nat → Heap → Prop) : Prop where
  frame : ∀ i h h', Sx i h → (∀ b, b ∈ wr ∨ b ∈ fp → ∀ o, h.get? b = some o → h'.get? b = some o) → Sx i h'
  live : ∀ i h, Sx i h → ∀ b ∈ wr, ∃ o, h.get? b = some o
  item : ∀ i d (s : Shared) (Q : Option Value → Shared → Prop) (E : Value → Shared → Prop), ds[i]? = some d → Sx i s.heap →
    (∀ v h1 tk, Shown src F s.heap h1 v d → Kp wr s.heap h1 →
      (∀ (Q' : Unit → Shared → Prop) (E' : Value → Shared → Prop), (∀ h2, Sx (i + 1) h2 → Kp wr h1 h2 → Q' () { s with heap := h2, toks := tk }) →
        wpAny (model X.prog X.w) A (letOwnedTupleGo tg (.ref I) v) Q' E' { s with heap := h1, toks := tk }) → Q (some v) { s with heap := h1, toks := tk }) →
    wpAny (model X.prog X.w) A (pyNext (.ref I)) Q E s
  done : ∀ (s : Shared) (Q : Option Value → Shared → Prop) (E : Value → Shared → Prop), Sx ds.length s.heap →
    (∀ h1 tk, (∀ b o, b ∉ wr → s.heap.get? b = some o → h1.get? b = some o) → Q none { s with heap := h1, toks := tk }) → wpAny (model X.prog X.w) A (pyNext (.ref I)) Q E s
  self : ∀ i (s : Shared) (Q : Value → Shared → Prop) (E : Value → Shared → Prop), Sx i s.heap → Q (.ref I) s → wpAny (model X.prog X.w) A (pyIter (.ref I)) Q E s
noncomputable def Tgt (tg : Expr) : Prop := (∃ x p, tg = .Name x p) ∨ ∃ es k p, tg = .Tuple es k p
section
variable {A : Around} {E : Value → Shared → Prop} {s : Shared}
theorem go_other {tg : Expr} (ht : Tgt tg) {I : Addr} {v : Value} {d : Option Addr} {vs : Array Value} {sl : Array (Option Value)} {T : String} {Q : Unit → Shared → Prop} (ho : s.heap.get? I = some ⟨.type T, d, .fields vs, sl⟩)
    (hT : ["enumerate", "zip", "dict_itemiterator", "dict_reverseitemiterator", "odict_iterator", "itertools.zip_longest", "itertools.pairwise"].contains T = false) (h : Q () s) : wpAny (model X.prog X.w) A (letOwnedTupleGo tg (.ref I) v) Q E s := by
  rcases ht with ⟨x, p, rfl⟩ | ⟨es, k, p, rfl⟩
  · exact wpAny_pure h
  · have hp : wpAny (model X.prog X.w) A (pure ()) Q E s := wpAny_pure h
    cases v with
    | ref a =>
      refine wpAny_bind (wpAny_load ho ?_)
      dsimp only
      rw [hT, Bool.false_and]
      exact hp
    | _ => exact hp
end
end Mine
namespace Mine
open PySem PySem.W PyProof.Rows PySem.Calls PySem.Spec
theorem DReps.get {P : Params} {src : Option Addr} {F : Vw} {ds : List D} : ∀ {vs : List Value}, DReps P src F vs ds → ∀ {i : Nat} {d : D}, ds[i]? = some d → ∃ v, vs[i]? = some v ∧ DRep P src F v d :=
  List.rec (motive := fun ds => ∀ {vs : List Value}, DReps P src F vs ds → ∀ {i : Nat} {d : D}, ds[i]? = some d → ∃ v, vs[i]? = some v ∧ DRep P src F v d) (fun _ _ _ e => no e)
    (fun _ _ ih _ h i d e => h.elim fun v h => h.elim fun w h => h.1 ▸ Nat.casesOn (motive := fun i => (_ :: _)[i]? = some d → ∃ u, (v :: w)[i]? = some u ∧ DRep P src F u d) i (fun e => ⟨v, rfl, Option.some.inj e ▸ h.2.1⟩) (fun _ e => ih h.2.2 e) e) ds
theorem DReps.length {P : Params} {src : Option Addr} {F : Vw} {ds : List D} {vs : List Value} (r : DReps P src F vs ds) : vs.length = ds.length := (r.reps (xa := none) (ρ := [])).length.trans (List.length_map _)
section
variable {A : Around} {src : Option Addr} {F : Vw} {I l : Addr} {tg : Expr}
theorem kp_one {h h' : Heap} (hs : Heap.ExtBut I h h') (ht : ∃ o, h'.get? I = some o) : Kp [I] h h' := ⟨fun b o hb e => hs b o (fun q => hb (q ▸ .head _)) e, fun b hb => by rw [List.mem_singleton.mp hb]; exact ht⟩
theorem it_obj {k : Bool} {h : Heap} {n : Nat} (x : IsIt k h I l n) : ∃ T d vs sl, h.get? I = some ⟨.type T, d, .fields vs, sl⟩ ∧ ["enumerate", "zip", "dict_itemiterator", "dict_reverseitemiterator", "odict_iterator", "itertools.zip_longest", "itertools.pairwise"].contains T = false := by
  cases k with
  | true => obtain ⟨⟨c, d, dt, sl⟩, ho, rfl, rfl⟩ := x; exact ⟨_, d, _, sl, ho, by decide⟩
  | false => obtain ⟨⟨c, d, dt, sl⟩, ho, rfl, rfl⟩ := x; exact ⟨_, d, _, sl, ho, by decide⟩
theorem turns_sq {k : Bool} (hh : A.handled = none) (ht : Tgt tg) (hne : l ≠ I) {items : List Value} {ds : List D} (r : DReps X.w.params src F items ds) : Turns src F A I [l] [I] tg ds (fun i h => IsIt k h I l i ∧ IsSq k h l items.toArray) where
  frame := fun i h h' st hk => ⟨st.1.at fun o e => hk I (.inl (.head _)) o e, st.2.at fun o e => hk l (.inr (.head _)) o e⟩
  live := fun i h st b hb => by rw [List.mem_singleton.mp hb]; exact st.1.there
  item := fun i d s Q E hi st hQ => by
    obtain ⟨x, hx, rx⟩ := r.get hi
    have hx' : items.toArray[i]? = some x := by rw [List.getElem?_toArray]; exact hx
    have key : ∀ h', IsIt k h' I l (i + 1) → Heap.SameBut I s.heap h' → Q (some x) { s with heap := h', toks := s.toks } := fun h' hit' hs' =>
      hQ x h' s.toks (fun F' hF _ => rx.mono hF) (kp_one hs'.extBut hit'.there) fun Q' E' hq => by
        obtain ⟨T, d, vs, sl, ho, hT⟩ := it_obj hit'
        exact go_other (s := { s with heap := h', toks := s.toks }) ht ho hT (hq h' ⟨hit', st.2.ext hs'.extBut hne⟩ ⟨fun _ _ _ e => e, fun b hb => by rw [List.mem_singleton.mp hb]; exact hit'.there⟩)
    cases k with
    | true => exact wpAny_pyNext_list_item st.1 st.2 hx' key
    | false => exact wpAny_pyNext_tuple_item st.1 st.2 hx' key
  done := fun s Q E st hQ => by
    have hx' : items.toArray[ds.length]? = none := by rw [List.getElem?_toArray, ← r.length]; exact List.getElem?_eq_none (Nat.le_refl _)
    have key : ∀ h', Heap.ExtBut I s.heap h' → Q none { s with heap := h', toks := s.toks } := fun h' he => hQ h' s.toks fun b o hb e => he b o (fun q => hb (q ▸ .head _)) e
    cases k with
    | true => exact wpAny_pyNext_list_end hh st.1 st.2 hx' key
    | false => exact wpAny_pyNext_tuple_end hh st.1 st.2 hx' key
  self := fun i s Q E st hQ => by
    cases k with
    | true => exact wpAny_pyIter_listiter st.1 hQ
    | false => exact wpAny_pyIter_tupleiter st.1 hQ
theorem range_get (n : Nat) : ∀ {a i : Nat} {d : D}, (rangeD a n)[i]? = some d → d = .int ((a + i : Nat) : Int) ∧ i < n := by
  induction n with
  | zero => intro a i d e; exact no e
  | succ n ih =>
    intro a i d e
    cases i with
    | zero => exact ⟨(Option.some.inj e).symm, Nat.zero_lt_succ n⟩
    | succ i => have h := ih (a := a + 1) (i := i) e; rw [Nat.succ_add_eq_add_succ] at h; exact ⟨h.1, Nat.succ_lt_succ h.2⟩
theorem range_len (n : Nat) : ∀ a, (rangeD a n).length = n := by
  induction n with
  | zero => exact fun _ => rfl
  | succ n ih => exact fun a => congrArg (· + 1) (ih (a + 1))
theorem turns_range (hh : A.handled = none) (ht : Tgt tg) (n : Nat) : Turns src F A I [] [I] tg (rangeD 0 n) (fun i h => IsRangeIter h I (0 + (i : Nat) * 1) ((n : Int) - (i : Nat)) 1) where
  frame := fun _ _ _ st hk => hk I (.inl (.head _)) _ st
  live := fun i h st b hb => by rw [List.mem_singleton.mp hb]; exact ⟨_, st⟩
  item := fun i d s Q E hi st hQ => by
    obtain ⟨rfl, hlt⟩ := range_get n hi
    refine wpAny_pyNext_range_item st (Int.sub_pos_of_lt (Int.ofNat_lt.mpr hlt)) fun h' hit' hs' => ?_
    rw [show (0 : Int) + (i : Int) * 1 + 1 = 0 + ((i + 1 : Nat) : Int) * 1 by rw [Int.mul_one, Int.mul_one, Int.natCast_add]; rfl, show (n : Int) - (i : Int) - 1 = (n : Int) - ((i + 1 : Nat) : Int) by rw [Int.natCast_add, Int.sub_sub]; rfl] at hit'
    exact hQ _ h' _ (fun _ _ _ => ⟨_, by rw [Int.mul_one, Nat.zero_add, Int.zero_add]⟩) (kp_one hs'.extBut ⟨_, hit'⟩) fun Q' E' hq =>
      go_other (s := { s with heap := h', toks := _ }) ht hit' (by decide) (hq h' hit' ⟨fun _ _ _ e => e, fun b hb => by rw [List.mem_singleton.mp hb]; exact ⟨_, hit'⟩⟩)
  done := fun s Q E st hQ => wpAny_pyNext_range_end hh st (by rw [range_len, Int.sub_self]; exact Int.le_refl 0) fun h' he' => hQ h' s.toks fun b o hb e => he' b o (fun q => hb (q ▸ .head _)) e
  self := fun _ _ _ _ st hQ => wpAny_pyIter_rangeiter st hQ
noncomputable abbrev Zp.wr (w : Zp) : List Addr := [w.z, w.TI, w.TO, w.i false, w.i true]
theorem Zp.out_wr {w : Zp} {b : Addr} (h : b ∉ w.wr) : w.Out b := by
  by_cases h1 : @LT.lt Nat _ b w.n
  · exact .inl h1
  by_cases h2 : @LT.lt Nat _ (w.n + 4) b
  · exact .inr h2
  obtain ⟨d, rfl⟩ := Nat.le.dest (Nat.not_lt.mp h1)
  have h3 : d ≤ 4 := Nat.le_of_add_le_add_left (Nat.not_lt.mp h2)
  have all : ∀ d, d ≤ 4 → d = 4 ∨ d = 2 ∨ d = 3 ∨ d = 0 ∨ d = 1 := by decide
  refine absurd ?_ h
  rcases all d h3 with rfl | rfl | rfl | rfl | rfl
  · exact .head _
  · exact .tail _ (.head _)
  · exact .tail _ (.tail _ (.head _))
  · exact .tail _ (.tail _ (.tail _ (.head _)))
  · exact .tail _ (.tail _ (.tail _ (.tail _ (.head _))))
theorem Zp.wr_le {w : Zp} : ∀ b ∈ w.wr, @LE.le Nat _ w.n b := List.forall_mem_cons.mpr ⟨Nat.le_add_right _ _, List.forall_mem_cons.mpr ⟨Nat.le_add_right _ _, List.forall_mem_cons.mpr ⟨Nat.le_add_right _ _, List.forall_mem_cons.mpr ⟨Nat.le_refl _, List.forall_mem_cons.mpr ⟨Nat.le_succ _, nofun⟩⟩⟩⟩⟩
section
variable {w : Zp} {f0 : Value} {fl : Bool} {n : Bool → Nat} {a : Bool → Value} {h h' : Heap}
theorem ZAt.there (Z : ZAt w f0 fl n a h) : ∀ b ∈ w.wr, ∃ o, h.get? b = some o := by
  intro b hb
  rcases List.mem_cons.mp hb with rfl | hb
  · exact ⟨_, Z.z⟩
  rcases List.mem_cons.mp hb with rfl | hb
  · exact ⟨_, Z.ti⟩
  rcases List.mem_cons.mp hb with rfl | hb
  · exact ⟨_, Z.to⟩
  rcases List.mem_cons.mp hb with rfl | hb
  · exact (Z.it false).there
  · rw [List.mem_singleton.mp hb]; exact (Z.it true).there
theorem ZAt.frame (Z : ZAt w f0 fl n a h) (k : ∀ b, b ∈ w.wr ∨ b ∈ [w.l false, w.l true] → ∀ o, h.get? b = some o → h'.get? b = some o) : ZAt w f0 fl n a h' :=
  Z.keep fun b o m => k b (m.elim (fun m => .inl (Classical.byContradiction fun q => (Zp.out_wr q).elim (Nat.not_lt.mpr m.1) (Nat.not_lt.mpr m.2))) fun m => .inr (m.elim (fun q => q ▸ .tail _ (.head _)) fun q => q ▸ .head _)) o
theorem Zp.off_wr (o : w.Off h h') : ∀ b x, b ∉ w.wr → h.get? b = some x → h'.get? b = some x := fun b x n e => o b x (Zp.out_wr n) e
end
theorem zip_vals {xs ys : Array Value} {as bs : List D} {i : Nat} {d : D} (r1 : DReps X.w.params src F xs.toList as) (r2 : DReps X.w.params src F ys.toList bs) (hi : (zipD as bs)[i]? = some d) :
    ∃ v w a b, xs[i]? = some v ∧ ys[i]? = some w ∧ d = .tup [a, b] ∧ DRep X.w.params src F v a ∧ DRep X.w.params src F w b := by
  unfold zipD at hi
  rw [List.getElem?_zipWith] at hi
  cases ea : as[i]? with
  | none => rw [ea] at hi; exact no hi
  | some a => cases eb : bs[i]? with
    | none => rw [ea, eb] at hi; exact no hi
    | some b =>
      rw [ea, eb] at hi
      obtain ⟨v, e1, q1⟩ := r1.get ea
      obtain ⟨w, e2, q2⟩ := r2.get eb
      exact ⟨v, w, a, b, Array.getElem?_toList.symm.trans e1, Array.getElem?_toList.symm.trans e2, (Option.some.inj hi).symm, q1, q2⟩
theorem zip_over {xs ys : Array Value} {as bs : List D} {v u : Value} (r1 : DReps X.w.params src F xs.toList as) (r2 : DReps X.w.params src F ys.toList bs) (hx : xs[(zipD as bs).length]? = some v) (hy : ys[(zipD as bs).length]? = some u) {p : Prop} : p := by
  have h1 := (Array.getElem?_eq_some_iff.mp hx).1
  have h2 := (Array.getElem?_eq_some_iff.mp hy).1
  rw [← Array.length_toList, r1.length] at h1
  rw [← Array.length_toList, r2.length] at h2
  have h3 := Nat.lt_min.mpr ⟨h1, h2⟩
  unfold zipD at h3
  rw [List.length_zipWith] at h3
  exact absurd h3 (Nat.lt_irrefl _)
theorem turns_zip {w : Zp} {elts : List Expr} {x1 : Nat} {pos : Pos} (hh : A.handled = none) {as bs : List D} (r1 : DReps X.w.params src F (w.xs false).toList as) (r2 : DReps X.w.params src F (w.xs true).toList bs) :
    Turns src F A w.z [w.l false, w.l true] w.wr (.Tuple elts x1 pos) (zipD as bs) (fun i h => ∃ a, ZAt w .none false (fun _ => i) a h) where
  frame := fun i h h' Z hk => Z.imp fun a Z => Z.frame hk
  live := fun i h Z => Z.elim fun a Z => Z.there
  item := fun i d s Q E hi Z hQ => by
    obtain ⟨a, Z⟩ := Z
    obtain ⟨v, u, da, db, e1, e2, rfl, q1, q2⟩ := zip_vals r1 r2 hi
    refine zip_free hh Z (fun h' hv Z' hp hk => ?_) fun h => h.elim fun j h => by cases j; exact no (h.symm.trans e1); exact no (h.symm.trans e2)
    rw [val_of e1, val_of e2] at hp
    exact hQ _ h' s.toks (fun F' hF hN => ⟨[v, u], ⟨_, _, 0, rfl, hN _ _ (Heap.get?_none_of_le (Nat.le_refl _)) hp, rfl, rfl⟩, .cons (q1.mono hF) (.cons (q2.mono hF) rfl)⟩) ⟨Zp.off_wr hk, Z'.there⟩
      fun Q' E' hq => wpAny_letOwnedTupleGo_zip (s := { s with heap := h', toks := s.toks }) Z'.z fun h2 hz2 hs2 => have Z2 := Z'.setZ hs2.extBut hz2; hq h2 ⟨_, Z2⟩ ⟨fun b o hb e => hs2.extBut b o (fun q => hb (q ▸ .head _)) e, Z2.there⟩
  done := fun s Q E Z hQ => Z.elim fun a Z => zip_free hh Z (fun _ hv _ _ _ => zip_over r1 r2 (hv false) (hv true)) fun _ h' hk => hQ h' s.toks (Zp.off_wr hk)
  self := fun _ _ _ _ Z hQ => Z.elim fun a Z => wpAny_pyIter_zip Z.z hQ
end
end Mine
namespace Mine
open PySem PySem.W PyProof.Rows PySem.Calls PySem.Spec
structure Lk (c : Lc) (tg : Expr) where
  I : Addr
  fp : List Addr
  wr : List Addr
  ds : List D
  Sx : Nat → Heap → Prop
  p : Pt c.R
  g : c.to p
  fr : ∀ b ∈ wr, p.s.heap.get? b = none
  src : ∀ b ∈ fp, ∃ o, (c.mv p).F b o
  T : Turns c.R.src (c.mv p).F c.A I fp wr tg ds Sx
inductive Iters (c : Lc) (tg : Expr) (Q : List D → St → Prop) (v : Value) (s : Shared) : Prop
  | mk (L : Lk c tg) (e : v = .ref L.I) (x : L.Sx 0 s.heap) (k : ∀ b o, L.p.s.heap.get? b = some o → s.heap.get? b = some o) (sm : Same L.p.s s) (q : Q L.ds L.p.st)
noncomputable def SI (G : Gx) (tg e : Expr) (pi : PI) : Prop := ∀ c : Lc, c.In G → ∀ Q E, gI G.P pi c.st Q E → c.go E (eval e c.R.env) (fun v s1 => c.go E (pyIter v) (Iters c tg Q) s1) c.s
section
variable {G : Gx} {e tg a b : Expr} {pe pa pb : PE} {x : Str} {np pos : Pos} {c : Lc} {p : Pt c.R}
noncomputable def SqAt (F : Vw) (h : Heap) (v : Value) (ds : List D) : Prop := ∃ k l items, v = .ref l ∧ (∃ o, F l o) ∧ IsSq k h l (List.toArray items) ∧ DReps X.w.params c.R.src F items ds
theorem seq_of {d : D} {v : Value} {ds : List D} (r : c.drep v d) (e : seqD d = some ds) : SqAt (c := c) c.F c.s.heap v ds := by
  cases d with
  | tup es => cases e; exact r.elim fun items r => r.1.elim fun l q => q.elim fun o q => q.elim fun n q => ⟨false, l, items, q.1, ⟨o, q.2.1⟩, ⟨o, q.2.1.2, q.2.2.1, n, q.2.2.2⟩, r.2⟩
  | lst es => cases e; exact r.elim fun items r => r.1.elim fun l q => q.elim fun o q => q.elim fun n q => ⟨true, l, items, q.1, ⟨o, q.2.1⟩, ⟨o, q.2.1.2, q.2.2.1, n, q.2.2.2⟩, r.2⟩
  | _ => exact no e
theorem fresh_at (h : Heap) : h.get? h.objs.size = none := Heap.get?_none_of_le (Nat.le_refl _)
noncomputable abbrev Given.pt {R : Rn} {p : Pt R} {st : St} (g : Given X R p.ρ p.s p.st st) : Pt R := ⟨p.s, p.ρ, st, g.sat⟩
theorem si_seq (ht : Tgt tg) (he : SE G e pe) : SI G tg e (.seq pe) := fun c ic Q E h => Lc.seq0 (he.run c ic _ _ h) fun v dv p g r1 q1 => by
  obtain ⟨⟨d, st2⟩, ex, h1⟩ := optK_iff q1
  obtain ⟨ds, ed, hq⟩ := optK_iff h1
  obtain ⟨gv, rx⟩ := toD_ok (s := p.s) 40 p.S r1 ex
  obtain ⟨k, l, items, rfl, ⟨o, f⟩, hl, rr⟩ := seq_of (c := c.mv gv.pt) rx ed
  exact pyIter_sq hl ⟨⟨p.s.heap.objs.size, [l], [p.s.heap.objs.size], ds, _, gv.pt, g.trans gv.go, fun b hb => by rw [List.mem_singleton.mp hb]; exact fresh_at _, fun b hb => by rw [List.mem_singleton.mp hb]; exact ⟨o, f⟩,
    turns_sq c.hA.hn ht (Nat.ne_of_lt (Heap.lt_size f.2)) rr⟩, rfl, ⟨itObj_is k _ _, hl.at fun o e => Heap.get?_push_of_some _ e⟩, fun b o e => Heap.get?_push_of_some _ e, ⟨rfl, rfl, rfl⟩, hq⟩
theorem nat_at {v : Value} {d : V} {n : Nat} (r : c.rep v d) (e : natOf d = some n) : ∃ t, v = .int (n : Int) t := by
  cases d with
  | dat d => cases d with
    | int i => cases i with
      | ofNat n => cases e; exact r
      | negSucc n => exact no e
    | _ => exact no e
  | _ => exact no e
theorem si_range (ht : Tgt tg) (b : BltIs X G.sc x (.type "range")) (he : SE G e pe) : SI G tg (.Call (.Name x np) [e] [] pos) (.range pe) := fun c ic Q E h =>
  call_name (name_blt ic b (PySem.callWith_type (by rw [he.ns]; rfl) (args_run (.inr ⟨e, [], rfl, he.ns _⟩) (wpAny_items_cons (Lc.seq0 (he.run c ic _ _ h) fun v dv p g r1 q1 => wpAny_items_nil (by
    obtain ⟨n, en, h1⟩ := optK_iff q1
    obtain ⟨hz, hq⟩ := small_iff h1
    obtain ⟨t, rfl⟩ := nat_at (c := c.mv p) r1 en
    refine call_range_1 ?_
    have hrs : Builtin.Range.rangeSize 0 (n : Int) 1 = (n : Int) := by
      unfold Builtin.Range.rangeSize
      rw [if_pos (by decide), Int.sub_zero]
      by_cases h0 : (0 : Int) < n
      · rw [if_pos h0, Int.ediv_one, Int.sub_add_cancel]
      · rw [if_neg h0]; exact (Int.le_antisymm (Int.not_lt.mp h0) (Int.natCast_nonneg n)).symm
    let o : Obj := { cls := .type "range", data := .fields #[.int 0 p.s.toks, .int (n : Int) t, .int 1 (p.s.toks + 1)] }
    have hr : IsRange (p.s.heap.push o) p.s.heap.objs.size 0 (n : Int) 1 p.s.toks t (p.s.toks + 1) := Heap.get?_push_size _ rfl
    let q : Pt c.R := (p.push o).tk (p.s.toks + 1 + 1)
    have g1 : c.to q := g.trans (Go.grow (st := p.st) grow_push ⟨rfl, rfl, rfl⟩)
    refine wpAny_pyIter_range (s := q.s) hr ?_ ?_
    · unfold Builtin.Range.small
      rw [hrs]
      unfold Builtin.Range.rangeFitsLong
      simp
      omega
    · refine ⟨⟨q.s.heap.objs.size, [], [q.s.heap.objs.size], rangeD 0 n, _, q, g1, fun b hb => by rw [List.mem_singleton.mp hb]; exact fresh_at _, nofun, turns_range c.hA.hn ht n⟩, rfl, ?_, fun b o e => Heap.get?_push_of_some _ e, ⟨rfl, rfl, rfl⟩, hq⟩
      show IsRangeIter (Heap.push _ _) _ _ _ _
      rw [hrs]
      exact Heap.get?_push_size _ rfl)) (he.ns _ _)))))
theorem si_zip {elts : List Expr} {x1 : Nat} {tp : Pos} (bz : BltIs X G.sc x (.type "zip")) (ha : SE G a pa) (hb : SE G b pb) : SI G (.Tuple elts x1 tp) (.Call (.Name x np) [a, b] [] pos) (.zip pa pb) := fun c ic Q E h =>
  call_name (name_blt ic bz (PySem.callWith_type (by rw [ha.ns, hb.ns]; rfl) (args_run (.inr ⟨a, [b], rfl, ha.ns _⟩) (wpAny_items_cons (Lc.seq0 (ha.run c ic _ _ h) fun va da p g r1 q1 => wpAny_items_cons (Lc.seq (hb.run (c.mv p) ic _ _ q1) g fun vb db p2 g2 g2' r2 q2 => wpAny_items_nil (by
    obtain ⟨⟨x1, st3⟩, ex, h1⟩ := optK_iff q2
    obtain ⟨⟨x2, st4⟩, ey, h2⟩ := optK_iff h1
    obtain ⟨ds, exs, h3⟩ := optK_iff h2
    obtain ⟨es, eys, hq⟩ := optK_iff h3
    clear q2 h1 h2 h3
    obtain ⟨gv, rx⟩ := toD_ok (s := p2.s) 40 p2.S (g2'.rep r1) ex
    obtain ⟨gw, ry⟩ := toD_ok (s := p2.s) 40 gv.sat (gv.rep r2) ey
    have gg := gv.trans gw
    obtain ⟨k1, l1, items1, rfl, ⟨o1, f1⟩, hl1, rr1⟩ := seq_of (c := c.mv gg.pt) (rx.mono gw.vw) exs
    obtain ⟨k2, l2, items2, rfl, ⟨o2, f2⟩, hl2, rr2⟩ := seq_of (c := c.mv gg.pt) ry eys
    let pick : ∀ {α : Type}, α → α → Bool → α := fun x y j => match j with | true => y | false => x
    refine zip_call (kd := pick k1 k2) (l := pick l1 l2) (xs := pick items1.toArray items2.toArray) (fun j => by cases j; exact hl1; exact hl2) fun h' Z kk => wpAny_pyIter_zip (s := { p2.s with heap := h' }) Z.z ⟨⟨_, [l1, l2], _, zipD ds es, _, gg.pt, g2.trans gg.go, ?_, ?_, turns_zip (w := ⟨p2.s.heap.objs.size, pick k1 k2, pick l1 l2, pick items1.toArray items2.toArray⟩) c.hA.hn rr1 rr2⟩, rfl, ⟨_, Z⟩, kk, ⟨rfl, rfl, rfl⟩, hq⟩
    · exact fun b hb => Heap.get?_none_of_le (Zp.wr_le b hb)
    · intro b hb
      rcases List.mem_cons.mp hb with rfl | hb
      · exact ⟨o1, f1⟩
      · rw [List.mem_singleton.mp hb]; exact ⟨o2, f2⟩)) (hb.ns _ _)) (ha.ns _ _)))))
end
end Mine
namespace Mine
open PySem PySem.W PyProof.Rows PySem.Calls PySem.Spec
structure TG (top : Bool) (sc : Scope) (tg : Expr) (pt : PT) : Prop where
  tgt : Tgt tg
  run : ∀ c : Lc, c.R.env.scope = sc → (top = true → c.R.top = true) → ∀ v d l (Q : Unit → Shared → Prop) Ev, c.rep v d → bindO pt d c.st.loc = some l →
    (∀ s', Sat X c.R c.ρ { c.st with loc := l } s'.heap → Go X c.R c.ρ c.ρ c.st.objs c.st.objs c.s s' → Q () s') → wpAny (model X.prog X.w) c.A (assign tg c.R.env v) Q Ev c.s
section
variable {top : Bool} {sc : Scope} {x : Str} {p : Pos}
theorem tg_one {i : Nat} {kd : NameKind} (e : sc.names[i]? = some (x, kd)) (hk : kd = .local ∨ (kd = .cell ∧ top = true)) : TG top sc (.Name x p) (.one i) :=
  ⟨.inl ⟨x, p, rfl⟩, fun c hsc htop v d l Q Ev r hl h => by cases hl; exact assignName_ok (hsc ▸ e) (hk.imp id fun q => ⟨q.1, htop q.2⟩) c.A c.pt v d Q Ev r h⟩
theorem tg_many {es : List Expr} {is : List Nat} {k : Nat} (n : NamesAt top sc es is) : TG top sc (.Tuple es k p) (.many is) :=
  ⟨.inr ⟨es, k, p, rfl⟩, fun c hsc htop v d l Q Ev r hl h => by obtain ⟨vs, e, hl⟩ := bind_inv hl; exact names_take (hsc ▸ n) htop r e hl h⟩
end
structure Lz (R : Rn) (A : Around) (tg : Expr) where
  I : Addr
  fp : List Addr
  wr : List Addr
  ds : List D
  Sx : Nat → Heap → Prop
  F : Vw
  p : Pt (R.hide wr)
  hF : ∀ a o, F a o → vwOf X (R.hide wr) p.ρ p.st.objs p.s.heap a o
  src : ∀ b ∈ fp, ∃ o, F b o
  ap : Apart R wr
  hA : Amb R A
  T : Turns R.src F A I fp wr tg ds Sx
structure Li {R : Rn} {A : Around} {tg : Expr} (L : Lz R A tg) where
  s : Shared
  ρ : List Addr
  st : St
  S : Sat X (R.hide L.wr) ρ st s.heap
  B : GoB X R L.wr L.p.ρ ρ L.p.st.objs st.objs L.p.s s
section
variable {R : Rn} {A : Around} {tg : Expr} {L : Lz R A tg} (i : Li L)
noncomputable abbrev Li.lc : Lc := ⟨R.hide L.wr, A, i.s, i.ρ, i.st, ⟨L.hA.hn, L.hA.depth, L.hA.units, L.hA.frames⟩, i.S⟩
noncomputable abbrev Lz.start (L : Lz R A tg) : Li L := ⟨L.p.s, L.p.ρ, L.p.st, L.p.S, GoB.step (.refl _) fun _ _ _ e => e⟩
noncomputable abbrev Li.hid {h1 : Heap} (k : Kp L.wr i.s.heap h1) (tk : Nat) : Li L := ⟨{ i.s with heap := h1, toks := tk }, i.ρ, i.st, i.S.hidStep k.1 k.2 L.ap, i.B.trans (GoB.step ⟨rfl, rfl, rfl⟩ k.1)⟩
theorem Li.live (b : Addr) (m : b ∈ L.wr) : ∃ o, i.s.heap.get? b = some o := i.S.there b (List.mem_append_right _ (List.mem_append_left _ m))
noncomputable abbrev Li.run (q : Pt (R.hide L.wr)) (g : i.lc.to q) : Li L := ⟨q.s, q.ρ, q.st, q.S, i.B.trans (g.unhid.toB i.live)⟩
theorem Li.kept (q : Pt (R.hide L.wr)) (g : i.lc.to q) (b : Addr) (m : b ∈ L.wr ∨ b ∈ L.fp) (o : Obj) (e : i.s.heap.get? b = some o) : q.s.heap.get? b = some o := by
  have h : b ∉ ownOf X R i.ρ i.st.objs ∧ b ∉ frs R := by
    rcases m with m | m
    · exact ⟨fun w => i.S.dis b w (List.mem_append_left _ m), fun w => L.ap.frs b w m⟩
    · obtain ⟨o0, f0⟩ := L.src b m
      have f := L.hF b o0 f0
      have n1 : b ∉ ownOf X R L.p.ρ L.p.st.objs := fun m => f.1 (List.mem_append_left _ m)
      have n2 : b ∉ L.wr ++ R.hid := fun m => f.1 (List.mem_append_right _ m)
      exact ⟨(i.B.keep b o0 n1 (fun w => n2 (List.mem_append_left _ w)) f.2).1, frs_off n1 fun m => n2 (List.mem_append_right _ m)⟩
  exact (g.stp.keep b o h.1 e).2.1 h.2
theorem Li.shown {h1 : Heap} {v : Value} {d : D} (k : Kp L.wr i.s.heap h1) (tk : Nat) (y : Shown R.src L.F i.s.heap h1 v d) : (i.hid k tk).lc.rep v (.dat d) :=
  y _ (fun a o f => (GoB.step (R := R) (ρ := i.ρ) (os := i.st.objs) (s := i.s) (s' := { i.s with heap := h1, toks := tk }) ⟨rfl, rfl, rfl⟩ k.1).vw a o (i.B.vw a o (L.hF a o f))) fun a o n e => ⟨i.S.noneOff n, e⟩
end
theorem relF_mono {r r' : Value → V → Prop} (h : ∀ v d, r v d → r' v d) {fl : Flow} {dl : AFlow} (x : relF r fl dl) : relF r' fl dl := flow_by (M := fun fl dl => relF r' fl dl) x trivial trivial trivial h
theorem drop_cons {α : Type} {l r : List α} {x : α} {j : Nat} (h : l.drop j = x :: r) : l[j]? = some x ∧ l.drop (j + 1) = r := by
  have h1 := List.getElem?_drop (xs := l) (i := j) (j := 0)
  rw [h] at h1
  exact ⟨h1.symm, by rw [← List.drop_drop, h]; rfl⟩
theorem drop_nil {α : Type} {l : List α} {j : Nat} (h : l.drop j = []) (hj : j ≤ l.length) : j = l.length := Nat.le_antisymm hj (List.drop_eq_nil_iff.mp h)
noncomputable def stepF (P : Gp) (pt : PT) (pb : PSs) : V → St → (AFlow → St → Prop) → Prop := fun x st' k => bindT pt x st'.loc fun lc => gSs P pb { st' with loc := lc } k (fun _ _ => False)
inductive LInv {R : Rn} {A : Around} {tg : Expr} (L : Lz R A tg) (P : Gp) (pt : PT) (pb : PSs) (Q : AFlow → St → Prop) (n : Nat) (s : Shared) : Prop
  | mk (i : Li L) (j : Nat) (rest : List D) (e : s = i.s) (hn : n = rest.length) (hd : L.ds.drop j = rest) (hj : j ≤ L.ds.length) (x : L.Sx j i.s.heap) (q : loopF (stepF P pt pb) rest i.st Q)
theorem notE {c : Lc} {e : Value} {s : Shared} {p : Prop} : c.epost (fun _ _ => False) e s → p := fun h => h.rec fun _ _ _ _ _ _ q => q.elim
theorem Lc.quiet {c : Lc} {p : Pt c.R} {α δ : Type} {rel : (Value → V → Prop) → α → δ → Prop} {t : Sem α} {Q : δ → St → Prop} {Ev : Value → Shared → Prop} (h : (c.mv p).W rel t Q fun _ _ => False) (g : c.to p) {k : α → Shared → Prop}
    (hk : ∀ a d (q : Pt c.R), c.to q → rel (c.mv q).rep a d → Q d q.st → k a q.s) : wpAny (model X.prog X.w) c.A t k Ev p.s :=
  wpAny_mono h (fun _ _ h => h.rec fun d st' ρ' h1 h2 h3 h4 => hk _ d ⟨_, ρ', st', h1⟩ (g.trans h2) h3 h4) fun _ _ z => notE z
section
variable {G : Gx} {tg it : Expr} {body : List Stmt} {pt : PT} {pi : PI} {pb : PSs} {pos : Pos} {R : Rn} {A : Around} {L : Lz R A tg} {Q : AFlow → St → Prop} {n : Nat}
theorem loop_turn (hsc : R.env.scope = G.sc) (hdp : R.d = G.d) (htop : R.top = true) (ht : TG true G.sc tg pt) (hb : SSs G body pb) {Ev : Value → Shared → Prop} {Z : Flow → Shared → Prop} (fin : ∀ (i : Li L) fl dl, relF i.lc.rep fl dl → Q dl i.st → Z fl i.s) (i : Li L) {j : Nat} {d : D} {r : List D} (hd : L.ds.drop j = d :: r) (x : L.Sx j i.s.heap) (q : loopF (stepF G.P pt pb) (d :: r) i.st Q) :
    wpAny (model X.prog X.w) A (pyNext (.ref L.I)) (fun rr s₁ => match rr with
      | none => wpAny (model X.prog X.w) A (execs [] R.env) Z Ev s₁
      | some v => wpAny (model X.prog X.w) A (letOwnedTupleGo tg (.ref L.I) v) (fun _ s₁' => wpAny (model X.prog X.w) A (assign tg R.env v) (fun _ s₂ => wpAny (model X.prog X.w) A (execs body R.env) (fun f s₃ => match f with
        | .next | .cont => ∃ m, m < (d :: r).length ∧ LInv L G.P pt pb Q m s₃
        | .brk => Z .next s₃
        | .ret v => Z (.ret v) s₃) Ev s₂) Ev s₁') Ev s₁) Ev i.s := by
  have dd := drop_cons hd
  obtain ⟨l, hl, hg⟩ := optK_iff q
  refine L.T.item j d i.s _ _ dd.1 x fun v h1 tk y k hgo => hgo _ _ fun h2 x2 k2 => ?_
  let i2 := (i.hid k tk).hid k2 tk
  have rv2 : i2.lc.rep v (.dat d) := (i.shown k tk y).mono (fun _ _ e => e) (GoB.step (R := R) (ρ := i.ρ) (os := i.st.objs) (s := (i.hid k tk).s) (s' := i2.s) ⟨rfl, rfl, rfl⟩ k2.1).vw
  refine ht.run i2.lc hsc (fun _ => htop) v _ l _ _ rv2 hl fun s3 S3 g3 => ?_
  let q3 : Pt (R.hide L.wr) := ⟨s3, i.ρ, _, S3⟩
  let i3 := i2.run q3 g3
  refine wpAny_mono (hb i3.lc ⟨hsc, hdp⟩ htop _ _ hg) ?_ fun e s' z => notE z
  rintro fl s4 ⟨dl, st', ρ', S4, g4, r4, q4⟩
  let q4' : Pt (R.hide L.wr) := ⟨s4, ρ', st', S4⟩
  let i4 := i3.run q4' g4
  have turn : loopF (stepF G.P pt pb) r st' Q → ∃ m, m < (d :: r).length ∧ LInv L G.P pt pb Q m s4 := fun hq =>
    ⟨r.length, Nat.lt_succ_self _, i4, j + 1, r, rfl, rfl, dd.2, (List.getElem?_eq_some_iff.mp dd.1).1, L.T.frame _ _ _ x2 fun b m o e => i3.kept q4' g4 b m o (i2.kept q3 g3 b m o e), hq⟩
  exact flow_by (M := fun fl dl => turnK dl st' (fun st' => loopF (stepF G.P pt pb) r st' Q) Q → match fl with
        | .next | .cont => ∃ m, m < (d :: r).length ∧ LInv L G.P pt pb Q m s4
        | .brk => Z .next s4
        | .ret v => Z (.ret v) s4) r4 turn (fun q => fin i4 .next .next trivial q) turn (fun v d r q => fin i4 (.ret v) (.ret d) r q) q4
noncomputable abbrev Lk.z {c : Lc} (K : Lk c tg) {s : Shared} (x : K.Sx 0 s.heap) (k : ∀ b o, K.p.s.heap.get? b = some o → s.heap.get? b = some o) : Lz c.R c.A tg :=
  ⟨K.I, K.fp, K.wr, K.ds, K.Sx, (c.mv K.p).F, ⟨s, K.p.ρ, K.p.st, (K.p.S.hide k K.fr (K.T.live 0 _ x)).1⟩, (K.p.S.hide k K.fr (K.T.live 0 _ x)).2, K.src, K.p.S.apart K.fr, c.hA, K.T⟩
theorem Lk.fin {c : Lc} (K : Lk c tg) {s : Shared} (x : K.Sx 0 s.heap) (k : ∀ b o, K.p.s.heap.get? b = some o → s.heap.get? b = some o) (sm : Same K.p.s s) (i : Li (K.z x k)) {h1 : Heap} (k1 : ∀ b o, b ∉ K.wr → i.s.heap.get? b = some o → h1.get? b = some o) (tk : Nat)
    {fl : Flow} {dl : AFlow} {Q : AFlow → St → Prop} (r : relF i.lc.rep fl dl) (q : Q dl i.st) : c.postR relF Q fl { i.s with heap := h1, toks := tk } :=
  have o := i.S.hidOut k1 c.S.env (K.z x k).ap
  have B0 : GoB X c.R K.wr K.p.ρ K.p.ρ K.p.st.objs K.p.st.objs K.p.s s := GoB.step sm fun b o _ e => k b o e
  ⟨dl, i.st, i.ρ, o.1, K.g.trans (((B0.trans i.B).trans (GoB.step (s' := { i.s with heap := h1, toks := tk }) ⟨rfl, rfl, rfl⟩ k1)).go K.fr), relF_mono (fun _ _ r => r.mono (fun _ _ e => e) o.2) r, q⟩
theorem ss_for (ht : TG true G.sc tg pt) (hi : SI G tg it pi) (hb : SSs G body pb) (hs : ∀ env x, foldedSetIterable it env x = pure x) : SS G (.For tg it body [] pos) (.forS pt pi pb) := fun c ic htop Q E h => by
  unfold Lc.W
  rw [arm_exec_For]
  refine wpAny_bind (wpAny_standAt (wpAny_bind (wpAny_mono (hi c ic _ _ h) (fun v s1 h1 => ?_) fun _ _ e => e)))
  rw [hs]
  refine wpAny_bind (wpAny_pure (wpAny_bind (wpAny_standAt (wpAny_bind (wpAny_holding (wpAny_mono h1 ?_ fun _ _ e => e))))))
  rintro _ s2 ⟨K, rfl, x, k, sm, q⟩
  refine wpAny_runOwn (h := none) (codeAny_forLoop_any (LInv (K.z x k) G.P pt pb Q) (fun n s => ?_) _ ⟨(K.z x k).start, 0, K.ds, rfl, rfl, rfl, Nat.zero_le _, x, q⟩)
  rintro ⟨i, j, rest, rfl, rfl, hd, hj, x, q⟩
  cases rest with
  | nil =>
    cases drop_nil hd hj
    exact K.T.done i.s _ _ x fun h1 tk k1 => wpAny_execs_nil (K.fin _ k sm i k1 tk (dl := .next) trivial q)
  | cons d r => exact loop_turn ic.1 ic.2 htop ht hb (fun i fl dl r q => K.fin _ k sm i (fun _ _ _ e => e) i.s.toks r q) i hd x q
end
end Mine
namespace Mine
open PySem PySem.W PyProof.Rows PySem.Calls PySem.Spec
noncomputable def relabelS (scope sc : Scope) : Scope :=
  { scope with names := scope.names.map fun (n, k) => if (k == .free && sc.kind == .function && sc.names.lookup n == some .cell) then (n, .cell) else (n, k) }
noncomputable def frOf (cells : List (Str × Addr)) (names : List (Str × NameKind)) : List (Str × Addr) := (names.filter fun p => p.2 == .free).map fun p => (p.1, (cells.lookup p.1).getD 0)
noncomputable def clOf (cells : List (Str × Addr)) (names : List (Str × NameKind)) : List (Str × Addr) := (frOf cells names).reverse
theorem closure_is {env : Env} {names : List (Str × NameKind)} : ∀ {acc : List (Str × Addr)}, (∀ n, (n, NameKind.free) ∈ names → ∃ c, env.cells.lookup n = some c) →
    (forIn names acc fun (x : Str × NameKind) (cs : List (Str × Addr)) => (if (x.2 == .free) = true then do let c ← cellOf env x.1; pure (ForInStep.yield ((x.1, c) :: cs)) else pure (ForInStep.yield cs) : Sem (ForInStep (List (Str × Addr))))) = pure ((frOf env.cells names).reverse ++ acc) := by
  induction names with
  | nil => exact fun _ => rfl
  | cons p r ih =>
    intro acc h
    have ih' := fun acc => @ih acc fun m hm => h m (List.mem_cons_of_mem _ hm)
    rw [List.forIn_cons]
    unfold frOf
    rw [List.filter_cons]
    by_cases hk : (p.2 == NameKind.free) = true
    · obtain ⟨c, hc⟩ := h p.1 (by rw [← (eq_of_beq hk : p.2 = .free)]; exact List.mem_cons_self ..)
      rw [if_pos hk, if_pos hk, List.map_cons, List.reverse_cons, List.append_assoc, hc, show cellOf env p.1 = pure c by unfold cellOf; rw [hc]]
      exact ih' _
    · rw [if_neg hk, if_neg hk]
      exact ih' _
theorem closureFor_is {env : Env} {scope : Scope} (h : ∀ n, (n, NameKind.free) ∈ scope.names → ∃ c, env.cells.lookup n = some c) : closureFor scope env = pure (clOf env.cells scope.names) := by
  have e := @closure_is env scope.names [] h
  rw [List.append_nil] at e
  exact congrArg (fun t => t >>= pure) e
section
variable {cells : List (Str × Addr)} {names : List (Str × NameKind)}
theorem clOf_mem {p : Str × Addr} (h : p ∈ clOf cells names) : (p.1, NameKind.free) ∈ names ∧ p.2 = (cells.lookup p.1).getD 0 := by
  obtain ⟨q, hq, rfl⟩ := List.mem_map.mp (List.mem_reverse.mp h)
  obtain ⟨h1, h2⟩ := List.mem_filter.mp hq
  exact ⟨by rw [← (eq_of_beq h2 : q.2 = .free)]; exact h1, rfl⟩
theorem nodup_rev {α : Type} {l : List α} (h : l.Nodup) : l.reverse.Nodup := List.pairwise_reverse.mpr (h.imp Ne.symm)
theorem frOf_names (hn : (names.map (·.1)).Nodup) : (names.filter fun p => p.2 == NameKind.free).Pairwise fun a b => a.1 ≠ b.1 := (List.pairwise_map.mp hn).sublist List.filter_sublist
theorem clOf_lookup (hn : (names.map (·.1)).Nodup) {x : Str} (h : (x, NameKind.free) ∈ names) : (clOf cells names).lookup x = some ((cells.lookup x).getD 0) := by
  have m : (x, (cells.lookup x).getD 0) ∈ clOf cells names := List.mem_reverse.mpr (List.mem_map.mpr ⟨_, List.mem_filter.mpr ⟨h, rfl⟩, rfl⟩)
  obtain ⟨i, hi⟩ := List.mem_iff_getElem?.mp m
  refine lookup_of_get ?_ hi
  unfold clOf frOf
  rw [List.map_reverse, List.map_map]
  exact nodup_rev (List.pairwise_map.mpr (frOf_names hn))
theorem clOf_nodup (hc : (cells.map (·.2)).Nodup) (hn : (names.map (·.1)).Nodup) (hf : ∀ n, (n, NameKind.free) ∈ names → ∃ c, cells.lookup n = some c) : ((clOf cells names).map (·.2)).Nodup := by
  unfold clOf frOf
  rw [List.map_reverse, List.map_map]
  have ex : ∀ a ∈ names.filter fun p => p.2 == NameKind.free, ∃ c, cells.lookup a.1 = some c := fun a ha => hf a.1 (by obtain ⟨h1, h2⟩ := List.mem_filter.mp ha; rw [← (eq_of_beq h2 : a.2 = .free)]; exact h1)
  refine nodup_rev (List.pairwise_map.mpr ((frOf_names hn).imp_of_mem fun {a b} ha hb hne q => ?_))
  obtain ⟨c1, e1⟩ := ex a ha
  obtain ⟨c2, e2⟩ := ex b hb
  have q' : (cells.lookup a.1).getD 0 = (cells.lookup b.1).getD 0 := q
  rw [e1, e2] at q'
  cases (q' : c1 = c2)
  exact hne (lookup_inj2 hc e1 e2)
end
structure CompOk (sc scope : Scope) (cap : List (Nat × Nat)) (nl : Nat) : Prop where
  kind : scope.kind = .function
  nd : (scope.names.map (·.1)).Nodup
  nocell : ∀ x ∈ scope.names, x.2 ≠ .cell
  nodbg : ∀ p ∈ scope.names, (p.1 == ("__debug__" : Str)) = false ∧ (p.1 == ("__classdict__" : Str)) = false
  free : ∀ n, (n, NameKind.free) ∈ scope.names → ∃ (j : Nat) (k : NameKind), sc.names[j]? = some (n, k) ∧ (k = .cell ∨ k = .free)
  cap : ∀ p ∈ cap, ∃ x k, scope.names[p.1]? = some (x, .free) ∧ sc.names[p.2]? = some (x, k) ∧ (k = .cell ∨ k = .free)
theorem CompOk.hnames {sc scope : Scope} {cap : List (Nat × Nat)} {nl : Nat} (c : CompOk sc scope cap nl) : ∀ x ∈ scope.names, x.2 = .local → scope.names.lookup x.1 = some .local := by
  rintro ⟨x, k⟩ hx rfl
  obtain ⟨i, hi⟩ := List.mem_iff_getElem?.mp hx
  exact lookup_of_get c.nd hi
theorem capL_is {cap : List (Nat × Nat)} {o : List (Option V)} {i : Nat} {v : V} : ∀ {l : List (Option V)}, (capL cap o l)[i]? = some (some v) → l[i]? = some (some v) ∨ ∃ j, (i, j) ∈ cap ∧ o[j]? = some (some v) := by
  induction cap with
  | nil => exact fun h => .inl h
  | cons p r ih =>
    intro l h
    rcases ih h with h1 | ⟨j, h1, h2⟩
    · cases q : (nth o p.2).join with
      | none => rw [q] at h1; exact .inl h1
      | some w =>
        rw [q] at h1
        have h2 : (putAt l p.1 (some w))[i]? = some (some v) := h1
        rw [putAt_eq, List.getElem?_set] at h2
        rw [nth_eq, Option.join_eq_some_iff] at q
        by_cases hai : p.1 = i
        · rw [if_pos hai] at h2
          split at h2
          · cases h2; exact .inr ⟨p.2, hai ▸ List.mem_cons_self .., q⟩
          · exact no h2
        · rw [if_neg hai] at h2; exact .inl h2
    · exact .inr ⟨j, List.mem_cons_of_mem _ h1, h2⟩
theorem nones_get (n : Nat) : ∀ {i : Nat} {v : V}, (nones n)[i]? ≠ some (some v) := by
  induction n with
  | zero => exact fun h => no h
  | succ n ih =>
    intro i v h
    cases i with
    | zero => exact nomatch h
    | succ i => exact ih h
end Mine
namespace Mine
open PySem PySem.W PyProof.Rows PySem.Calls PySem.Spec
noncomputable def compRn (R : Rn) (scope : Scope) (C : Addr) : Rn :=
  { env := compEnvC scope (clOf R.env.cells scope.names) C R.env, wr := [C], fs := R.fs, hid := R.wr ++ R.hid, src := R.src, xa := R.xa, d := R.d, top := false, sub := fun e he L q => .inr (List.mem_append.mpr (R.sub e he L q)) }
noncomputable def relab (env : Env) (p : Str × NameKind) : Str × NameKind := if (p.2 == .free && env.scope.kind == .function && env.kindOf p.1 == some .cell) then (p.1, .cell) else p
theorem relab_fst (env : Env) (p : Str × NameKind) : (relab env p).1 = p.1 := by unfold relab; split <;> rfl
theorem relab_free {env : Env} {p : Str × NameKind} (h : p.2 ≠ .cell) : ((relab env p).2 = .cell ∨ (relab env p).2 = .free) ↔ p.2 = .free := by
  unfold relab
  split
  · rename_i q
    rw [Bool.and_eq_true, Bool.and_eq_true] at q
    exact ⟨fun _ => eq_of_beq q.1.1, fun _ => .inl rfl⟩
  · exact ⟨fun q => q.elim (fun q => absurd q h) id, .inr⟩
section
variable {R : Rn} {ρ ρ' : List Addr} {st st' : St} {h h' : Heap} {scope : Scope} {C : Addr} {cap : List (Nat × Nat)} {nl : Nat} {wr : List Addr}
theorem comp_names (i : Nat) : (compRn R scope C).env.scope.names[i]? = (scope.names[i]?).map (relab R.env) := by
  show (relabel scope R.env).names[i]? = _
  unfold relabel
  rw [List.getElem?_map]
  rfl
theorem comp_at (co : CompOk R.env.scope scope cap nl) {i : Nat} {x : Str} {k : NameKind} (e : (compRn R scope C).env.scope.names[i]? = some (x, k)) : ∃ k0, scope.names[i]? = some (x, k0) ∧ ((k = .cell ∨ k = .free) ↔ k0 = .free) := by
  rw [comp_names] at e
  obtain ⟨p, hp, e⟩ := map_inv e
  have e1 := relab_fst R.env p
  rw [e] at e1
  have e2 := relab_free (env := R.env) (co.nocell p (List.mem_of_getElem? hp))
  rw [e] at e2
  exact ⟨p.2, by rw [hp, show x = p.1 from e1], e2⟩
theorem Sat.cellOf (S : Sat X (R.hide wr) ρ st h) (co : CompOk R.env.scope scope cap nl) {n : Str} (hn : (n, NameKind.free) ∈ scope.names) : ∃ c, R.env.cells.lookup n = some c := by
  obtain ⟨j, kk, e1, e2⟩ := co.free n hn
  exact S.env.all j n kk e1 e2
theorem Sat.clMem (S : Sat X (R.hide wr) ρ st h) (co : CompOk R.env.scope scope cap nl) {p : Str × Addr} (hp : p ∈ clOf R.env.cells scope.names) : ∃ q ∈ R.env.cells, q.2 = p.2 := by
  obtain ⟨h1, h2⟩ := clOf_mem hp
  obtain ⟨c, e⟩ := S.cellOf co h1
  obtain ⟨q, hq, rfl⟩ := mem_of_lookup2 e
  exact ⟨q, hq, by rw [h2, e]; rfl⟩
theorem Sat.compIn (S : Sat X (R.hide wr) ρ st h) (co : CompOk R.env.scope scope cap nl) (k : ∀ b o, h.get? b = some o → h'.get? b = some o) (fr : h.get? C = none) {m : Str → Option Value} (hns : h'.Ns C m) (h3 : @LT.lt Nat _ 3 C) :
    Sat X ((compRn R scope C).hide wr) ρ { st with loc := [] } h' ∧ ∀ a o, vwOf X (R.hide wr) ρ st.objs h a o → vwOf X ((compRn R scope C).hide wr) ρ st.objs h' a o := by
  have hoff := S.noneOff fr
  have nC : ∀ {a : Addr} {o}, h.get? a = some o → a ∉ [C] := fun e q => by rw [List.mem_singleton.mp q, fr] at e; exact no e
  have hid : ∀ {a}, a ∈ wr ++ (R.wr ++ R.hid) → a ∈ R.wr ∨ a ∈ wr ++ R.hid := fun m => (List.mem_append.mp m).elim (fun m => .inr (List.mem_append_left _ m)) fun m => (List.mem_append.mp m).imp id fun m => List.mem_append_right _ m
  have hth : ∀ {a}, a ∈ wr ++ (R.wr ++ R.hid) → a ∈ ownOf X (R.hide wr) ρ st.objs ++ (wr ++ R.hid) := fun m => List.mem_append.mpr ((hid m).imp (fun m => own_core.mpr (.inl m)) id)
  refine S.re (R' := (compRn R scope C).hide wr) rfl rfl rfl ⟨co.kind, S.env.glob, S.env.blt, ?_, List.mem_cons_self .., fun p hp => ?_, fun p hp => ?_, clOf_nodup S.env.cellsNd co.nd fun n => S.cellOf co, nofun, fun i x kk e hk => ?_, nofun⟩ (fun _ => False) (fun b o _ e => k b o e) (fun _ _ => id) (fun _ _ => id) (List.pairwise_singleton _ _)
    (fun a m => ?_) (fun a m q => (hid q).elim (S.core m) (S.dis a (own_core.mpr (.inr m)))) (fun a m => m.elim (fun m => ?_) fun m => (S.there a (hth m)).imp fun o e => k a o e) (fun b o e => ⟨id, nC (S.base b o e), fun q => S.baseOff b o e (hth q)⟩)
    (fun a n1 n2 o e => ⟨nC e, fun q => (hid q).elim (fun q => n1 (own_core.mpr (.inl q))) n2, id⟩) (fun _ => ⟨m, hns, nofun⟩) fun p hp => ?_
  · show ((relabel scope R.env).names.map (·.1)).Nodup
    unfold relabel
    rw [List.map_map]
    exact (List.map_congr_left (l := scope.names) (f := fun p => (relab R.env p).1) (g := fun p => p.1) fun p _ => relab_fst R.env p) ▸ co.nd
  · obtain ⟨i, hi⟩ := List.mem_iff_getElem?.mp hp
    exact (comp_at co hi).elim fun k0 q => co.nodbg (p.1, k0) (List.mem_of_getElem? q.1)
  · obtain ⟨q, hq, e⟩ := S.clMem co hp
    obtain ⟨v, o, ho, _⟩ := S.cellsAre q hq
    rw [← e]
    exact ⟨fun z => nC ho (z ▸ List.mem_singleton.mpr rfl), .inr ((S.env.cells q hq).2.elim (fun w => List.mem_append_right _ (List.mem_append_left _ w)) fun w => (List.mem_append.mp w).elim (fun w => List.mem_append_left _ w) fun w => List.mem_append_right _ (List.mem_append_right _ w))⟩
  · obtain ⟨k0, e1, e2⟩ := comp_at co e
    rw [e2.mp hk] at e1
    exact ⟨_, clOf_lookup co.nd (List.mem_of_getElem? e1)⟩
  · rw [List.mem_singleton.mp m]
    exact ⟨fun q => hoff (List.mem_append_left _ (own_core.mpr (.inr q))), fun q => hoff (hth q), h3⟩
  · rw [List.mem_singleton.mp m]
    obtain ⟨o, _, _, e, _⟩ := hns
    exact ⟨o, e⟩
  · exact (S.clMem co hp).elim fun q z => z.2 ▸ (S.cellsAre q z.1).imp fun v y => y.imp fun o y => ⟨k _ _ y.1, y.2⟩
inductive Caught (R : Rn) (scope : Scope) (C : Addr) (h : Heap) (r : Value → V → Prop) (i : Nat) (d : V) : Prop
  | mk (x : Str) (kd : NameKind) (v : Value) (p : Str × Addr) (e : (compRn R scope C).env.scope.names[i]? = some (x, kd)) (hk : kd = .cell ∨ kd = .free) (hl : (compRn R scope C).env.cells.lookup x = some p.2) (hp : p ∈ R.env.cells) (hv : h.IsCell p.2 (some v)) (hr : r v d)
theorem Sat.caught (S : Sat X (R.hide wr) ρ st h) (co : CompOk R.env.scope scope cap nl) {i : Nat} {d : V} (e : (capL cap st.loc (nones nl))[i]? = some (some d)) : Caught R scope C h (RepOf X (R.hide wr) ρ st.objs h) i d := by
  rcases capL_is e with e | ⟨j, hj, e⟩
  · exact absurd e (nones_get _)
  · obtain ⟨x, kk, e1, e2, e3⟩ := co.cap _ hj
    obtain ⟨mm, _, hl⟩ := S.loc
    obtain ⟨y, ky, v, g1, g2, g3⟩ := hl j d e
    have eq : (x, kk) = (y, ky) := Option.some.inj (e2.symm.trans g1)
    rcases g2 with ⟨q, _⟩ | ⟨_, c, hc, hv⟩
    · rw [show kk = .local from (congrArg Prod.snd eq).trans q] at e3; exact absurd e3 nofun
    · rw [← show x = y from congrArg Prod.fst eq] at hc
      obtain ⟨p, hp, rfl⟩ := mem_of_lookup2 hc
      exact ⟨x, (relab R.env (x, .free)).2, v, p, by rw [comp_names, e1]; exact congrArg some (Prod.ext (relab_fst R.env (x, .free)) rfl), (relab_free (env := R.env) (p := (x, .free)) nofun).mpr rfl,
        (clOf_lookup co.nd (List.mem_of_getElem? e1)).trans (by rw [show R.env.cells.lookup x = some p.2 from hc]; rfl), hp, hv, g3⟩
theorem Sat.compOut {os0 : List AObj} {lc : List (Option V)} {ex : Option AObj} (S0 : Sat X (R.hide wr) ρ { loc := lc, objs := os0, ext := ex } h) (S : Sat X ((compRn R scope C).hide wr) ρ' st' h') {h1 : Heap} (k1 : ∀ b o, b ∉ wr → h'.get? b = some o → h1.get? b = some o) (E : EnvOk R) (ap : Apart R wr) (fr : h.get? C = none)
    (kw : ∀ b ∈ R.wr, ∀ o, h.get? b = some o → ∃ sl, h'.get? b = some { o with slots := sl }) (kc : ∀ p ∈ R.env.cells, ∀ o, h.get? p.2 = some o → h'.get? p.2 = some o)
    (pre : ∀ (i : Nat) (a : Addr), ρ[i]? = some a → ρ'[i]? = some a) (hF : ∀ a o, vwOf X (R.hide wr) ρ os0 h a o → vwOf X ((compRn R scope C).hide wr) ρ' st'.objs h' a o) :
    Sat X (R.hide [C]) ρ' { st' with loc := lc } h1 := by
  have ww : ∀ {a}, a ∈ R.wr → a ∉ wr := fun {a} m w => S0.dis a (own_core.mpr (.inl m)) (List.mem_append_left _ w)
  have hd : ∀ {a}, a ∈ R.wr ∨ a ∈ R.hid → a ∈ wr ++ (R.wr ++ R.hid) := fun m => List.mem_append_right _ (List.mem_append.mpr m)
  have cC : C ∈ ownOf X ((compRn R scope C).hide wr) ρ' st'.objs := own_core.mpr (.inl (List.mem_singleton.mpr rfl))
  have nC : ∀ {a}, a ∈ wr ++ (R.wr ++ R.hid) → a ∉ [C] := fun {a} m q => S.dis C cC (List.mem_singleton.mp q ▸ m)
  have nw : ∀ {a}, a ∈ [C] ∨ a ∈ R.hid → a ∉ wr := fun {a} m w => m.elim (nC (List.mem_append_left _ w)) fun m => ap.hid a m w
  have th : ∀ {a}, a ∈ R.wr ∨ a ∈ [C] ++ R.hid → a ∈ ownOf X ((compRn R scope C).hide wr) ρ' st'.objs ++ (wr ++ (R.wr ++ R.hid)) := fun {a} m => m.elim (fun m => List.mem_append_right _ (hd (.inl m))) fun m => (List.mem_append.mp m).elim (fun m => List.mem_append_left _ (own_core.mpr (.inl m))) fun m => List.mem_append_right _ (hd (.inr m))
  refine (S.re (R' := R.hide [C]) rfl rfl rfl (E.hide [C]) (· ∈ wr) (fun b o n e => k1 b o n e) (fun b m w => S.dis b (own_core.mpr (.inr m)) (List.mem_append_left _ w)) ap.frs ?_
    (fun a m => ⟨fun q => S.dis a (own_core.mpr (.inr q)) (hd (.inl m)), fun q => (List.mem_append.mp q).elim (nC (hd (.inl m))) (fun q => S0.dis a (own_core.mpr (.inl m)) (List.mem_append_right _ q)), S0.hi a (own_core.mpr (.inl m))⟩)
    (fun a m q => (List.mem_append.mp q).elim (S.core m) fun q => S.dis a (own_core.mpr (.inr m)) (hd (.inr q))) (fun a m => (S.there a (th m)).imp fun o e => k1 a o (m.elim ww fun m => nw (List.mem_append.mp m)) e)
    (fun b o e => ⟨fun w => S.baseOff b o e (List.mem_append_right _ (List.mem_append_left _ w)), fun m => S.baseOff b o e (th (.inl m)), fun m => S.baseOff b o e (th (.inr m))⟩)
    (fun a n1 n2 o _ => ⟨fun m => n2 (hd (.inl m)), fun m => (List.mem_append.mp m).elim (fun m => n1 (own_core.mpr (.inl m))) fun m => n2 (hd (.inr m)), fun w => n2 (List.mem_append_left _ w)⟩) (fun hG => ?_) fun p hp => ?_).1
  · have n := S0.nodup
    unfold ownOf at n
    exact (List.nodup_append.mp (List.nodup_append.mp n).2.1).1
  · obtain ⟨m, hm, hl⟩ := S0.loc
    refine ⟨m, Ns.slots hm fun o e => (kw _ S0.env.Lw o e).imp fun sl e => k1 _ _ (ww S0.env.Lw) e, fun i d e => ?_⟩
    exact (hl i d e).mono (fun p hp o e => k1 _ _ (ap.cells p hp) (kc p hp o e)) fun v r => r.mono pre fun a o f => hG a o (hF a o f)
  · exact (S0.cellsAre p hp).imp fun v q => q.imp fun o q => ⟨k1 _ _ (ap.cells p hp) (kc p hp _ q.1), q.2⟩
end
end Mine
namespace Mine
open PySem PySem.W PyProof.Rows PySem.Calls PySem.Spec
theorem GoB.ofComp {R : Rn} {wr : List Addr} {ρ ρ' : List Addr} {os : List AObj} {s s' s'' : Shared} {h : Heap} {scope : Scope} {C : Addr} {st' : St} (B : GoB X (compRn R scope C) wr ρ ρ' os st'.objs s' s'') (S' : Sat X ((compRn R scope C).hide wr) ρ' st' h)
    (k : ∀ b o, s.heap.get? b = some o → s'.heap.get? b = some o) (fr : s.heap.get? C = none) (sm : Same s s') : GoB X R wr ρ ρ' os st'.objs s s'' := by
  refine ⟨fun b o n w e => ?_, fun a m => ?_, B.pre, sm.trans B.same⟩
  · have q := B.keep b o (fun m => (own_core.mp m).elim (fun m => by rw [List.mem_singleton.mp m, fr] at e; exact no e) fun m => n (own_core.mpr (.inr m))) w (k _ _ e)
    exact ⟨fun m => (own_core.mp m).elim (fun m => n (own_core.mpr (.inl m))) fun m => q.1 (own_core.mpr (.inr m)), q.2⟩
  · rcases own_core.mp m with m | m
    · exact .inl (own_core.mpr (.inl m))
    · rcases B.fresh a (own_core.mpr (.inr m)) with f | ⟨w, e⟩
      · exact (own_core.mp f).elim (fun f => absurd f (S'.core m)) fun f => .inl (own_core.mpr (.inr f))
      · refine .inr ⟨w, ?_⟩
        cases q : s.heap.get? a with
        | none => rfl
        | some o => exact no (e.symm.trans (k _ _ q))
noncomputable def SIfs (G : Gx) (ifs : List Expr) (pifs : PTs) : Prop :=
  ∀ c : Lc, c.In G → ∀ Q E, gIfs G.P pifs c.st Q E → c.W relB (forIn ifs true fun x r => if r = true then do let ok ← isTrue x c.R.env (eval x c.R.env); pure (ForInStep.yield ok) else pure (ForInStep.yield r)) Q E
theorem sifs_nil {G : Gx} : SIfs G [] .nil := fun c _ Q E h => wpAny_tests_nil (Lc.done (p := c.pt) (rel := relB) (d := true) Lc.self rfl h)
theorem sifs_one {G : Gx} {e : Expr} {pc : PT1} (hc : ST G e pc) : SIfs G [e] (.cons pc .nil) := fun c ic Q E h => wpAny_tests_one (Lc.seq0 (hc c ic _ _ h) fun b b' p g r1 q1 => by
  cases (show b = b' from r1)
  cases b with
  | true => exact Lc.done (rel := relB) (d := true) g rfl q1
  | false => exact Lc.done (rel := relB) (d := false) g rfl q1)
section
variable {prog : Program} {w : World} {A : Around} {R : Result → Shared → Prop} {s : Shared}
theorem compLoop_go {elt target iter : Expr} {ifs : List Expr} {scope : Scope} {pos : Pos} {it acc : Value} {env : Env} (I : Nat → Shared → Prop)
    (turn : ∀ n s, I n s → wpAny (model prog w) A (pyNext it) (fun r s₁ => match r with
      | none => R (.ok .next) s₁
      | some v => wpAny (model prog w) A (letOwnedTupleGo target it v) (fun _ s₁' => wpAny (model prog w) A (assign target env v) (fun _ s₂ =>
          wpAny (model prog w) A (forIn ifs true fun c r => if r = true then do let ok ← isTrue c env (eval c env); pure (ForInStep.yield ok) else pure (ForInStep.yield r)) (fun ok s₃ =>
            if ok = true then wpAny (model prog w) A (eval elt env) (fun x s₄ =>
              wpAny (model prog w) A (call (.builtin "list.append") [acc, x]) (fun _ s₅ => ∃ m, m < n ∧ I m s₅) (fun _ _ => False) s₄) (fun _ _ => False) s₃
            else ∃ m, m < n ∧ I m s₃) (fun _ _ => False) s₂) (fun _ _ => False) s₁') (fun _ _ => False) s₁) (fun _ _ => False) s)
    (n : Nat) (h : I n s) : codeAny (model prog w) A (.compLoop (.ListComp elt [⟨target, iter, ifs, 0⟩] scope pos) 0 it acc env) R s := by
  refine codeAny_loop rfl I (fun n s hI => ?_) n h
  show wpAny _ A ((compTurn (.ListComp elt [⟨target, iter, ifs, 0⟩] scope pos) 0 it acc env).onRaise (fun x => do noteFrame x env; theTreesLotGoes x)) _ _ s
  refine wpAny_noted ?_
  rw [compTurn_list]
  refine wpAny_bind (wpAny_standAt (wpAny_bind (wpAny_mono (turn n s hI) (fun r s₁ h₁ => ?_) fun _ _ h' => h'.elim)))
  cases r with
  | none => exact wpAny_pure h₁
  | some v =>
    refine wpAny_bind (wpAny_mono h₁ (fun _ s₁' h₁' => ?_) fun _ _ h' => h'.elim)
    refine wpAny_bind (wpAny_mono h₁' (fun _ s₂ h₂ => wpAny_bind (wpAny_mono h₂ (fun ok s₃ h₃ => ?_) fun _ _ h' => h'.elim)) fun _ _ h' => h'.elim)
    cases ok with
    | false => exact wpAny_pure ⟨rfl, h₃⟩
    | true =>
      exact wpAny_bind (wpAny_bind (wpAny_mono h₃ (fun x s₄ h₄ => wpAny_bind (wpAny_mono h₄ (fun _ s₅ h₅ => wpAny_pure (wpAny_pure ⟨rfl, h₅⟩)) fun _ _ h' => h'.elim)) fun _ _ h' => h'.elim))
end
end Mine
namespace Mine
open PySem PySem.W PyProof.Rows PySem.Calls PySem.Spec
noncomputable def compStep (P : Gp) (pelt : PE) (pt : PT) (pifs : PTs) (cap : List (Nat × Nat)) (nl n0 : Nat) (lc0 : List (Option V)) : V → St → (St → Prop) → Prop := fun x st' k =>
  bindT pt x (capL cap lc0 (nones nl)) fun lc => gIfs P pifs { st' with loc := lc } (fun b st2 =>
    branch b (gE P pelt st2 (fun v st3 => optK (lstAt st3 (.obj n0)) fun q => small (len' q.2) (k { putLst st3 q.1 (q.2 ++ [v]) with loc := lc0 })) (fun _ _ => False)) (k { st2 with loc := lc0 })) (fun _ _ => False)
inductive CInv {R : Rn} {A : Around} {tg : Expr} (L : Lz R A tg) (stp : V → St → (St → Prop) → Prop) (lc0 : List (Option V)) (K : St → Prop) (n : Nat) (s : Shared) : Prop
  | mk (i : Li L) (j : Nat) (rest : List D) (e : s = i.s) (hn : n = rest.length) (hd : L.ds.drop j = rest) (hj : j ≤ L.ds.length) (x : L.Sx j i.s.heap) (q : loopC stp rest { i.st with loc := lc0 } K)
section
variable {G : Gx} {tg elt iter : Expr} {ifs : List Expr} {pt : PT} {pelt : PE} {pifs : PTs} {cap : List (Nat × Nat)} {nl n0 : Nat} {lc0 : List (Option V)} {K : St → Prop} {D : Addr}
noncomputable abbrev Li.withLoc {R : Rn} {A : Around} {L : Lz R A tg} (i : Li L) {lc : List (Option V)} (S : Sat X (R.hide L.wr) i.ρ { i.st with loc := lc } i.s.heap) : Li L := ⟨i.s, i.ρ, { i.st with loc := lc }, S, i.B⟩
theorem comp_turn {R : Rn} {A : Around} {L : Lz R A tg} (hsc : R.env.scope = G.sc) (hdp : R.d = G.d) (ht : TG false G.sc tg pt) (hifs : SIfs G ifs pifs) (helt : SE G elt pelt) (hcap : ∀ i : Li L, Sat X (R.hide L.wr) i.ρ { i.st with loc := capL cap lc0 (nones nl) } i.s.heap) (hD : L.p.ρ[n0]? = some D)
    (i : Li L) {j : Nat} {d : _root_.Mine.D} {r : List _root_.Mine.D} {Z : Shared → Prop} (hd : L.ds.drop j = d :: r) (x : L.Sx j i.s.heap) (q : loopC (compStep G.P pelt pt pifs cap nl n0 lc0) (d :: r) { i.st with loc := lc0 } K) :
    wpAny (model X.prog X.w) A (pyNext (.ref L.I)) (fun rr s₁ => match rr with
      | none => Z s₁
      | some v => wpAny (model X.prog X.w) A (letOwnedTupleGo tg (.ref L.I) v) (fun _ s₁' => wpAny (model X.prog X.w) A (assign tg R.env v) (fun _ s₂ =>
          wpAny (model X.prog X.w) A (forIn ifs true fun c r => if r = true then do let ok ← isTrue c R.env (eval c R.env); pure (ForInStep.yield ok) else pure (ForInStep.yield r)) (fun ok s₃ =>
            if ok = true then wpAny (model X.prog X.w) A (eval elt R.env) (fun x s₄ =>
              wpAny (model X.prog X.w) A (call (.builtin "list.append") [.ref D, x]) (fun _ s₅ => ∃ m, m < (d :: r).length ∧ CInv L (compStep G.P pelt pt pifs cap nl n0 lc0) lc0 K m s₅) (fun _ _ => False) s₄) (fun _ _ => False) s₃
            else ∃ m, m < (d :: r).length ∧ CInv L (compStep G.P pelt pt pifs cap nl n0 lc0) lc0 K m s₃) (fun _ _ => False) s₂) (fun _ _ => False) s₁') (fun _ _ => False) s₁) (fun _ _ => False) i.s := by
  have dd := drop_cons hd
  obtain ⟨l, hl, hg⟩ := optK_iff q
  refine L.T.item j d i.s _ _ dd.1 x fun v h1 tk y k hgo => hgo _ _ fun h2 x2 k2 => ?_
  let i1 := (i.hid k tk).hid k2 tk
  let i2 := i1.withLoc (hcap i1)
  have rv2 : i2.lc.rep v (.dat d) := (i.shown k tk y).mono (fun _ _ e => e) (GoB.step (R := R) (ρ := i.ρ) (os := i.st.objs) (s := (i.hid k tk).s) (s' := i2.s) ⟨rfl, rfl, rfl⟩ k2.1).vw
  have next : ∀ q : Pt (R.hide L.wr), i2.lc.to q → loopC (compStep G.P pelt pt pifs cap nl n0 lc0) r { q.st with loc := lc0 } K → ∃ m, m < (d :: r).length ∧ CInv L (compStep G.P pelt pt pifs cap nl n0 lc0) lc0 K m q.s := fun q g hq =>
    ⟨r.length, Nat.lt_succ_self _, i2.run q g, j + 1, r, rfl, rfl, dd.2, (List.getElem?_eq_some_iff.mp dd.1).1, L.T.frame _ _ _ x2 fun b m o e => i2.kept q g b m o e, hq⟩
  refine ht.run i2.lc hsc nofun v _ l _ _ rv2 hl fun s3 S3 g3 => ?_
  let q3 : Pt (R.hide L.wr) := ⟨s3, i.ρ, _, S3⟩
  refine Lc.quiet (c := i2.lc) (p := q3) (hifs (i2.lc.mv q3) ⟨hsc, hdp⟩ _ _ hg) g3 fun ok b' p5 g5 rb q5 => ?_
  cases (show ok = b' from rb)
  cases ok with
  | false => rw [if_neg (by decide)]; exact next p5 g5 q5
  | true =>
    rw [if_pos rfl]
    refine Lc.quiet (c := i2.lc) (p := p5) (helt.run (i2.lc.mv p5) ⟨hsc, hdp⟩ _ _ q5) g5 fun v6 d6 p6 g6 r6 q6 => ?_
    have rD : (i2.lc.mv p6).rep (.ref D) (.obj n0) := ⟨D, rfl, g6.pre _ _ (i.B.pre _ _ hD)⟩
    refine wpAny_mono (op_append (c := i2.lc.mv p6) (ds := [d6]) (Q := fun _ st' => loopC (compStep G.P pelt pt pifs cap nl n0 lc0) r { st' with loc := lc0 } K) q6 rD (.cons r6 .nil)) ?_ fun _ _ f => f
    rintro _ s7 ⟨_, st7, ρ7, S7, g7, _, q8⟩
    exact next ⟨s7, ρ7, st7, S7⟩ (g6.trans g7) q8
end
theorem Sat.withLoc {R : Rn} {ρ : List Addr} {st : St} {h : Heap} (S : Sat X R ρ st h) {l : List (Option V)} (hl : ∀ m (i : Nat) (d : V), l[i]? = some (some d) → LocAt R.env m h (RepOf X R ρ st.objs h) i d) : Sat X R ρ { st with loc := l } h :=
  ⟨S.env, S.nodup, S.dis, S.hi, S.there, S.base, S.baseOff, S.src, S.len, S.objs, S.ext, S.loc.elim fun m q => ⟨m, q.1, hl m⟩, S.cellsAre, S.ff⟩
inductive CEnd (c : Lc) (Q : V → St → Prop) (D C : Addr) (s' : Shared) : Prop
  | mk (p : Pt (c.R.hide [C])) (e : s' = p.s) (g : Go X c.R c.ρ p.ρ c.st.objs p.st.objs c.s p.s) (i : Nat) (hD : p.ρ[i]? = some D) (q : Q (.obj i) p.st) (m : Str → Option Value) (hN : s'.heap.Ns C m) (ap : Apart c.R [C]) (off : ∀ b o, b ∉ ownOf X c.R c.ρ c.st.objs → c.s.heap.get? b = some o → b ∉ [C])
noncomputable abbrev lstH (h : Heap) : Heap := h.push { cls := .type "list", dict := none, data := .seq ([] : List Value).toArray }
structure Ck (c : Lc) (tg : Expr) (scope : Scope) (cap : List (Nat × Nat)) (nl : Nat) where
  K : Lk c tg
  s2 : Shared
  x : K.Sx 0 s2.heap
  k : ∀ b o, K.p.s.heap.get? b = some o → s2.heap.get? b = some o
  sm : Same K.p.s s2
  co : CompOk c.R.env.scope scope cap nl
  C : Addr
  h1 : Heap
  k1 : ∀ b o, (lstH s2.heap).get? b = some o → h1.get? b = some o
  fr : (lstH s2.heap).get? C = none
  m : Str → Option Value
  hns : h1.Ns C m
  h3 : @LT.lt Nat _ 3 C
section
variable {c : Lc} {tg : Expr} {scope : Scope} {cap : List (Nat × Nat)} {nl : Nat} (W : Ck c tg scope cap nl)
noncomputable abbrev Ck.z : Lz c.R c.A tg := W.K.z W.x W.k
noncomputable abbrev Ck.pD : Pt (c.R.hide W.K.wr) := ⟨{ W.s2 with heap := lstH W.s2.heap }, W.K.p.ρ ++ [W.s2.heap.objs.size], { W.K.p.st with objs := W.K.p.st.objs ++ [.list []] },
  W.z.p.S.newObj (fun _ _ e => Heap.get?_push_of_some _ e) (fresh_at _) W.z.p.S.size3 rfl ⟨_, Heap.get?_push_size _ rfl⟩ (by exact ⟨[], 0, Heap.get?_push_size _ rfl, rfl⟩)⟩
theorem Ck.gD : Go X (c.R.hide W.K.wr) W.K.p.ρ W.pD.ρ W.K.p.st.objs W.pD.st.objs W.s2 W.pD.s := Go.newObj (s := W.s2) (s' := W.pD.s) W.z.p.S (fun _ _ e => Heap.get?_push_of_some _ e) ⟨rfl, rfl, rfl⟩ (fresh_at _) rfl
theorem Ck.apC : Apart (compRn c.R scope W.C) W.K.wr :=
  ⟨fun p hp => (W.pD.S.clMem W.co hp).elim fun q z => z.2 ▸ W.z.ap.cells q z.1, W.z.ap.frs, fun a m w => (List.mem_append.mp m).elim (fun m => W.z.p.S.dis a (own_core.mpr (.inl m)) (List.mem_append_left _ w)) fun m => W.z.ap.hid a m w⟩
noncomputable abbrev Ck.zC : Lz (compRn c.R scope W.C) c.A tg :=
  ⟨W.K.I, W.K.fp, W.K.wr, W.K.ds, W.K.Sx, (c.mv W.K.p).F, ⟨{ W.s2 with heap := W.h1 }, W.pD.ρ, { W.pD.st with loc := [] }, (W.pD.S.compIn W.co W.k1 W.fr W.hns W.h3).1⟩, fun a o f => (W.pD.S.compIn W.co W.k1 W.fr W.hns W.h3).2 a o (W.gD.vw a o (W.z.hF a o f)),
    W.K.src, W.apC, ⟨c.hA.hn, c.hA.depth, c.hA.units, c.hA.frames⟩, W.K.T⟩
variable (i : Li W.zC)
theorem Ck.keptC {b : Addr} (m : b ∈ c.R.wr ∨ b ∈ c.R.hid) {o : Obj} (e : (lstH W.s2.heap).get? b = some o) : (b ∉ frs c.R → i.s.heap.get? b = some o) ∧ ∃ sl, i.s.heap.get? b = some { o with slots := sl } :=
  (i.B.keep b o (fun q => W.zC.p.S.dis b q (List.mem_append_right _ (List.mem_append.mpr m))) (W.zC.ap.hid b (List.mem_append.mpr m)) (W.k1 _ _ e)).2
theorem Ck.capC : Sat X ((compRn c.R scope W.C).hide W.K.wr) i.ρ { i.st with loc := capL cap W.K.p.st.loc (nones nl) } i.s.heap := i.S.withLoc fun m j d e => by
  obtain ⟨y, kd, v, p, f1, f2, f3, hp, ⟨oc, ho, hd⟩, f6⟩ := W.pD.S.caught (C := W.C) W.co e
  exact ⟨y, kd, v, f1, .inr ⟨f2, p.2, f3, oc, (W.keptC i ((c.S.env.cells p hp).2) ho).1 (W.pD.S.cellNf p hp), hd⟩, (f6.mono (fun _ _ e => e) (W.pD.S.compIn W.co W.k1 W.fr W.hns W.h3).2).mono i.B.pre i.B.vw⟩
theorem Ck.endC {Q : V → St → Prop} {h2 : Heap} (k2 : ∀ b o, b ∉ W.K.wr → i.s.heap.get? b = some o → h2.get? b = some o) (tk : Nat) (q : Q (.obj W.K.p.st.objs.length) { i.st with loc := W.K.p.st.loc }) : CEnd c Q W.s2.heap.objs.size W.C { i.s with heap := h2, toks := tk } := by
  have up : ∀ b o, W.s2.heap.get? b = some o → (lstH W.s2.heap).get? b = some o := fun _ _ e => Heap.get?_push_of_some _ e
  have frC : W.s2.heap.get? W.C = none := by
    cases e : W.s2.heap.get? W.C with
    | none => rfl
    | some o => exact no (W.fr.symm.trans (up _ _ e))
  have frp : ∀ b ∈ [W.C], W.K.p.s.heap.get? b = none := fun b m => by
    rw [List.mem_singleton.mp m]
    cases e : W.K.p.s.heap.get? W.C with
    | none => rfl
    | some o => exact no (frC.symm.trans (W.k _ _ e))
  have Bs : GoB X c.R W.K.wr W.K.p.ρ i.ρ W.K.p.st.objs i.st.objs W.s2 i.s := (W.gD.unhid.toB (W.K.T.live _ _ W.x)).trans (i.B.ofComp (s := W.pD.s) (st' := i.st) i.S W.k1 W.fr ⟨rfl, rfl, rfl⟩)
  have B0 : GoB X c.R W.K.wr W.K.p.ρ W.K.p.ρ W.K.p.st.objs W.K.p.st.objs W.K.p.s W.s2 := GoB.step W.sm fun b o _ e => W.k b o e
  have g := W.K.g.trans (((B0.trans Bs).trans (GoB.step (s' := { i.s with heap := h2, toks := tk }) ⟨rfl, rfl, rfl⟩ k2)).go W.K.fr)
  have Sf := W.z.p.S.compOut (lc := W.K.p.st.loc) (os0 := W.K.p.st.objs) (ex := W.K.p.st.ext) i.S k2 c.S.env W.z.ap frC (fun b hb o e => (W.keptC i (.inl hb) (up _ _ e)).2)
    (fun p hp o e => (W.keptC i ((c.S.env.cells p hp).2) (up _ _ e)).1 (W.pD.S.cellNf p hp)) Bs.pre fun a o f => i.B.vw a o ((W.pD.S.compIn W.co W.k1 W.fr W.hns W.h3).2 a o (W.gD.vw a o f))
  obtain ⟨mm, hN, _⟩ := i.S.loc
  have ap := W.K.p.S.apart frp
  have cw : W.C ∉ W.K.wr := fun w => (W.K.T.live _ _ W.x W.C w).elim fun _ e => no (frC.symm.trans e)
  refine ⟨⟨{ i.s with heap := h2, toks := tk }, i.ρ, { i.st with loc := W.K.p.st.loc }, Sf⟩, rfl, g, W.K.p.st.objs.length, i.B.pre _ _ (by rw [W.K.p.S.len]; exact List.getElem?_concat_length), q, mm, hN.at' fun o e => k2 _ o cw e, ap, fun b o n e w => ?_⟩
  obtain ⟨sl, e⟩ := (W.K.g.stp.keep b o n e).2.2
  exact no ((frp b w).symm.trans e)
end
end Mine
namespace Mine
open PySem PySem.W PyProof.Rows PySem.Calls PySem.Spec
section
variable {G : Gx} {tg elt iter : Expr} {ifs : List Expr} {pt : PT} {pi : PI} {pelt : PE} {pifs : PTs} {cap : List (Nat × Nat)} {nl : Nat} {scope : Scope} {pos : Pos}
structure CompIs (G : Gx) (scope : Scope) (cap : List (Nat × Nat)) (nl : Nat) (tg elt iter : Expr) (ifs : List Expr) (pt : PT) (pi : PI) (pelt : PE) (pifs : PTs) : Prop where
  co : CompOk G.sc scope cap nl
  hi : SI G tg iter pi
  ht : TG false (relabelS scope G.sc) tg pt
  hifs : SIfs { G with sc := relabelS scope G.sc } ifs pifs
  helt : SE { G with sc := relabelS scope G.sc } elt pelt
  hs : ∀ env x, foldedSetIterable iter env x = pure x
theorem comp_whole (M : CompIs G scope cap nl tg elt iter ifs pt pi pelt pifs) {c : Lc} (ic : c.In G) {Q : V → St → Prop} {E : Bool → St → Prop} (hg : gE G.P (.comp pelt pt pi pifs cap nl) c.st Q E) {p0 : Pos} {use : Option (Value → Sem Unit)} {Z : Value → Shared → Prop}
    (fin : ∀ D C s', CEnd c Q D C s' → compPost (model X.prog X.w) c.A (c.epost E) use Z (.ref D) C (.ok .next) s') :
    c.go E (comprehension (.ListComp elt [⟨tg, iter, ifs, 0⟩] scope pos) scope c.R.env p0 (newList []) false (eval iter c.R.env) use) Z c.s := by
  have co : CompOk c.R.env.scope scope cap nl := ic.1 ▸ M.co
  refine wpAny_comprehension_free rfl (M.hs _) (closureFor_is fun n hn => (co.free n hn).elim fun j q => q.elim fun kk q => c.S.env.all j n kk q.1 q.2) co.kind co.hnames ?_
  refine wpAny_mono (M.hi c ic _ _ hg) (fun v s1 h1 => wpAny_mono h1 ?_ fun _ _ e => e) fun _ _ e => e
  rintro _ s2 ⟨K, rfl, x, k, sm, q⟩
  refine wpAny_newObj_type (wpAny_newFunctionEnv co.nocell (fun y hy => nomatch hy) (fun h1 hns hsb => ?_) co.kind)
  have k1 : ∀ b o, (lstH s2.heap).get? b = some o → h1.get? b = some o := fun b o e => hsb.extBut b o (Nat.ne_of_lt (Heap.lt_size e)) (Heap.get?_push_of_some _ e)
  have h3 : @LT.lt Nat _ 3 (lstH s2.heap).objs.size := by rw [Heap.size_push]; exact Nat.lt_succ_of_lt (K.z x k).p.S.size3
  let W : Ck c tg scope cap nl := ⟨K, s2, x, k, sm, co, _, h1, k1, fresh_at _, _, hns, h3⟩
  let L := W.zC
  have hD : L.p.ρ[K.p.st.objs.length]? = some s2.heap.objs.size := by show (K.p.ρ ++ [s2.heap.objs.size])[_]? = _; rw [K.p.S.len]; exact List.getElem?_concat_length
  have loop : codeAny (model X.prog X.w) c.A (.compLoop (.ListComp elt [⟨tg, iter, ifs, 0⟩] scope pos) 0 (.ref K.I) (.ref s2.heap.objs.size) (compRn c.R scope (lstH s2.heap).objs.size).env) (compPost (model X.prog X.w) c.A (c.epost E) use Z (.ref s2.heap.objs.size) (lstH s2.heap).objs.size) L.p.s := by
    refine compLoop_go (CInv L (compStep G.P pelt pt pifs cap nl K.p.st.objs.length K.p.st.loc) K.p.st.loc fun st4 => Q (.obj K.p.st.objs.length) st4) (fun n s => ?_) _ ⟨L.start, 0, K.ds, rfl, rfl, rfl, Nat.zero_le _, K.T.frame _ _ _ x fun b _ o e => k1 b o (Heap.get?_push_of_some _ e), q⟩
    rintro ⟨i, j, rest, rfl, rfl, hd, hj, x', q⟩
    cases rest with
    | nil =>
      cases drop_nil hd hj
      exact K.T.done i.s _ _ x' fun h2 tk k2 => fin _ _ _ (W.endC i k2 tk q)
    | cons d r => exact comp_turn (L := L) (G := { G with sc := relabelS scope G.sc }) (cap := cap) (nl := nl) (n0 := K.p.st.objs.length) (lc0 := K.p.st.loc) (congrArg (relabelS scope) ic.1) ic.2 M.ht M.hifs M.helt W.capC hD i hd x' q
  exact codeAny_compStart_list loop (K.T.self 0 _ _ _ (K.T.frame _ _ _ x fun b _ o e => k1 b o (Heap.get?_push_of_some _ e)) loop)
theorem CEnd.out {c : Lc} {C : Addr} {s' : Shared} {ρ' : List Addr} {st' : St} {h' : Heap} (S : Sat X (c.R.hide [C]) ρ' st' s'.heap) (g : Go X c.R c.ρ ρ' c.st.objs st'.objs c.s s') (ap : Apart c.R [C]) (off : ∀ b o, b ∉ ownOf X c.R c.ρ c.st.objs → c.s.heap.get? b = some o → b ∉ [C]) (hs : Heap.SameBut C s'.heap h') :
    Sat X c.R ρ' st' h' ∧ Go X c.R c.ρ ρ' c.st.objs st'.objs c.s { s' with heap := h' } := by
  have k : ∀ b o, b ∉ [C] → s'.heap.get? b = some o → h'.get? b = some o := fun b o hb e => (hs.2 b fun q => hb (List.mem_singleton.mpr q)).trans e
  refine ⟨(S.hidOut k c.S.env ap).1, ⟨fun b o n e => ?_, g.stp.fresh⟩, g.pre, g.same⟩
  have n2 := off b o n e
  exact (g.stp.keep b o n e).imp id fun q => ⟨fun f => k b o n2 (q.1 f), q.2.imp fun sl e => k b _ n2 e⟩
theorem se_comp (M : CompIs G scope cap nl tg elt iter ifs pt pi pelt pifs) : SE G (.ListComp elt [⟨tg, iter, ifs, 0⟩] scope pos) (.comp pelt pt pi pifs cap nl) := ⟨fun _ _ => rfl, fun c ic Q E hg => by
  unfold Lc.W
  rw [eval_ListComp]
  refine comp_whole M (use := none) ic hg ?_
  rintro D C _ ⟨p, rfl, g, i, hD, q, m, hN, ap, off⟩
  exact ⟨m, hN, fun h' hs => let o := CEnd.out p.S g ap off hs; ⟨.obj i, p.st, p.ρ, o.1, o.2, ⟨D, rfl, hD⟩, q⟩⟩⟩
theorem ss_asgC {py spos : Pos} {y : Str} {iy : Nat} (M : CompIs G scope cap nl tg elt iter ifs pt pi pelt pifs) (hy : G.sc.names[iy]? = some (y, .local))
    (hsw : ∀ env : Env, env.scope = G.sc → swapsWith (.ListComp elt [⟨tg, iter, ifs, 0⟩] scope pos) (some (.Name y py)) spos.line env = pure true) :
    SS G (.Assign [.Name y py] (.ListComp elt [⟨tg, iter, ifs, 0⟩] scope pos) spos) (.asg (.loc iy) (.comp pelt pt pi pifs cap nl)) := fun c ic htop Q E hg => by
  unfold Lc.W
  rw [exec_Assign_Name_used _ _ _ _ (hsw _ ic.1)]
  refine wpAny_bind (wpAny_standAt (wpAny_bind ?_))
  show c.go E (do let _ ← comprehension (.ListComp elt [⟨tg, iter, ifs, 0⟩] scope pos) scope c.R.env _ (newList []) false (eval iter c.R.env) (some (assign (.Name y py) c.R.env))) _ c.s
  refine wpAny_bind (wpAny_mono (comp_whole M (use := some (assign (.Name y py) c.R.env)) (Z := fun _ s' => c.postR relF Q .next s') ic (show gE G.P (.comp pelt pt pi pifs cap nl) c.st (fun v st1 => gA G.P (.loc iy) v st1 (fun st2 => Q .next st2) E) E from hg) ?_) (fun _ s' hq => wpAny_pure (wpAny_pure hq)) fun _ _ e => e)
  rintro D C _ ⟨p, rfl, g, i, hD, q, m, hN, ap, off⟩
  refine assignName_ok (R := c.R.hide [C]) (i := iy) (ic.1 ▸ hy) (.inl rfl) c.A p (.ref D) (.obj i) _ _ ⟨D, rfl, hD⟩ fun s'' S'' g'' => ?_
  have nown : C ∉ ownOf X c.R p.ρ p.st.objs := fun q => p.S.dis C q (List.mem_append_left _ (List.mem_singleton.mpr rfl))
  exact ⟨m, Ns.slots hN fun o e => (g''.stp.keep C o nown e).2.2, fun h' hs => let o := CEnd.out (st' := { p.st with loc := putAt p.st.loc iy (some (.obj i)) }) S'' (g.trans g''.unhid) ap off hs; Post.mk .next _ p.ρ o.1 o.2 trivial q⟩
end
end Mine
namespace Mine
open PySem PySem.W PyProof.Rows PySem.Calls PySem.Spec
section
variable {prog : Program} {w : World} {A : Around} {R : Result → Shared → Prop} {s : Shared}
theorem while_turn {test : Expr} {body orelse : List Stmt} {env : Env}
    (h : wpAny (model prog w) A (isTrue test env (eval test env)) (fun b s₂ =>
        if b then wpAny (model prog w) A (execs body env) (fun f s₃ => match f with
            | .next | .cont => codeAny (model prog w) A (.whileLoop test body orelse env) R s₃
            | .brk => R (.ok .next) s₃
            | .ret v => R (.ok (.ret v)) s₃) (fun _ _ => False) s₂
        else wpAny (model prog w) A (execs orelse env) (fun f s₃ => R (.ok f) s₃) (fun _ _ => False) s₂) (fun _ _ => False) s) :
    codeAny (model prog w) A (.whileLoop test body orelse env) R s := by
  refine codeAny_of_tree ?_
  show wpAny _ A ((whileTurn test body orelse env).onRaise (fun x => do noteFrame x env; theTreesLotGoes x)) _ _ s
  refine wpAny_noted ?_
  simp only [whileTurn]
  refine wpAny_bind (wpAny_mono h (fun b s₂ h₂ => ?_) fun _ _ f => f.elim)
  cases b with
  | false =>
    simp only [Bool.false_eq_true, if_false] at h₂ ⊢
    exact wpAny_bind (wpAny_mono h₂ (fun f s₃ h₃ => wpAny_pure h₃) fun _ _ f => f.elim)
  | true =>
    simp only [if_true] at h₂ ⊢
    refine wpAny_bind (wpAny_mono h₂ (fun f s₃ h₃ => ?_) fun _ _ f => f.elim)
    cases f with
    | next => exact wpAny_pure ⟨rfl, h₃⟩
    | cont => exact wpAny_pure ⟨rfl, h₃⟩
    | brk => exact wpAny_pure h₃
    | ret v => exact wpAny_pure h₃
end
noncomputable def gp0 (call : Addr → List V → Option AObj → (V → List AObj → Option AObj → Prop) → Prop → Prop) : Gp := ⟨call, fun _ _ _ _ _ => False⟩
noncomputable def WhlOk (P0 : Gp) (d : Nat) (t : PT1) (b : PSs) (st : St) (Q : AFlow → St → Prop) : Prop :=
  ∀ sc test body, ST ⟨P0, d, sc⟩ test t → SSs ⟨P0, d, sc⟩ body b → ∀ c : Lc, c.In ⟨P0, d, sc⟩ → c.R.top = true → c.st = st →
    codeAny (model X.prog X.w) c.A (.whileLoop test body [] c.R.env) (fun r s' => match r with | .ok f => c.postR relF Q f s' | .error _ => False) c.s
theorem ss_whl {G : Gx} {P0 : Gp} {test : Expr} {body : List Stmt} {t : PT1} {b : PSs} {pos : Pos} (hP : ∀ t b st Q E, G.P.whl t b st Q E → WhlOk P0 G.d t b st Q) (ht : ST ⟨P0, G.d, G.sc⟩ test t) (hb : SSs ⟨P0, G.d, G.sc⟩ body b) :
    SS G (.While test body [] pos) (.whl t b) := fun c ic htop Q E h => wpAny_While (codeAny_mono (hP _ _ _ _ _ h G.sc test body ht hb c ic htop rfl) fun r s' z => by
  cases r with
  | ok f => exact z
  | error _ => exact z.elim)
end Mine
namespace Mine
open PySem PySem.W PyProof.Rows PySem.Calls PySem.Spec
theorem cellsFrom_look {names : List (Str × NameKind)} {x : Str} : ∀ {n : Nat} {acc : List (Str × Addr)}, (x, NameKind.cell) ∈ names ∨ (∃ c, acc.lookup x = some c) → ∃ c, (cellsFrom n names acc).lookup x = some c := by
  induction names with
  | nil => exact fun h => h.elim nofun id
  | cons p r ih =>
    obtain ⟨y, k⟩ := p
    intro n acc h
    unfold cellsFrom
    split
    · refine ih ?_
      cases hx : x == y with
      | true => exact .inr ⟨n, by rw [List.lookup_cons, hx]⟩
      | false =>
        rw [List.lookup_cons, hx]
        exact h.imp (fun m => (List.mem_cons.mp m).elim (fun e => absurd (congrArg Prod.fst e) (beq_eq_false_iff_ne.mp hx)) id) id
    · rename_i hk
      exact ih (h.imp (fun m => (List.mem_cons.mp m).elim (fun e => absurd (show (k == NameKind.cell) = true by rw [← show NameKind.cell = k from congrArg Prod.snd e]; rfl) hk) id) id)
noncomputable def restOf (X : Cx) (R : Rn) (xl : Option Addr) (ρ : List Addr) (os : List AObj) : List Addr :=
  open Classical in (ownOf X R ρ os).filter fun a => decide (R.src ≠ some a ∧ xl ≠ some a)
theorem mem_rest {R : Rn} {xl : Option Addr} {ρ : List Addr} {os : List AObj} {a : Addr} : a ∈ restOf X R xl ρ os ↔ a ∈ ownOf X R ρ os ∧ R.src ≠ some a ∧ xl ≠ some a := by
  unfold restOf
  rw [List.mem_filter, decide_eq_true_iff]
noncomputable def cellsOf' (h : Heap) (sc : Scope) : List (Str × Addr) := cellsFrom (h.objs.size + 1) sc.names []
noncomputable def frameObj : Obj := { cls := .type "frame", data := .dict #[] }
noncomputable def heapIn (h : Heap) (sc : Scope) : Heap := pushCells (h.push frameObj) sc.names
noncomputable abbrev envIn (sc : Scope) (h : Heap) (qual : Str) (f : Addr) (cdv : Value) : Env := newEnv sc h.objs.size mainGlobals (cellsOf' h sc) qual (some f) cdv none builtinsNs
noncomputable def fnRn (X : Cx) (R : Rn) (xl : Option Addr) (ρ : List Addr) (os : List AObj) (h : Heap) (sc : Scope) (qual : Str) (f : Addr) (cdv : Value) : Rn :=
  { env := envIn sc h qual f cdv, wr := h.objs.size :: (cellsOf' h sc).map (·.2),
    fs := envIn sc h qual f cdv :: R.fs, hid := restOf X R xl ρ os ++ (frs R ++ R.hid), src := R.src, xa := xl, d := R.d - 1, top := true,
    sub := fun e he L q => by
      rcases List.mem_cons.mp he with rfl | he
      · obtain rfl := Option.some.inj q; exact .inl (List.mem_cons_self ..)
      · exact .inr (List.mem_append_right _ (List.mem_append_left _ (mem_frs.mpr ⟨e, he, q⟩))) }
noncomputable def Lent (X : Cx) (R : Rn) (ρ : List Addr) (st : St) (h : Heap) : Option Addr → Option AObj → Prop
  | none, none => True
  | some a, some o => (R.xa = some a ∨ a ∈ liveA ρ st.objs) ∧ o.live = true ∧ ObjRep X.w.params R.src (some a) [] (vwOf X R ρ st.objs h) h a o
  | _, _ => False
structure ScOk (sc : Scope) : Prop where
  kind : sc.kind = .function
  nd : (sc.names.map (·.1)).Nodup
  nodbg : ∀ p ∈ sc.names, (p.1 == ("__debug__" : Str)) = false ∧ (p.1 == ("__classdict__" : Str)) = false
  nofree : ∀ p ∈ sc.names, p.2 ≠ .free
section
variable {R : Rn} {ρ ρ' : List Addr} {st st' : St} {h : Heap} {xl : Option Addr} {ext : Option AObj} {sc : Scope}
theorem heapIn_keeps (h : Heap) (sc : Scope) : ∀ b o, h.get? b = some o → (heapIn h sc).get? b = some o := fun b o e => pushCells_keeps _ _ b o (Heap.get?_push_of_some _ e)
theorem cells_ok (h : Heap) (sc : Scope) : CellsOk (heapIn h sc) (h.objs.size + 1) (cellsOf' h sc) := by
  have := cellsFrom_ok sc.names (h.push frameObj) (h.objs.size + 1) [] ⟨fun _ _ hm => (nomatch hm), List.Pairwise.nil⟩ (by rw [Heap.size_push]; exact Nat.le_refl _)
  rw [Heap.size_push] at this
  exact this
theorem lentCore (L : Lent X R ρ st h xl ext) {a : Addr} (e : xl = some a) : R.xa = some a ∨ a ∈ liveA ρ st.objs := by
  subst e
  cases ext with
  | none => exact L.elim
  | some o => exact L.1
theorem Sat.frBase (S : Sat X R ρ st h) {a : Addr} (m : a ∈ frs R) : X.h₀.get? a = none := by
  obtain ⟨e, he, q⟩ := mem_frs.mp m
  obtain ⟨_, L, _, h1, h2, _⟩ := S.ff e he
  cases q.symm.trans h1
  exact h2
section
variable {qual : Str} {f : Addr} {cdv : Value}
theorem new_wr (h : Heap) (sc : Scope) {a : Addr} (m : a ∈ (h.objs.size :: (cellsOf' h sc).map (·.2))) : @LE.le Nat _ h.objs.size a ∧ ∃ o, (heapIn h sc).get? a = some o := by
  rcases List.mem_cons.mp m with rfl | m
  · exact ⟨Nat.le_refl _, _, pushCells_keeps _ _ _ _ (Heap.get?_push_size _ rfl)⟩
  · obtain ⟨p, hp, rfl⟩ := List.mem_map.mp m
    have c := (cells_ok h sc).empty p.1 p.2 hp
    exact ⟨Nat.le_of_succ_le c.2, c.1.imp fun o q => q.1⟩
theorem new_off (h : Heap) (sc : Scope) {a : Addr} {o : Obj} (e : h.get? a = some o) : a ∉ (h.objs.size :: (cellsOf' h sc).map (·.2)) := fun m => no ((Heap.get?_none_of_le (new_wr h sc m).1).symm.trans e)
theorem callee_core (L : Lent X R ρ st h xl ext) {a : Addr} (m : Core (fnRn X R xl ρ st.objs h sc qual f cdv) [] [] a) : Core R ρ st.objs a := m.imp id fun m => m.elim (lentCore L) nofun
theorem callee_hid (S : Sat X R ρ st h) {a : Addr} (m : a ∈ (fnRn X R xl ρ st.objs h sc qual f cdv).hid) : a ∈ ownOf X R ρ st.objs ++ R.hid ∧ (∀ L : Lent X R ρ st h xl ext, ¬ Core (fnRn X R xl ρ st.objs h sc qual f cdv) [] [] a) := by
  rcases List.mem_append.mp m with m | m
  · have w := mem_rest.mp m
    exact ⟨List.mem_append_left _ w.1, fun _ q => q.elim w.2.1 fun q => q.elim w.2.2 nofun⟩
  · rcases List.mem_append.mp m with m | m
    · exact ⟨(frs_sub m).elim (fun w => List.mem_append_left _ (own_core.mpr (.inl w))) fun w => List.mem_append_right _ w, fun L q => S.coreFr (callee_core L q) m⟩
    · exact ⟨List.mem_append_right _ m, fun L q => S.dis a (own_core.mpr (.inr (callee_core L q))) m⟩
theorem callee_env (so : ScOk sc) : EnvOk (fnRn X R xl ρ st.objs h sc qual f cdv) := by
  have C := cells_ok h sc
  refine ⟨so.kind, rfl, rfl, so.nd, List.mem_cons_self .., so.nodbg, fun p hp => ⟨Nat.ne_of_gt (C.empty p.1 p.2 hp).2, .inl (List.mem_cons_of_mem _ (List.mem_map.mpr ⟨p, hp, rfl⟩))⟩, List.pairwise_map.mpr C.apart, fun _ i x e => ?_, fun i x kd e hk => ?_, fun _ => ⟨_, rfl, rfl⟩⟩
  · obtain ⟨c, hc⟩ := cellsFrom_look (n := h.objs.size + 1) (acc := []) (.inl (List.mem_of_getElem? e))
    exact ⟨c, hc, List.mem_cons_of_mem _ (List.mem_map.mpr ⟨_, mem_of_lookup hc, rfl⟩)⟩
  · rcases hk with rfl | rfl
    · exact cellsFrom_look (n := h.objs.size + 1) (acc := []) (.inl (List.mem_of_getElem? e))
    · exact absurd rfl (so.nofree _ (List.mem_of_getElem? e))
theorem Sat.enter (S : Sat X R ρ st h) (so : ScOk sc) (L : Lent X R ρ st h xl ext) (qual : Str) (f : Addr) (cdv : Value) (nl : Nat) :
    Sat X (fnRn X R xl ρ st.objs h sc qual f cdv) [] { loc := nones nl, objs := [], ext := ext } (heapIn h sc) ∧ ∀ a o, vwOf X R ρ st.objs h a o → vwOf X (fnRn X R xl ρ st.objs h sc qual f cdv) [] [] (heapIn h sc) a o := by
  have C := cells_ok h sc
  have k := heapIn_keeps h sc
  have S' := S.grow k
  have hL : (heapIn h sc).get? h.objs.size = some frameObj := pushCells_keeps _ _ _ _ (Heap.get?_push_size _ rfl)
  have co : ∀ {a}, Core (fnRn X R xl ρ st.objs h sc qual f cdv) [] [] a → a ∈ ownOf X R ρ st.objs := fun m => own_core.mpr (.inr (callee_core L m))
  have hd : ∀ {a}, a ∈ (fnRn X R xl ρ st.objs h sc qual f cdv).hid → a ∈ ownOf X R ρ st.objs ++ R.hid := fun m => (callee_hid (ext := ext) S m).1
  have all : ∀ {a}, a ∈ ownOf X (fnRn X R xl ρ st.objs h sc qual f cdv) [] [] ++ (fnRn X R xl ρ st.objs h sc qual f cdv).hid → a ∈ (h.objs.size :: (cellsOf' h sc).map (·.2)) ∨ a ∈ ownOf X R ρ st.objs ++ R.hid := fun m => (List.mem_append.mp m).elim (fun m => (own_core.mp m).imp id fun m => List.mem_append_left _ (co m)) fun m => .inr (hd m)
  have hF : ∀ a o, vwOf X R ρ st.objs h a o → vwOf X (fnRn X R xl ρ st.objs h sc qual f cdv) [] [] (heapIn h sc) a o := fun a o g => ⟨fun m => (all m).elim (new_off h sc g.2) g.1, k a o g.2⟩
  refine ⟨⟨callee_env so, ?_, fun a m w => (own_core.mp m).elim (fun m => (S.there a (hd w)).elim fun o e => new_off h sc e m) ((callee_hid (ext := ext) S w).2 L), fun a m => (own_core.mp m).elim (fun m => Nat.lt_of_lt_of_le S.size3 (new_wr h sc m).1) fun m => S.hi a (co m),
    fun a m => (all m).elim (fun m => (new_wr h sc m).2) (S'.there a), S'.base, fun b o e m => (all m).elim (new_off h sc (S.base b o e)) (S.baseOff b o e), S'.src, rfl, fun i o e => no e, fun o e => ?_, ⟨fun _ => none, ⟨_, #[], 0, hL, rfl, ?_, fun _ => rfl⟩, fun i d e => absurd e (nones_get _)⟩, fun p hp => ⟨_, (C.empty p.1 p.2 hp).1⟩, fun e he => ?_⟩, hF⟩
  · have nw : List.Nodup (h.objs.size :: (cellsOf' h sc).map Prod.snd : List Addr) := List.nodup_cons.mpr ⟨fun m => by obtain ⟨p, hp, e⟩ := List.mem_map.mp m; exact absurd e (Nat.ne_of_gt (C.empty p.1 p.2 hp).2), List.pairwise_map.mpr C.apart⟩
    have nl : ∀ o : Option Addr, o.toList.Nodup := fun o => by cases o <;> simp
    show (R.src.toList ++ ((h.objs.size :: (cellsOf' h sc).map Prod.snd) ++ (xl.toList ++ []))).Nodup
    rw [List.append_nil]
    refine List.nodup_append.mpr ⟨nl _, List.nodup_append.mpr ⟨nw, nl _, fun a ha b hb q => ?_⟩, fun a ha b hb q => ?_⟩
    · exact (S.there b (List.mem_append_left _ (co (.inr (.inl (Option.mem_toList.mp hb)))))).elim fun o e => new_off h sc e (q ▸ ha)
    · have hs : R.src = some a := Option.mem_toList.mp ha
      rcases List.mem_append.mp hb with hb | hb
      · exact (S.there a (List.mem_append_left _ (co (.inl hs)))).elim fun o e => new_off h sc e (q ▸ hb)
      · exact by cases q; exact (lentCore L (Option.mem_toList.mp hb)).elim (S.liveNd.2.1 a hs).2 (S.liveNd.2.1 a hs).1
  · cases e
    cases xl with
    | none => exact L.elim
    | some a => exact ⟨a, rfl, L.2.1, L.2.2.mono (fun _ _ e => e) hF fun _ x q => k _ _ q⟩
  · intro e he; exact absurd he (by simp)
  · rcases List.mem_cons.mp he with rfl | he
    · refine ⟨by rw [show (newEnv sc h.objs.size mainGlobals (cellsOf' h sc) qual (some f) cdv none builtinsNs).scope = sc from rfl, so.kind]; decide, h.objs.size, _, rfl, ?_, hL, rfl, _, _, rfl⟩
      cases q : X.h₀.get? h.objs.size with
      | none => rfl
      | some o => exact no ((fresh_at h).symm.trans (S.base _ _ q))
    · exact S'.ff e he
end
end
end Mine
namespace Mine
open PySem PySem.W PyProof.Rows PySem.Calls PySem.Spec
noncomputable def BackF (R : Rn) (ρ : List Addr) (os out : List AObj) (ρo : List Addr) (h : Heap) : Vw := vw ((ownOf X R ρ os ++ R.hid) ++ liveA ρo out) h
structure Back (X : Cx) (R : Rn) (ρ : List Addr) (os : List AObj) (s s' : Shared) (xl : Option Addr) (v : Value) (r : V) (out : List AObj) (ex : Option AObj) (ρo : List Addr) : Prop where
  keep : ∀ b o, R.src ≠ some b → xl ≠ some b → s.heap.get? b = some o → (b ∉ frs R → s'.heap.get? b = some o) ∧ ∃ sl, s'.heap.get? b = some { o with slots := sl }
  src : ∀ a, R.src = some a → SrcAt s'.heap a
  len : out.length = ρo.length
  new : ∀ a ∈ liveA ρo out, s.heap.get? a = none ∧ @LT.lt Nat _ 3 a ∧ ∃ o, s'.heap.get? a = some o
  nd : (liveA ρo out).Nodup
  objs : ∀ (i : Nat) (o : AObj), out[i]? = some o → ∃ a, ρo[i]? = some a ∧ ObjRep X.w.params R.src xl ρo (BackF R ρ os out ρo s'.heap) s'.heap a o
  ext : ∀ o, ex = some o → ∃ a, xl = some a ∧ o.live = true ∧ ObjRep X.w.params R.src xl ρo (BackF R ρ os out ρo s'.heap) s'.heap a o
  rep : Rep X.w.params R.src xl ρo (BackF R ρ os out ρo s'.heap) v r
  same : Same s s'
noncomputable def retV : Flow → Value
  | .ret v => v
  | _ => .none
inductive CPost (X : Cx) (R : Rn) (ρ : List Addr) (os : List AObj) (s : Shared) (xl : Option Addr) (Q : V → List AObj → Option AObj → Prop) (v : Value) (s' : Shared) : Prop
  | mk (r : V) (out : List AObj) (ex : Option AObj) (ρo : List Addr) (h1 : Q r out ex) (h2 : Back X R ρ os s s' xl v r out ex ρo)
structure AmbC (R : Rn) (A : Around) : Prop where
  hn : A.handled = none
  depth : A.depth + 8 * R.d + 4 ≤ recursionLimit
  units : A.units + 100 * R.d + 150 ≤ cLine
  frames : A.frames = some R.fs
theorem Amb.c {R : Rn} {A : Around} (h : Amb R A) : AmbC R A := ⟨h.hn, Nat.le_trans (Nat.add_le_add_left (by decide) _) h.depth, Nat.le_trans (Nat.add_le_add_left (by decide) _) h.units, h.frames⟩
structure Cc where
  R : Rn
  A : Around
  s : Shared
  ρ : List Addr
  st : St
  hA : AmbC R A
  S : Sat X R ρ st s.heap
noncomputable def Cc.err (c : Cc) (E : Prop) : Value → Shared → Prop := EPost X c.R c.ρ c.st.objs c.s fun fl st' => fl = true ∧ st' = c.st ∧ E
noncomputable def Cc.res (c : Cc) (xl : Option Addr) (Q : V → List AObj → Option AObj → Prop) (E : Prop) : Result → Shared → Prop := fun r s' => match r with
  | .ok (.ret v) => CPost X c.R c.ρ c.st.objs c.s xl Q v s'
  | .ok _ => False
  | .error e => c.err E e s'
noncomputable def CallOk (d : Nat) (f : Addr) (args : List V) (ext : Option AObj) (Q : V → List AObj → Option AObj → Prop) (E : Prop) : Prop :=
  ∀ (c : Cc) vs xl, c.R.d = d → Lent X c.R c.ρ c.st c.s.heap xl ext → Reps X.w.params c.R.src xl [] (vwOf X c.R c.ρ c.st.objs c.s.heap) vs args → codeAny (model X.prog X.w) c.A (.call (.ref f) ⟨vs, []⟩) (c.res xl Q E) c.s
noncomputable def storeAll (env : Env) (l : List (Str × Value)) : Sem PUnit := forIn l (⟨⟩ : PUnit) fun (x : Str × Value) (_ : PUnit) => (do storeName env x.1 x.2; pure (ForInStep.yield ⟨⟩) : Sem (ForInStep PUnit))
theorem storeAll_cons {M : Model} {A : Around} {E : Value → Shared → Prop} {s : Shared} {env : Env} {x : Str × Value} {l : List (Str × Value)} {Q : PUnit → Shared → Prop} (h : wpAny M A (storeName env x.1 x.2) (fun _ s' => wpAny M A (storeAll env l) Q E s') E s) : wpAny M A (storeAll env (x :: l)) Q E s := by
  unfold storeAll
  rw [List.forIn_cons]
  exact wpAny_bind (wpAny_bind (wpAny_mono h (fun _ _ q => wpAny_pure q) fun _ _ e => e))
section
variable {M : Model} {A : Around} {E : Value → Shared → Prop} {s : Shared}
theorem newEnv_run {scope : Scope} {globals : Addr} {binds : List (Str × Value)} {qual : Str} {func : Option Addr} {code : Value} {builtins : Addr} {Q : Env → Shared → Prop}
    (h : wpAny M A (storeAll (newEnv scope s.heap.objs.size globals (cellsOf' s.heap scope) qual func code none builtins) binds)
      (fun _ s' => Q (newEnv scope s.heap.objs.size globals (cellsOf' s.heap scope) qual func code none builtins) s') E { s with heap := heapIn s.heap scope }) :
    wpAny M A (newFunctionEnv scope globals [] binds qual func code none builtins) Q E s := by
  simp only [newFunctionEnv, Option.isSome_none, Bool.false_eq_true, if_false]
  refine wpAny_bind (wpAny_alloc ?_)
  refine wpAny_bind (wpAny_layCells _ (fun name kind cells => by cases hkc : kind == NameKind.cell <;> simp [hkc]) _ _ _ _ ?_)
  rw [show ({ s with heap := s.heap.push { cls := .type "frame", data := .dict #[] } } : Shared).heap.objs.size = s.heap.objs.size + 1 from Heap.size_push ..]
  exact wpAny_bind (wpAny_mono h (fun _ s' q => wpAny_pure q) fun _ _ e => e)
end
structure FnIs (X : Cx) (f : Addr) (sc : Scope) (body : List Stmt) (xs : List Str) (is : List Nat) (n : Nat) (dvs : List Value) (dds : List D) : Prop where
  fn : ∃ fo name qual params dV kV doc pm an cdv ct, X.K.lookup f = some fo ∧ fo.data = .func (fnX name qual params body sc [] dV kV doc pm an cdv ct) ∧ codeIn X.K cdv qual = true ∧
    ∀ (s : Shared) (vs : List Value), X.K.In s.heap → vs.length = n → BindsTo s (fnX name qual params body sc [] dV kV doc pm an cdv ct) ⟨vs, []⟩ (xs.zip (vs ++ dvs))
  ok : ScOk sc
  co : sc.isCoroutine = false
  gen : sc.isGenerator = false
  at_ : BindsAt sc xs is
  len : xs.length = n + dvs.length
  dv : ∀ src, DReps X.w.params src (fun _ _ => False) dvs dds
theorem FnIs.call {f : Addr} {sc : Scope} {body : List Stmt} {xs : List Str} {is : List Nat} {n : Nat} {dvs : List Value} {dds : List D} {A : Around} {s : Shared} {vs : List Value} {R : Result → Shared → Prop} (F : FnIs X f sc body xs is n dvs dds) (hd : A.depth < recursionLimit) (K : X.K.In s.heap) (hl : vs.length = n)
    (h : ∀ qual cdv, wpAny (model X.prog X.w) A.in1 (storeAll (envIn sc s.heap (qual ++ ".<locals>.") f cdv) (xs.zip (vs ++ dvs))) (fun _ s' => s'.heap.NoLimit ∧ codeAny (model X.prog X.w) A (.func body (envIn sc s.heap (qual ++ ".<locals>.") f cdv)) R s') (fun e s' => R (.error e) s') { s with heap := heapIn s.heap sc }) :
    codeAny (model X.prog X.w) A (.call (.ref f) ⟨vs, []⟩) R s := by
  obtain ⟨fo, name, qual, params, dV, kV, doc, pm, an, cdv, ct, e1, e2, e3, e4⟩ := F.fn
  exact codeAny_call_function hd (K _ _ e1) e2 F.co F.gen rfl (codeRec_of K e3) (e4 s vs K hl _ _ _ _ (newEnv_run (h qual cdv)))
theorem binds_run {R : Rn} {A : Around} {Ev : Value → Shared → Prop} (htop : R.top = true) {is : List Nat} : ∀ {xs : List Str} {p : Pt R} {vs : List Value} {ds : List V} {l : List (Option V)} {Q : PUnit → Shared → Prop}, BindsAt R.env.scope xs is → RepsOf X R p.ρ p.st.objs p.s.heap vs ds → setLs p.st.loc is ds = some l →
    (∀ s', Sat X R p.ρ { p.st with loc := l } s'.heap → Go X R p.ρ p.ρ p.st.objs p.st.objs p.s s' → Q ⟨⟩ s') →
    wpAny (model X.prog X.w) A (storeAll R.env (xs.zip vs)) Q Ev p.s := by
  induction is with
  | nil =>
    intro xs p vs ds l Q b r e h
    cases b
    cases ds with
    | nil => cases e; exact wpAny_pure (h p.s p.S (Go.refl ..))
    | cons _ _ => exact no e
  | cons i is ih =>
    rintro xs p vs ds l Q ⟨x, kd, xs, rfl, e1, hk, b⟩ r e h
    cases ds with
    | nil => exact no e
    | cons d ds =>
      obtain ⟨v, vs, rfl, r1, r2⟩ := r
      exact storeAll_cons (storeName_ok e1 (hk.imp id fun q => ⟨q, htop⟩) A p v d _ _ r1 fun s1 S1 g1 => ih (p := ⟨s1, p.ρ, _, S1⟩) b (g1.reps r2) e fun s' S' g' => h s' S' (g1.trans g'))
theorem allDatK_eq {kvs : List (D × V)} : ∀ {ds : List (D × D)}, allDatK kvs = some ds → kvs = ds.map fun p => (p.1, V.dat p.2) := by
  induction kvs with
  | nil => intro ds h; cases h; rfl
  | cons p r ih =>
    intro ds h
    obtain ⟨d, e, h⟩ := bind_inv h
    obtain ⟨t, e2, rfl⟩ := map_inv h
    rw [List.map_cons, ← ih e2, ← dat_of e]
theorem objRep_data {P : Params} {src xa xb : Option Addr} {ρ ρ' : List Addr} {F F' : Vw} {h : Heap} {a : Addr} {o : AObj} (x : ObjRep P src xa ρ F h a o) (e : extOk (some o) = true) (hF : ∀ a o, F a o → F' a o) : ObjRep P src xb ρ' F' h a o := by
  cases o with
  | list vs =>
    obtain ⟨ds, q⟩ := isSome_some e
    exact x.imp fun items x => x.imp fun n x => ⟨x.1, allDat_eq q ▸ ((Reps.dats (allDat_eq q ▸ x.2)).mono hF).reps⟩
  | dict kvs =>
    obtain ⟨ds, q⟩ := isSome_some e
    exact x.imp fun items x => x.imp fun n x => ⟨x.1, allDatK_eq q ▸ ((RepK.dats (allDatK_eq q ▸ x.2)).mono hF).repK⟩
  | fz d => exact absurd e nofun
end Mine
namespace Mine
open PySem PySem.W PyProof.Rows PySem.Calls PySem.Spec
structure Cl (c : Cc) (xl : Option Addr) (ext : Option AObj) where
  L : Lent X c.R c.ρ c.st c.s.heap xl ext
  sc : Scope
  qual : Str
  f : Addr
  cdv : Value
section
variable {c : Cc} {xl : Option Addr} {ext : Option AObj} (K : Cl c xl ext)
noncomputable abbrev Cl.R : Rn := fnRn X c.R xl c.ρ c.st.objs c.s.heap K.sc K.qual K.f K.cdv
noncomputable abbrev Cl.s : Shared := { c.s with heap := heapIn c.s.heap K.sc }
noncomputable abbrev Cl.go (p : Pt K.R) : Prop := Go X K.R [] p.ρ [] p.st.objs K.s p.s
variable {K} {p : Pt K.R}
theorem Cl.keep (g : K.go p) (b : Addr) (o : Obj) (n1 : c.R.src ≠ some b) (n2 : xl ≠ some b) (e : c.s.heap.get? b = some o) : (b ∉ frs c.R → p.s.heap.get? b = some o) ∧ ∃ sl, p.s.heap.get? b = some { o with slots := sl } := by
  refine (g.stp.keep b o (fun m => (own_core.mp m).elim (new_off _ _ e) fun m => m.elim n1 fun m => m.elim n2 nofun) (heapIn_keeps _ _ b o e)).2.imp (fun q hf => q fun m => ?_) id
  obtain ⟨e', he, z⟩ := mem_frs.mp m
  rcases List.mem_cons.mp he with rfl | he
  · cases z; exact no ((fresh_at c.s.heap).symm.trans e)
  · exact hf (mem_frs.mpr ⟨e', he, z⟩)
theorem Cl.new (g : K.go p) {a : Addr} (m : a ∈ liveA p.ρ p.st.objs) : c.s.heap.get? a = none ∧ @LT.lt Nat _ 3 a ∧ ∃ o, p.s.heap.get? a = some o := by
  have ma : a ∈ ownOf X K.R p.ρ p.st.objs := own_core.mpr (.inr (.inr (.inr m)))
  refine ⟨?_, p.S.hi a ma, p.S.there a (List.mem_append_left _ ma)⟩
  rcases g.stp.fresh a ma with m' | e
  · rcases own_core.mp m' with m' | m' | m' | m'
    · exact absurd m' (p.S.core (.inr (.inr m)))
    · exact absurd m (p.S.liveNd.2.1 a m').1
    · exact absurd m (p.S.liveNd.2.2 a m')
    · exact nomatch m'
  · cases q : c.s.heap.get? a with
    | none => rfl
    | some o => exact no (e.symm.trans (heapIn_keeps _ _ a o q))
theorem Cl.seen (a : Addr) (o : Obj) (f : vwOf X K.R p.ρ p.st.objs p.s.heap a o) : BackF c.R c.ρ c.st.objs p.st.objs p.ρ p.s.heap a o := by
  refine ⟨fun m => f.1 ?_, f.2⟩
  rcases List.mem_append.mp m with m | m
  · rcases List.mem_append.mp m with m | m
    · by_cases c1 : c.R.src = some a
      · exact List.mem_append_left _ (own_core.mpr (.inr (.inl c1)))
      · by_cases c2 : xl = some a
        · exact List.mem_append_left _ (own_core.mpr (.inr (.inr (.inl c2))))
        · exact List.mem_append_right _ (List.mem_append_left _ (mem_rest.mpr ⟨m, c1, c2⟩))
    · exact List.mem_append_right _ (List.mem_append_right _ (List.mem_append_right _ m))
  · exact List.mem_append_left _ (own_core.mpr (.inr (.inr (.inr m))))
theorem ret_rep {rp : Value → V → Prop} (h0 : rp .none (.dat .none)) {fl : Flow} {dl : AFlow} (r : relF rp fl dl) : rp (retV fl) (retOf dl) := flow_by (M := fun fl dl => rp (retV fl) (retOf dl)) r h0 h0 h0 fun _ _ h => h
theorem Cl.back (g : K.go p) {keep : Bool} {fl : Flow} {dl : AFlow} {Q : V → List AObj → Option AObj → Prop} (rel : relF (RepOf X K.R p.ρ p.st.objs p.s.heap) fl dl) (q : finK keep Q dl p.st) : CPost X c.R c.ρ c.st.objs c.s xl Q (retV fl) p.s := by
  have hrv := ret_rep (rp := RepOf X K.R p.ρ p.st.objs p.s.heap) rfl rel
  rcases branch_iff q with ⟨_, q⟩ | ⟨_, q⟩
  · exact ⟨retOf dl, p.st.objs, p.st.ext, p.ρ, q, Cl.keep g, p.S.src, p.S.len, fun a m => Cl.new g m, p.S.liveNd.1, fun i o e => (p.S.objs i o e).imp fun a q => ⟨q.1, q.2.mono (fun _ _ q => q) Cl.seen fun _ x q => q⟩,
      fun o e => (p.S.ext o e).imp fun a q => ⟨q.1, q.2.1, q.2.2.mono (fun _ _ q => q) Cl.seen fun _ x q => q⟩, hrv.mono (fun _ _ e => e) Cl.seen, g.same⟩
  · obtain ⟨⟨x, st3⟩, e3, q2⟩ := optK_iff q
    obtain ⟨ho, q3⟩ := ifT_iff q2
    obtain ⟨gv, dx⟩ := toD_ok (s := p.s) 40 p.S hrv e3
    have f4 : ∀ a o, vwOf X K.R p.ρ st3.objs p.s.heap a o → BackF c.R c.ρ c.st.objs [] [] p.s.heap a o := fun a o z => by
      have y := Cl.seen (p := gv.pt) a o z
      exact ⟨fun m => y.1 (List.mem_append_left _ ((List.mem_append.mp m).elim id nofun)), y.2⟩
    exact ⟨.dat x, [], st3.ext, [], q3, Cl.keep g, p.S.src, rfl, nofun, List.nodup_nil, fun i o e => no e, fun o e => (gv.sat.ext o e).imp fun a z => ⟨z.1, z.2.1, objRep_data z.2.2 (e ▸ ho) f4⟩, dx.mono f4, g.same⟩
end
end Mine
namespace Mine
open PySem PySem.W PyProof.Rows PySem.Calls PySem.Spec
theorem less {a k b d m e L : Nat} (h : a + k * (d + 1) + b ≤ L) (hm : m + e ≤ k + b) : a + m + k * d + e ≤ L := by
  rw [Nat.mul_succ] at h
  refine Nat.le_trans ?_ h
  rw [Nat.add_assoc, Nat.add_assoc a, Nat.add_assoc a, ← Nat.add_assoc m, Nat.add_comm m, Nat.add_assoc (k * d), Nat.add_assoc (k * d)]
  exact Nat.add_le_add_left (Nat.add_le_add_left hm _) _
section
variable {c : Cc} {xl : Option Addr} {ext : Option AObj} (K : Cl c xl ext)
noncomputable abbrev Cl.A : Around := c.A.deeper K.R.env
theorem Cl.amb {d : Nat} (hd : c.R.d = d + 1) : Amb K.R K.A := by
  have h1 := c.hA.depth
  have h2 := c.hA.units
  rw [hd] at h1 h2
  refine ⟨c.hA.hn, ?_, ?_, by show c.A.frames.map _ = _; rw [c.hA.frames]; rfl⟩
  · show c.A.depth + 1 + 8 * (c.R.d - 1) + 8 ≤ recursionLimit
    rw [hd, Nat.add_sub_cancel]
    exact less h1 (by decide)
  · show c.A.units + 3 + 100 * (c.R.d - 1) + 200 ≤ cLine
    rw [hd, Nat.add_sub_cancel]
    exact less h2 (by decide)
end
noncomputable def LeaveOk (E : Prop) : Prop := ∀ (c : Cc) (K : Cl c none none), Amb K.R K.A → ∀ e s', EPost X K.R [] [] K.s (fun _ _ => E) e s' → wpAny (model X.prog X.w) K.A (leaving K.R.env e) (fun _ s'' => c.err E e s'') (fun e' s'' => c.err E e' s'') s'
theorem call_fn {P : Gp} {d : Nat} {f : Addr} {sc : Scope} {body : List Stmt} {xs : List Str} {is : List Nat} {n : Nat} {dvs : List Value} {dds : List D} {pss : PSs} {args : List V} {ext : Option AObj} {keep : Bool} {l0 : List (Option V)}
    {Q : V → List AObj → Option AObj → Prop} {E : Prop} (F : FnIs X f sc body xs is n dvs dds) (hb : SSs ⟨P, d, sc⟩ body pss) (hn : args.length = n) (hl : setLs (nones sc.names.length) is (args ++ dats dds) = some l0)
    (hE : LeaveOk E) (hx : ext = none ∨ (E → False))
    (hg : gSs P pss { loc := l0, objs := [], ext := ext } (finK keep Q) (fun _ _ => E)) : CallOk (d + 1) f args ext Q E := by
  intro c vs xl hd L rs
  have dep : c.A.depth < recursionLimit := Nat.lt_of_lt_of_le (Nat.lt_of_le_of_lt (Nat.le_add_right _ _) (Nat.lt_add_of_pos_right (by decide))) c.hA.depth
  refine F.call dep c.S.K (rs.length.trans hn) fun qual cdv => ?_
  let K : Cl c xl ext := ⟨L, sc, qual ++ ".<locals>.", f, cdv⟩
  obtain ⟨SE, hF⟩ := c.S.enter F.ok L K.qual f cdv sc.names.length
  have amb := K.amb hd
  have hdc : K.R.d = d := by show c.R.d - 1 = d; rw [hd]; rfl
  have rall : RepsOf X K.R [] [] (heapIn c.s.heap sc) (vs ++ dvs) (args ++ dats dds) := Reps.append (rs.mono (fun _ _ e => e) hF) (by rw [dats_eq]; exact ((F.dv _).mono fun _ _ h => h.elim).reps)
  have key : ∀ s', Sat X K.R [] { loc := l0, objs := [], ext := ext } s'.heap → Go X K.R [] [] [] [] K.s s' → s'.heap.NoLimit ∧ codeAny (model X.prog X.w) c.A (.func body K.R.env) (c.res xl Q E) s' := by
    intro s1 S1 g1
    refine ⟨X.lim.keeps S1.base, codeAny_func ?_⟩
    refine wpAny_mono (hb ⟨K.R, K.A, s1, [], _, amb, S1⟩ ⟨rfl, hdc⟩ rfl _ _ hg) ?_ fun e s' z => ?_
    · rintro fl s2 ⟨dl, st', ρ', S2, g2, r2, q2⟩
      have h := Cl.back (K := K) (p := ⟨s2, ρ', st', S2⟩) (g1.trans g2) r2 q2
      cases fl <;> exact h
    · cases xl with
      | none =>
        cases ext with
        | none => exact hE c K amb e s' (EPost.trans g1 e s' z)
        | some _ => exact L.elim
      | some a => exact hx.elim (fun h => by subst h; exact L.elim) fun hx => z.rec fun _ _ _ _ _ _ q => (hx q).elim
  exact binds_run (R := K.R) (A := c.A.in1) rfl (p := ⟨K.s, [], _, SE⟩) (Q := fun _ s' => s'.heap.NoLimit ∧ codeAny (model X.prog X.w) c.A (.func body K.R.env) (c.res xl Q E) s') F.at_ rall hl key
end Mine
namespace Mine
open PySem PySem.W PyProof.Rows PySem.Calls PySem.Spec
section
variable {c : Lc} {pl : Option Nat} {a : Addr} {o o' : AObj} {xl : Option Addr} {s' : Shared} {v : Value} {x : D} {ex : Option AObj} {ρo : List Addr}
noncomputable def PlA (c : Lc) (pl : Option Nat) (a : Addr) : Prop := match pl with
  | some i => c.ρ[i]? = some a
  | none => c.R.xa = some a
theorem ok_live (e : extOk (some o) = true) : o.live = true := by
  cases o with
  | fz d => exact absurd e nofun
  | _ => rfl
theorem pl_core (p : PlA c pl a) (e : atO c.st pl = some o) (l : o.live = true) : (c.R.xa = some a ∨ a ∈ liveA c.ρ c.st.objs) ∧ ObjRep X.w.params c.R.src c.R.xa c.ρ c.F c.s.heap a o := by
  cases pl with
  | some i =>
    have e' : c.st.objs[i]? = some o := nth_eq c.st.objs i ▸ e
    obtain ⟨b, h1, h2⟩ := c.S.objs i o e'
    cases h1.symm.trans p
    exact ⟨.inr (mem_liveA.mpr ⟨i, h1, o, e', l⟩), h2⟩
  | none =>
    obtain ⟨b, h1, _, h2⟩ := c.S.ext o e
    cases h1.symm.trans p
    exact ⟨.inl h1, h2⟩
theorem relD {r : V} {out : List AObj} {k : D → Prop} (h : datR r out k) : ∃ x, r = .dat x ∧ out = [] ∧ k x := by
  cases out with
  | nil => exact (optK_iff h).imp fun x q => ⟨dat_of q.1, rfl, q.2⟩
  | cons _ _ => exact h.elim
theorem Back.go {os' : List AObj} {ex' : Option AObj} (B : Back X c.R c.ρ c.st.objs c.s s' xl v (.dat x) [] ex ρo) (hc : ∀ a, xl = some a → Core c.R c.ρ c.st.objs a ∧ ∃ o, s'.heap.get? a = some o) (hlive : liveA c.ρ os' = liveA c.ρ c.st.objs) (hlen : os'.length = c.st.objs.length)
    (hobjs : ∀ (i : Nat) (o : AObj), os'[i]? = some o → ∃ b, c.ρ[i]? = some b ∧ ((c.st.objs[i]? = some o ∧ (o.live = true → xl ≠ some b)) ∨ ObjRep X.w.params c.R.src c.R.xa c.ρ (vwOf X c.R c.ρ os' s'.heap) s'.heap b o))
    (hext : ∀ o, ex' = some o → ∃ b, c.R.xa = some b ∧ o.live = true ∧ ((c.st.ext = some o ∧ xl ≠ some b) ∨ ObjRep X.w.params c.R.src c.R.xa c.ρ (vwOf X c.R c.ρ os' s'.heap) s'.heap b o)) :
    Sat X c.R c.ρ { c.st with objs := os', ext := ex' } s'.heap ∧ Go X c.R c.ρ c.ρ c.st.objs os' c.s s' ∧ RepOf X c.R c.ρ os' s'.heap v (.dat x) := by
  have q := c.S.after (on := []) (ρn := []) (List.append_nil _) (List.append_nil _) B.keep B.src hc hlive hlen rfl (fun _ m => nomatch m) List.nodup_nil hobjs (fun i o e => no e) hext
  have hown : ownOf X c.R c.ρ os' = ownOf X c.R c.ρ c.st.objs := by unfold ownOf; rw [hlive]
  exact ⟨q.1, ⟨q.2, fun _ _ e => e, B.same⟩, DRep.mono (fun a o f => ⟨fun m => f.1 (List.mem_append_left _ (hown ▸ m)), f.2⟩) B.rep⟩
theorem obj_there {P : Params} {src xa : Option Addr} {ρ : List Addr} {F : Vw} {h : Heap} (r : ObjRep P src xa ρ F h a o) (l : o.live = true) : ∃ x, h.get? a = some x := by
  cases o with
  | fz d => exact absurd l nofun
  | list vs => exact r.elim fun _ r => r.elim fun _ r => ⟨_, r.1⟩
  | dict vs => exact r.elim fun _ r => r.elim fun _ r => ⟨_, r.1⟩
theorem Back.put (B : Back X c.R c.ρ c.st.objs c.s s' (some a) v (.dat x) [] (some o') ρo) (p : PlA c pl a) (e : atO c.st pl = some o) (l : o.live = true) (k : extOk (some o') = true) :
    Sat X c.R c.ρ (putO c.st pl o') s'.heap ∧ Go X c.R c.ρ c.ρ c.st.objs (putO c.st pl o').objs c.s s' ∧ RepOf X c.R c.ρ (putO c.st pl o').objs s'.heap v (.dat x) := by
  obtain ⟨b, hb, hl, hr⟩ := B.ext o' rfl
  cases hb
  have N := c.S.liveNd
  have hr2 : ∀ {os' : List AObj}, ownOf X c.R c.ρ os' = ownOf X c.R c.ρ c.st.objs → ObjRep X.w.params c.R.src c.R.xa c.ρ (vwOf X c.R c.ρ os' s'.heap) s'.heap a o' := fun q => objRep_data hr k fun b o f => ⟨fun m => f.1 (List.mem_append_left _ (q ▸ m)), f.2⟩
  have hc : ∀ b, some a = some b → Core c.R c.ρ c.st.objs b ∧ ∃ o, s'.heap.get? b = some o := fun b q => by cases q; exact ⟨.inr (pl_core p e l).1, obj_there hr hl⟩
  cases pl with
  | some i =>
    have e' : c.st.objs[i]? = some o := nth_eq c.st.objs i ▸ e
    have m := mem_liveA.mpr ⟨i, p, o, e', l⟩
    have lv : liveA c.ρ (c.st.objs.set i o') = liveA c.ρ c.st.objs := liveA_set l hl e'
    show Sat X c.R c.ρ { c.st with objs := putAt c.st.objs i o' } _ ∧ Go _ _ _ _ _ (putAt c.st.objs i o') _ _ ∧ RepOf _ _ _ (putAt c.st.objs i o') _ _ _
    rw [putAt_eq]
    refine B.go (ex' := c.st.ext) hc lv List.length_set (fun j oj ej => ?_) fun oj ej => (c.S.ext oj ej).imp fun b q => ⟨q.1, q.2.1, .inl ⟨ej, fun z => by cases z; exact N.2.2 a q.1 m⟩⟩
    rw [List.getElem?_set] at ej
    by_cases hij : i = j
    · rw [if_pos hij, if_pos (List.getElem?_eq_some_iff.mp e').1] at ej
      cases ej
      exact ⟨a, hij ▸ p, .inr (hr2 (by unfold ownOf; rw [lv]))⟩
    · rw [if_neg hij] at ej
      exact (c.S.objs j oj ej).imp fun b q => ⟨q.1, .inl ⟨ej, fun hl z => by cases z; exact hij (live_unique N.1 p q.1 e' ej l hl)⟩⟩
  | none =>
    exact B.go (os' := c.st.objs) hc rfl rfl (fun j oj ej => (c.S.objs j oj ej).imp fun b q => ⟨q.1, .inl ⟨ej, fun hl z => by cases z; exact N.2.2 a p (mem_liveA.mpr ⟨j, q.1, oj, ej, hl⟩)⟩⟩) fun oj ej => by cases ej; exact ⟨a, p, hl, .inr (hr2 rfl)⟩
end
end Mine
namespace Mine
open PySem PySem.W PyProof.Rows PySem.Calls PySem.Spec
theorem allB_cons {α : Type} {f : α → Bool} {a : α} {r : List α} (h : allB f (a :: r) = true) : f a = true ∧ allB f r = true := by
  have h' : ifT (f a) (allB f r = true) := by
    show ifT (f a) _
    change (match f a with | true => allB f r | false => false) = true at h
    cases q : f a with
    | true => rw [q] at h; exact h
    | false => rw [q] at h; exact absurd h nofun
  exact ifT_iff h'
section
variable {P : Params} {src xa : Option Addr} {ρ : List Addr} {F : Vw}
theorem dats_reps {vs : List Value} {xs : List D} (r : DReps P src F vs xs) : Reps P src xa ρ F vs (dats xs) := by rw [dats_eq]; exact r.reps
theorem rep_de {v : Value} {d : V} (r : Rep P src xa ρ F v d) (e : isDE d = true) : Rep P src xa [] F v d := by
  cases d with
  | dat _ => exact r
  | ext => exact r
  | _ => exact absurd e nofun
theorem cln_reps {kvs : List (D × V)} : ∀ {es : List DictEntry}, RepK P src xa ρ F es kvs → clnK kvs = true → RepK P src xa [] F es kvs := by
  induction kvs with
  | nil => exact fun r _ => r
  | cons p kvs ih => exact fun r e => r.imp fun x r => r.imp fun t r => ⟨r.1, ⟨r.2.1.1, rep_de r.2.1.2 (allB_cons e).1⟩, r.2.2.1, ih r.2.2.2 (allB_cons e).2⟩
theorem cln_rep {v : Value} {d : V} (r : Rep P src xa ρ F v d) (e : (match isExt d with | true => true | false => (insV d).elim false fun p => clnK p.2) = true) : Rep P src xa [] F v d := by
  cases d with
  | ext => exact r
  | ins c kvs => exact r.imp fun dx r => ⟨r.1, r.2.imp fun es q => ⟨q.1, cln_reps q.2 e⟩⟩
  | _ => exact absurd e nofun
end
section
variable {R : Rn} {p : Pt R}
noncomputable abbrev Pt.vw (p : Pt R) : Vw := vwOf X R p.ρ p.st.objs p.s.heap
theorem argE_ok {v : Value} {d : V} {q : V × St} (r : RepOf X R p.ρ p.st.objs p.s.heap v d) (e : argE p.st d = some q) : ∃ g : Given X R p.ρ p.s p.st q.2, Rep X.w.params R.src R.xa [] g.pt.vw v q.1 := by
  unfold argE at e
  cases k : hasE d with
  | true =>
    rw [k] at e
    obtain ⟨h, rfl⟩ := onlyIf_iff e
    exact ⟨.refl p.S, cln_rep r h⟩
  | false =>
    rw [k] at e
    obtain ⟨x, e1, rfl⟩ := map_inv (show (toD 40 p.st d).map _ = some q from e)
    exact ⟨(toD_ok (s := p.s) 40 p.S r e1).1, (toD_ok (s := p.s) 40 p.S r e1).2⟩
theorem extArgs_ok {ds : List V} : ∀ {p : Pt R} {vs : List Value} {q : List V × St}, RepsOf X R p.ρ p.st.objs p.s.heap vs ds → extArgs p.st ds = some q → ∃ g : Given X R p.ρ p.s p.st q.2, Reps X.w.params R.src R.xa [] g.pt.vw vs q.1 := by
  induction ds with
  | nil => intro p vs q r e; cases e; exact ⟨.refl p.S, r⟩
  | cons d ds ih =>
    rintro p _ _ ⟨v, ws, rfl, r1, r2⟩ e
    obtain ⟨a, e1, e⟩ := bind_inv e
    obtain ⟨b, e2, rfl⟩ := map_inv e
    obtain ⟨g1, d1⟩ := argE_ok r1 e1
    obtain ⟨g2, d2⟩ := ih (p := g1.pt) (g1.reps r2) e2
    exact ⟨g1.trans g2, .cons (d1.mono (fun _ _ e => e) g2.vw) d2⟩
theorem obj_of {v : V} {i : Nat} (e : objOf v = some i) : v = .obj i := by
  cases v with
  | obj _ => exact congrArg _ (Option.some.inj e)
  | _ => exact no e
theorem lendArgs_ok {ds : List V} : ∀ {p : Pt R} {vs : List Value} {q : Nat × List V × St}, RepsOf X R p.ρ p.st.objs p.s.heap vs ds → lendArgs p.st ds = some q →
    ∃ g : Given X R p.ρ p.s p.st q.2.2, ∃ a, p.ρ[q.1]? = some a ∧ Reps X.w.params R.src (some a) [] g.pt.vw vs q.2.1 := by
  induction ds with
  | nil => intro p vs q r e; exact no e
  | cons d ds ih =>
    rintro p _ _ ⟨v, ws, rfl, r1, r2⟩ e
    cases ds with
    | nil =>
      obtain ⟨i, e1, rfl⟩ := map_inv e
      clear e
      obtain rfl := obj_of e1
      cases r2
      exact ⟨.refl p.S, r1.imp fun a q => ⟨q.2, .cons ⟨a, q.1, rfl⟩ .nil⟩⟩
    | cons d2 ds =>
      obtain ⟨a, e1, e⟩ := bind_inv e
      obtain ⟨b, e2, rfl⟩ := map_inv e
      obtain ⟨g1, d1⟩ := toD_ok (s := p.s) 40 p.S r1 e1
      obtain ⟨g2, b, d2⟩ := ih (p := g1.pt) (g1.reps r2) e2
      exact ⟨g1.trans g2, b, d2.1, .cons (d1.mono g2.vw) d2.2⟩
end
section
variable {P : Params} {src xa : Option Addr} {ρ : List Addr} {F : Vw}
theorem dats_repsK {xb : Option Addr} {kvs : List (D × V)} {es : List DictEntry} {ds : List (D × D)} (r : RepK P src xa ρ F es kvs) (q : allDatK kvs = some ds) : RepK P src xb [] F es kvs :=
  allDatK_eq q ▸ (RepK.dats (allDatK_eq q ▸ r)).repK
theorem lendK_ok {kvs : List (D × V)} : ∀ {es : List DictEntry} {q : Nat × List (D × V)}, RepK P src xa ρ F es kvs → lendK kvs = some q → ∃ a, ρ[q.1]? = some a ∧ RepK P src (some a) [] F es q.2 := by
  induction kvs with
  | nil => intro es q r e; exact no e
  | cons p kvs ih =>
    obtain ⟨k, v⟩ := p
    rintro _ q ⟨x, es, rfl, r1, rh, r2⟩ e
    cases v with
    | obj i =>
      obtain ⟨ds, q, rfl⟩ := map_inv e
      exact r1.2.imp fun a q2 => ⟨q2.2, ⟨x, es, rfl, ⟨r1.1, a, q2.1, rfl⟩, rh, dats_repsK r2 q⟩⟩
    | dat d =>
      obtain ⟨y, q, rfl⟩ := map_inv e
      exact (ih r2 q).imp fun a q2 => ⟨q2.1, ⟨x, es, rfl, r1, rh, q2.2⟩⟩
    | _ => exact no e
end
end Mine
namespace Mine
open PySem PySem.W PyProof.Rows PySem.Calls PySem.Spec
noncomputable def GpOk (d : Nat) (P : Gp) : Prop := ∀ f args ext Q E, P.call f args ext Q E → CallOk d f args ext Q E
noncomputable abbrev Lc.cc (c : Lc) : Cc := ⟨c.R, c.A, c.s, c.ρ, c.st, c.hA.c, c.S⟩
section
variable {c : Lc} {P : Gp} {f a : Addr} {vs : List Value} {ds ws : List V} {Q : V → St → Prop} {E : Bool → St → Prop} {pl : Option Nat}
theorem Back.none {s' : Shared} {v : Value} {x : D} {ex : Option AObj} {ρo : List Addr} (B : Back X c.R c.ρ c.st.objs c.s s' none v (.dat x) [] ex ρo) :
    Sat X c.R c.ρ c.st s'.heap ∧ Go X c.R c.ρ c.ρ c.st.objs c.st.objs c.s s' ∧ RepOf X c.R c.ρ c.st.objs s'.heap v (.dat x) :=
  B.go (os' := c.st.objs) (ex' := c.st.ext) (fun _ e => nomatch e) rfl rfl (fun i o e => (c.S.objs i o e).imp fun b q => ⟨q.1, .inl ⟨e, nofun⟩⟩) fun o e => (c.S.ext o e).imp fun b q => ⟨q.1, q.2.1, .inl ⟨e, nofun⟩⟩
theorem call_pure (hP : GpOk c.R.d P) (rs : c.reps vs ds) (h : callPure P f ds c.st Q E) : c.W relV (call (.ref f) vs) Q E := by
  obtain ⟨q, e, h⟩ := optK_iff h
  obtain ⟨gv, dr⟩ := toDs_ok (s := c.s) 40 c.S rs e
  have gv : Given X c.R c.pt.ρ c.pt.s c.pt.st q.2 := gv
  have gp : c.to gv.pt := gv.go
  refine wpAny_mono (wpAny_call (hP _ _ _ _ _ h (c.mv gv.pt).cc vs .none rfl trivial (dats_reps dr))) (fun v s' z => ?_) fun e s' z => ?_
  · obtain ⟨r, out, ex, ρo, q, B⟩ := z
    obtain ⟨x, rfl, rfl, hq⟩ := relD q
    obtain ⟨S', g, r⟩ := Back.none (c := c.mv gv.pt) B
    exact ⟨.dat x, _, _, S', gp.trans g, r, hq⟩
  · refine EPost.trans gp e s' ?_
    obtain ⟨ea, st', ρ', s0, fl, h1, ⟨rfl, rfl, h2⟩, h3, h4, h5, h6⟩ := z
    exact ⟨ea, _, ρ', s0, true, h1, h2, h3, h4, h5, h6⟩
theorem call_ext (hP : GpOk c.R.d P) (p : PlA c pl a) (rs : Reps X.w.params c.R.src (some a) [] c.F vs ws) (h : callExt P f ws pl c.st Q) : c.W relV (call (.ref f) vs) Q E := by
  obtain ⟨o, eo, h⟩ := optK_iff h
  obtain ⟨hx, h⟩ := ifT_iff h
  have l := ok_live hx
  have co := pl_core p eo l
  refine wpAny_mono (wpAny_call (hP _ _ _ _ _ h c.cc vs (some a) rfl ⟨co.1, l, objRep_data co.2 hx fun _ _ e => e⟩ rs)) (fun v s' z => ?_) fun e s' z => z.rec fun _ _ _ _ _ _ q => q.2.2.elim
  obtain ⟨r, out, ex, ρo, q, B⟩ := z
  obtain ⟨x, rfl, rfl, q⟩ := relD q
  obtain ⟨o', rfl, q⟩ := optK_iff q
  obtain ⟨k, q⟩ := ifT_iff q
  obtain ⟨S', g, r⟩ := Back.put B p eo l k
  exact ⟨.dat x, _, _, S', g, r, q⟩
theorem call_pass (hP : GpOk c.R.d P) (rs : c.reps vs ds) (h : callPass P f ds c.st Q) : c.W relV (call (.ref f) vs) Q E := by
  obtain ⟨q, e, h⟩ := optK_iff h
  obtain ⟨gv, dr⟩ := extArgs_ok (p := c.pt) rs e
  obtain ⟨o, eo, _⟩ := optK_iff h
  obtain ⟨a, ha, _⟩ := gv.sat.ext o eo
  exact Lc.fin (p := gv.pt) (call_ext (c := c.mv gv.pt) (a := a) (pl := .none) hP ha (ha ▸ dr) h) gv.go
theorem op_callK (hP : GpOk c.R.d P) (rs : c.reps vs ds) (h : callK P f ds c.st Q E) : c.W relV (call (.ref f) vs) Q E := by
  rcases branch_iff h with ⟨_, h⟩ | ⟨_, h⟩
  · exact call_pass hP rs h
  · rcases branch_iff h with ⟨_, h⟩ | ⟨_, h⟩
    · obtain ⟨q, e, h⟩ := optK_iff h
      obtain ⟨gv, a, ha, rr⟩ := lendArgs_ok (p := c.pt) rs e
      exact Lc.fin (p := gv.pt) (call_ext (c := c.mv gv.pt) (a := a) (pl := some q.1) hP ha rr h) gv.go
    · exact call_pure hP rs h
theorem op_methK {k : Addr} {vo : Value} {o : V} (hP : GpOk c.R.d P) (ro : c.rep vo o) (rs : c.reps vs ds) (h : methK P k f o ds c.st Q E) : c.W relV (call (.ref f) (vo :: vs)) Q E := by
  rcases altK_iff h with ⟨q, e, h⟩ | h
  · obtain ⟨hc, h⟩ := ifT_iff h
    rcases branch_iff h with ⟨_, h⟩ | ⟨_, h⟩
    · exact call_pass hP (.cons ro rs) h
    · obtain ⟨l, e1, h⟩ := optK_iff h
      obtain ⟨x, e2, h5⟩ := optK_iff h
      clear h
      obtain ⟨gv, dr⟩ := toDs_ok (s := c.s) 40 c.S rs e2
      have gv : Given X c.R c.pt.ρ c.pt.s c.pt.st x.2 := gv
      have hk : q.1 = k := Nat.eq_of_beq_eq_true hc
      have go : ∀ {kvs : List (D × V)}, c.rep vo (.ins k kvs) → lendK kvs = some l → ∃ a, c.ρ[l.1]? = some a ∧ Rep X.w.params c.R.src (some a) [] gv.pt.vw vo (.ins k l.2) := fun r e => by
        obtain ⟨dx, f, es, da, r⟩ := r
        exact (lendK_ok r e).imp fun a q => ⟨q.1, dx, f.mono gv.vw, es, da.mono gv.vw, q.2.mono (fun _ _ e => e) gv.vw⟩
      cases o with
      | ins c' kvs =>
        cases e
        obtain ⟨a, ha, r⟩ := go (hk ▸ ro) e1
        exact Lc.fin (p := gv.pt) (call_ext (c := c.mv gv.pt) (a := a) (pl := some l.1) hP ha (.cons r (dats_reps dr)) h5) gv.go
      | _ => exact no e
  · obtain ⟨d, e, h⟩ := optK_iff h
    obtain ⟨q, _, h⟩ := optK_iff h
    exact call_pure hP (.cons ro rs) (ifT_iff h).2
end
section
variable {P : Gp} {d : Nat} {sc : Scope} {x : Str} {np pos : Pos} {es : List Expr} {pes : PEs} {f : Addr}
theorem se_call (hP : GpOk d P) (b : GlbIs X sc x (.ref f)) (hk : keepIn X.K (.ref f) = true) (h : SEs ⟨P, d, sc⟩ es pes) : SE ⟨P, d, sc⟩ (.Call (.Name x np) es [] pos) (.call f pes) := ⟨fun _ _ => rfl, fun c ic Q E hg =>
  call_name (name_glb ic b (callWith_of (P := fun h => X.K.In h) (by rw [h.plain]; rfl) (keeps_K hk) (args_run h.hd (Lc.seq0 (h.run c ic pos _ _ hg) fun vs ds p g r1 q1 => ⟨p.S.K, Lc.fin (op_callK (c := c.mv p) (ic.2.symm ▸ hP) (relL_reps r1) q1) g⟩))))⟩
end
end Mine
namespace Mine
open PySem PySem.W PyProof.Rows PySem.Calls PySem.Spec
structure MethIs (X : Cx) (c : Addr) (x : Str) (f : Addr) : Prop where
  ga : findIn X.K (.ref c) "__getattribute__" = some (some (.builtin "object.__getattribute__"))
  no : findIn X.K (.ref c) "__getattr__" = some none
  find : findIn X.K (.ref c) x = some (some (.ref f))
  ty : typeIn X.K (.ref f) = some (.type "function")
  keep : keepIn X.K (.ref f) = true
theorem getL_none {es : List DictEntry} {x : Str} (h : (getL x es).isSome = true) (f : (es.find? fun e => e.key.isStr x) = none) : getL x es = some none := by
  unfold getL at h ⊢
  rw [f] at h ⊢
  change Option.isSome (ite _ _ _) = true at h
  show ite _ _ _ = _
  split at h
  · exact absurd h nofun
  · rename_i q; rw [if_neg q]
theorem ins_at {c : Lc} {k : Addr} {n : List Nat} {v : Value} {o : V} (r : c.rep v o) (h : insOk k n o c.st = true) :
    ∃ a dx es m, v = .ref a ∧ c.s.heap.get? a = some (instObj k dx) ∧ c.s.heap.get? dx = some (dictOf es m) ∧ getL ⟨n.toArray⟩ es = some none := by
  unfold insOk at h
  cases q : fldsOf c.st o with
  | none => rw [q] at h; exact absurd h nofun
  | some p =>
    rw [q] at h
    have h' : band2 (Nat.beq p.1 k) (band2 (allStrK p.2) (negB (lookK p.2 (.str n)).isSome)) = true := h
    rw [band2_eq, band2_eq, Bool.and_eq_true, Bool.and_eq_true] at h'
    obtain ⟨a, dx, es, m, e, e1, e2, rk⟩ := flds_at r q
    refine ⟨a, dx, es, m, e, Nat.eq_of_beq_eq_true h'.1 ▸ e1, e2, getL_none (rk.look h'.2.1 _) ?_⟩
    have l : lookK p.2 (.str n) = none := by
      have := h'.2.2
      cases q : lookK p.2 (.str n) with
      | none => rfl
      | some _ => rw [q] at this; exact absurd this nofun
    have f := (rk.find h'.2.1 ⟨n.toArray⟩).none l
    rw [isStr_fun] at f
    cases q : es.find? (·.key.isStr ⟨n.toArray⟩) with
    | none => rfl
    | some _ => rw [q] at f; exact absurd f nofun
theorem GpOk.at {c : Lc} {P : Gp} {d : Nat} {sc : Scope} (hP : GpOk d P) (ic : c.In ⟨P, d, sc⟩) : GpOk c.R.d P := by rw [ic.2]; exact hP
section
variable {P : Gp} {d : Nat} {sc : Scope} {x : Str} {n : List Nat} {apos pos : Pos} {o : Expr} {po : PE} {es : List Expr} {pes : PEs} {c f : Addr}
theorem se_methf (hP : GpOk d P) (ex : x.cps.toList = n) (m : MethIs X c x f) (ho : SE ⟨P, d, sc⟩ o po) (h : SEs ⟨P, d, sc⟩ es pes) {pl : Env → Sem Bool}
    (he : ∀ env, eval (.Call (.Attribute o x apos) es [] pos) env = (do
      let ov ← eval o env
      standAt apos.atName
      let (f, first) ← holding [ov] (getMethod ov x (pl env))
      callWith pos f first (backTo pos (starEach es env)) (backToKw pos (keywordEach [] env)))) : SE ⟨P, d, sc⟩ (.Call (.Attribute o x apos) es [] pos) (.methf po n c f pes) := ⟨fun _ _ => rfl, fun c ic Q E hg => by
  refine methodCall_KW (Lc.seq0 (ho.run c ic _ _ hg) fun ov dv p g r1 q1 => ?_) (he _)
  obtain ⟨hi, q0⟩ := ifT_iff q1
  obtain ⟨a, dx, es', mm, rfl, e1, e2, e3⟩ := ins_at (c := c.mv p) r1 hi
  subst ex
  rw [str_eta] at e3
  exact method_fn (od := some (dictOf es' mm)) p.S.K ⟨e1, rfl, rfl, e2⟩ m.ga m.no m.find m.ty (by show (lookIn x (dictOf es' mm)).map (·.isSome) = some false; rw [lookIn_dict]; exact congrArg (Option.map _) e3)
    (callWith_of (P := fun h => X.K.In h) (by rw [h.plain]; rfl) (keeps_K m.keep) (args_run h.hd (Lc.seq (h.run (c.mv p) ic pos _ _ q0) g fun vs ds p2 g2 g2' r2 q2 => ⟨p2.S.K, Lc.fin (op_methK (c := c.mv p2) (hP.at ic) (g2'.rep r1) (relL_reps r2) q2) g2⟩)))⟩
end
end Mine
namespace Mine
open PySem PySem.W PyProof.Rows PySem.Calls PySem.Spec
theorem allB_mem {α : Type} {f : α → Bool} {l : List α} (h : allB f l = true) : ∀ a ∈ l, f a = true := by
  induction l with
  | nil => exact fun _ m => nomatch m
  | cons b r ih => exact fun a m => (List.mem_cons.mp m).elim (fun q => q ▸ (allB_cons h).1) (ih (allB_cons h).2 a)
theorem non_of {v : V} (h : isNon v = true) : v = .dat .none := by
  cases v with
  | dat d => cases d with
    | none => rfl
    | _ => exact absurd h nofun
  | _ => exact absurd h nofun
section
variable {P : Params} {src : Option Addr} {xa xb : Option Addr} {ρ ρ' : List Addr} {F F' : Vw} {n : Nat}
theorem rep_sh (hF : ∀ a o, F a o → F' a o) (hr : ∀ (i : Nat) (a : Addr), ρ[i]? = some a → ρ'[n + i]? = some a) {v : Value} {d : V} (r : Rep P src xa ρ F v d) (e : isDO d = true) : Rep P src xb ρ' F' v (shV n d) := by
  cases d with
  | dat d => exact DRep.mono hF r
  | obj i => exact r.imp fun a q => ⟨q.1, hr i a q.2⟩
  | _ => exact absurd e nofun
theorem RepK.sh (hF : ∀ a o, F a o → F' a o) (hr : ∀ (i : Nat) (a : Addr), ρ[i]? = some a → ρ'[n + i]? = some a) {kvs : List (D × V)} : ∀ {es : List DictEntry}, RepK P src xa ρ F es kvs → allB (fun q => isDO q.2) kvs = true → RepK P src xb ρ' F' es (shK n kvs) := by
  induction kvs with
  | nil => exact fun r _ => r
  | cons p kvs ih => exact fun r e => r.imp fun x r => r.imp fun t r => ⟨r.1, ⟨r.2.1.1.mono hF, rep_sh hF hr r.2.1.2 (allB_cons e).1⟩, r.2.2.1, ih r.2.2.2 (allB_cons e).2⟩
theorem mkIns_rep {v : Value} {c dx : Addr} {es : List DictEntry} {kvs : List (D × V)} (f : InsAt F v c dx) (k : DictAt F (.ref dx) es) (r : RepK P src xa ρ F es kvs) : Rep P src xa ρ F v (mkIns c kvs) := by
  unfold mkIns
  cases q : allDatK kvs with
  | none => exact ⟨dx, f, es, k, r⟩
  | some ds => exact ⟨dx, f, es, k, RepK.dats (allDatK_eq q ▸ r)⟩
end
structure NewIs (X : Cx) (c f : Addr) : Prop where
  makes : makesIn X.K c = true
  init : findIn X.K (.ref c) "__init__" = some (some (.ref f))
  ty : typeIn X.K (.ref f) = some (.type "function")
theorem le_more {a w k b m L : Nat} (h : a + k + b ≤ L) (hw : w + m ≤ b) : a + w + k + m ≤ L := by
  rw [Nat.add_right_comm a w, Nat.add_assoc]
  exact Nat.le_trans (Nat.add_le_add_left hw _) h
theorem tc_weight (x : Args) : (Code.builtin "type.__call__" x).weight ≤ 2 := by
  have h1 : (Code.builtin "type.__call__" x).frames = 0 := by kernel_rfl
  have h2 : (Code.builtin "type.__call__" x).isGuard = false := by kernel_rfl
  have h3 : (Code.builtin "type.__call__" x).isCaller = false := by kernel_rfl
  unfold Code.weight
  rw [h1, h2, h3]
  split <;> decide
theorem tc_units (x : Args) : (Code.builtin "type.__call__" x).cUnits ≤ 20 := by
  have h1 : (Code.builtin "type.__call__" x).frames = 0 := by kernel_rfl
  show 1 + 3 * (Code.builtin "type.__call__" x).frames ≤ 20
  rw [h1]
  decide
theorem tc_envs (x : Args) : (Code.builtin "type.__call__" x).envs = [] := by kernel_rfl
theorem under_ok {R : Rn} {A : Around} (x : Args) (h : Amb R A) : AmbC R (A.under (.builtin "type.__call__" x)) :=
  ⟨h.hn, le_more h.depth (Nat.le_trans (Nat.add_le_add_right (tc_weight x) _) (by decide)), le_more h.units (Nat.le_trans (Nat.add_le_add_right (tc_units x) _) (by decide)), by rw [← h.frames]; unfold Around.under; simp only [tc_envs]; cases A.frames <;> rfl⟩
end Mine
namespace Mine
open PySem PySem.W PyProof.Rows PySem.Calls PySem.Spec
structure Nw where
  c : Lc
  k : Addr
namespace Nw
variable (w : Nw)
noncomputable abbrev a : Addr := w.c.s.heap.objs.size
noncomputable abbrev h1 : Heap := w.c.s.heap.push emptyDict
noncomputable abbrev h2 : Heap := w.h1.push (instObj w.k w.a)
noncomputable abbrev s2 : Shared := { w.c.s with heap := w.h2 }
noncomputable abbrev ρ2 : List Addr := w.c.ρ ++ [w.a]
noncomputable abbrev st2 : St := { w.c.st with objs := w.c.st.objs ++ [.dict []] }
variable {w}
theorem none1 : w.c.s.heap.get? w.a = none := Heap.get?_none_of_le (Nat.le_refl _)
theorem none2 : w.c.s.heap.get? (w.a + 1) = none := Heap.get?_none_of_le (Nat.le_succ _)
theorem none3 : w.h1.get? (w.a + 1) = none := Heap.get?_none_of_le (by rw [Heap.size_push]; exact Nat.le_refl _)
theorem k1 (b : Addr) (o : Obj) (e : w.c.s.heap.get? b = some o) : w.h1.get? b = some o := Heap.get?_push_of_some _ e
theorem k2 (b : Addr) (o : Obj) (e : w.h1.get? b = some o) : w.h2.get? b = some o := Heap.get?_push_of_some _ e
theorem gd1 : w.h1.get? w.a = some emptyDict := by heap_get
theorem gx : w.h2.get? (w.a + 1) = some (instObj w.k w.a) := by heap_get
theorem S1 : Sat X w.c.R w.ρ2 w.st2 w.h1 := w.c.S.newObj k1 none1 w.c.S.size3 (o := .dict []) rfl ⟨_, gd1⟩ ⟨[], 0, gd1, .nil⟩
theorem S2 : Sat X w.c.R w.ρ2 w.st2 w.h2 := S1.grow k2
end Nw
structure NewAt (w : Nw) (s' : Shared) (ρ' : List Addr) (os' : List AObj) (kvs : List (D × V)) (lv : Bool) : Prop where
  S : Sat X w.c.R ρ' { w.c.st with objs := os' } s'.heap
  g : Go X w.c.R w.c.ρ ρ' w.c.st.objs os' w.c.s s'
  i : InsAt (vwOf X w.c.R ρ' os' s'.heap) (.ref (w.a + 1)) w.k w.a
  at_ : ρ'[w.c.st.objs.length]? = some w.a
  r : lv = false → ∃ es, DictAt (vwOf X w.c.R ρ' os' s'.heap) (.ref w.a) es ∧ RepK X.w.params w.c.R.src w.c.R.xa ρ' (vwOf X w.c.R ρ' os' s'.heap) es kvs
noncomputable def newO (live : Bool) (kvs : List (D × V)) : AObj := match live with
  | true => .dict kvs
  | false => .fz (.raw .none)
theorem newO_live {b : Bool} {kvs : List (D × V)} : (newO b kvs).live = b := by cases b <;> rfl
theorem new_back {w : Nw} {s' : Shared} {v : Value} {r : V} {out : List AObj} {kvs : List (D × V)} {ρo : List Addr} {lv : Bool} (B : Back X w.c.R w.ρ2 w.st2.objs w.s2 s' (some w.a) v r out (some (.dict kvs)) ρo)
    (hk : allB (fun q => isDO q.2) kvs = true) (ho : allB (fun o => extOk (some o)) out = true) :
    NewAt w s' (w.c.ρ ++ (w.a :: ρo)) (w.c.st.objs ++ (newO lv (shK (w.c.st.objs.length + 1) kvs) :: out)) (shK (w.c.st.objs.length + 1) kvs) lv := by
  obtain ⟨_, e0, _, es, n, gd, rk⟩ := B.ext _ rfl
  cases e0
  have S := w.c.S
  have sub : ∀ {a}, a ∈ liveA (w.a :: ρo) (newO lv (shK (w.c.st.objs.length + 1) kvs) :: out) → (lv = true ∧ a = w.a) ∨ a ∈ liveA ρo out := fun {a} m => by
    rcases liveA_cons w.a ρo (newO lv (shK (w.c.st.objs.length + 1) kvs)) out with ⟨l, e⟩ | ⟨l, e⟩
    · rw [e] at m; exact (List.mem_cons.mp m).imp (fun q => ⟨newO_live.symm.trans l, q⟩) id
    · rw [e] at m; exact .inr m
  have old : ∀ {a}, a ∈ liveA ρo out → w.h2.get? a = none := fun m => (B.new _ m).1
  have off1 : w.a ∉ liveA ρo out := fun m => no ((old m).symm.trans (Nw.k2 _ _ Nw.gd1))
  have off2 : w.a + 1 ∉ liveA ρo out := fun m => no ((old m).symm.trans Nw.gx)
  have keep : ∀ b o, w.c.R.src ≠ some b → none ≠ some b → w.c.s.heap.get? b = some o → (b ∉ frs w.c.R → s'.heap.get? b = some o) ∧ ∃ sl, s'.heap.get? b = some { o with slots := sl } := fun b o n _ e =>
    B.keep b o n (fun q => by cases q; exact no (Nw.none1.symm.trans e)) (Nw.k2 b o (Nw.k1 b o e))
  have own : ∀ {a}, a ∈ ownOf X w.c.R (w.c.ρ ++ (w.a :: ρo)) (w.c.st.objs ++ (newO lv (shK (w.c.st.objs.length + 1) kvs) :: out)) ++ w.c.R.hid → (a ∈ ownOf X w.c.R w.c.ρ w.c.st.objs ++ w.c.R.hid) ∨ (lv = true ∧ a = w.a) ∨ a ∈ liveA ρo out := fun m =>
    (List.mem_append.mp m).elim (fun m => ((own_app rfl S.len).mp m).imp (fun m => List.mem_append_left _ m) sub) fun m => .inl (List.mem_append_right _ m)
  have hF : ∀ a o, BackF w.c.R w.ρ2 w.st2.objs out ρo s'.heap a o → vwOf X w.c.R (w.c.ρ ++ (w.a :: ρo)) (w.c.st.objs ++ (newO lv (shK (w.c.st.objs.length + 1) kvs) :: out)) s'.heap a o := fun a o f => by
    have new : a ∉ ownOf X w.c.R w.ρ2 w.st2.objs := fun m => f.1 (List.mem_append_left _ (List.mem_append_left _ m))
    refine ⟨fun m => ?_, f.2⟩
    rcases own m with m | m | m
    · rcases List.mem_append.mp m with m | m
      · exact new ((own_new rfl S.len).mpr (.inl m))
      · exact f.1 (List.mem_append_left _ (List.mem_append_right _ m))
    · exact new ((own_new rfl S.len).mpr (.inr m.2))
    · exact f.1 (List.mem_append_right _ m)
  have hr : ∀ (i : Nat) (a : Addr), ρo[i]? = some a → (w.c.ρ ++ (w.a :: ρo))[w.c.st.objs.length + 1 + i]? = some a := fun i a e => by
    rw [S.len, Nat.add_assoc, List.getElem?_append_right (Nat.le_add_right _ _), Nat.add_sub_cancel_left, Nat.add_comm]
    exact e
  have rk2 := rk.sh (n := w.c.st.objs.length + 1) (xb := w.c.R.xa) hF hr hk
  have q := S.after (xl := none) (os1 := w.c.st.objs) (on := newO lv (shK (w.c.st.objs.length + 1) kvs) :: out) (ρn := w.a :: ρo) (ex' := w.c.st.ext) rfl rfl keep B.src (fun _ e => nomatch e) rfl rfl (congrArg (· + 1) B.len) (fun a m => ?_) ?_
    (fun i o e => (S.objs i o e).imp fun b q => ⟨q.1, .inl ⟨e, nofun⟩⟩) (fun i o e => ?_) fun o e => (S.ext o e).imp fun b q => ⟨q.1, q.2.1, .inl ⟨e, nofun⟩⟩
  · have vis : ∀ {a o}, w.c.s.heap.get? a = none → a ∉ liveA ρo out → (lv = true → a ≠ w.a) → s'.heap.get? a = some o → vwOf X w.c.R (w.c.ρ ++ (w.a :: ρo)) (w.c.st.objs ++ (newO lv (shK (w.c.st.objs.length + 1) kvs) :: out)) s'.heap a o :=
      fun n1 n2 n3 e => ⟨fun m => (own m).elim (S.noneOff n1) fun m => m.elim (fun m => n3 m.1 m.2) n2, e⟩
    have ne : w.a + 1 ≠ w.a := Nat.succ_ne_self _
    refine ⟨q.1, ⟨q.2, fun i b e => by rw [List.getElem?_append_left (List.getElem?_eq_some_iff.mp e).1]; exact e, B.same⟩, ⟨_, rfl, vis Nw.none2 off2 (fun _ => ne) ((B.keep _ _ (fun q => ?_) (fun q => ne (Option.some.inj q).symm) Nw.gx).1 fun m => (S.frThere m).elim fun _ q => no (Nw.none2.symm.trans q.1))⟩, ?_, fun l => ⟨es, ⟨_, n, rfl, S.size3, vis Nw.none1 off1 (fun q => nomatch l.symm.trans q) gd⟩, rk2⟩⟩
    · exact (S.src _ q).rec fun _ _ _ _ hl _ _ _ => hl.elim fun _ q => no (Nw.none2.symm.trans q.1)
    · rw [S.len, List.getElem?_append_right (Nat.le_refl _), Nat.sub_self]; rfl
  · rcases sub m with m | m
    · rw [m.2]; exact ⟨Nw.none1, S.size3, _, gd⟩
    · refine ⟨?_, (B.new a m).2⟩
      cases q : w.c.s.heap.get? a with
      | none => rfl
      | some o => exact no ((old m).symm.trans (Nw.k2 _ _ (Nw.k1 _ _ q)))
  · rcases liveA_cons w.a ρo (newO lv (shK (w.c.st.objs.length + 1) kvs)) out with ⟨l, e⟩ | ⟨l, e⟩
    · rw [e]; exact List.nodup_cons.mpr ⟨off1, B.nd⟩
    · rw [e]; exact B.nd
  · cases i with
    | zero =>
      cases e
      refine ⟨_, rfl, ?_⟩
      cases lv with
      | true => exact ⟨es, n, gd, rk2⟩
      | false => exact trivial
    | succ i => exact (B.objs i o e).imp fun b q => ⟨q.1, objRep_data q.2 (allB_mem ho o (List.mem_of_getElem? e)) hF⟩
end Mine
namespace Mine
open PySem PySem.W PyProof.Rows PySem.Calls PySem.Spec
section
variable {c : Lc} {P : Gp} {k f : Addr} {live : Bool} {vs : List Value} {ds : List V} {Q : V → St → Prop} {E : Bool → St → Prop}
theorem op_newK (hP : GpOk c.R.d P) (N : NewIs X k f) (rs : c.reps vs ds) (h : newK P k f live ds c.st Q) : c.W relV (call (.ref k) vs) Q E := by
  obtain ⟨q, e, h⟩ := optK_iff h
  obtain ⟨gv, dr⟩ := toDs_ok (s := c.s) 40 c.S rs e
  have gv : Given X c.R c.pt.ρ c.pt.s c.pt.st q.2 := gv
  let w : Nw := ⟨c.mv gv.pt, k⟩
  have gp : c.to gv.pt := gv.go
  have hl : liveA w.ρ2 w.st2.objs = liveA w.c.ρ w.c.st.objs ++ [w.a] := (liveA_append w.c.S.len).trans (congrArg _ (liveA_one rfl))
  have hF : ∀ b x, w.c.F b x → vwOf X c.R w.ρ2 w.st2.objs w.h1 b x := fun b x z => ⟨fun m => z.1 ((List.mem_append.mp m).elim (fun m => ((own_new rfl w.c.S.len).mp m).elim (fun m => List.mem_append_left _ m) fun q => no ((q ▸ Nw.none1).symm.trans z.2)) fun m => List.mem_append_right _ m), Nw.k1 b x z.2⟩
  refine wpAny_call (make_core (makes_of gv.sat.K N.makes) (looks_findIn gv.sat.K N.init) (fun self => bind_fn gv.sat.K self N.ty) (.inl rfl) (codeAny_mono (hP _ _ _ _ _ h ⟨c.R, _, w.s2, w.ρ2, w.st2, under_ok _ c.hA, Nw.S2 (w := w)⟩ (.ref (w.a + 1) :: vs) (some w.a) rfl ?_ ?_) fun r s' z => ?_))
  · exact ⟨.inr (hl ▸ List.mem_append_right _ (.head _)), rfl, [], 0, Nw.k2 _ _ Nw.gd1, .nil⟩
  · exact .cons ⟨w.a, ⟨_, rfl, (Nw.S1 (w := w)).noneOff Nw.none3, Nw.gx (w := w)⟩, rfl⟩ (dats_reps (dr.mono fun b x z => ⟨(hF b x z).1, Nw.k2 _ _ (hF b x z).2⟩))
  · cases r with
    | error e => exact z.rec fun _ _ _ _ _ _ q => q.2.2.elim
    | ok fl =>
      cases fl with
      | ret v =>
        obtain ⟨r', out, ex, ρo, q1, B⟩ := z
        obtain ⟨i1, q2⟩ := ifT_iff q1
        obtain ⟨o, rfl, q3⟩ := optK_iff q2
        obtain ⟨kvs, e1, q4⟩ := optK_iff q3
        obtain ⟨hk, q5⟩ := ifT_iff q4
        obtain ⟨ho, q6⟩ := ifT_iff q5
        obtain rfl := kvs_x e1
        cases non_of i1
        refine ⟨B.rep, ?_⟩
        have N := new_back (w := w) (lv := live) B hk ho
        cases live with
        | true => exact ⟨.lvi k w.c.st.objs.length, _, _, N.S, gp.trans N.g, ⟨_, N.i, N.at_⟩, q6⟩
        | false => exact ⟨mkIns k _, _, _, N.S, gp.trans N.g, (N.r rfl).elim fun es q => mkIns_rep N.i q.1 q.2, q6⟩
      | _ => exact z.elim
end
section
variable {P : Gp} {d : Nat} {sc : Scope} {x : Str} {np pos : Pos} {es : List Expr} {pes : PEs} {c f : Addr} {live : Bool}
theorem se_new (hP : GpOk d P) (b : GlbIs X sc x (.ref c)) (N : NewIs X c f) (hk : keepIn X.K (.ref c) = true) (h : SEs ⟨P, d, sc⟩ es pes) : SE ⟨P, d, sc⟩ (.Call (.Name x np) es [] pos) (.new c f live pes) := ⟨fun _ _ => rfl, fun c ic Q E hg =>
  call_name (name_glb ic b (callWith_of (P := fun h => X.K.In h) (by rw [h.plain]; rfl) (keeps_K hk) (args_run h.hd (Lc.seq0 (h.run c ic pos _ _ hg) fun vs ds p g r1 q1 => ⟨p.S.K, Lc.fin (op_newK (c := c.mv p) (hP.at ic) N (relL_reps r1) q1) g⟩))))⟩
end
end Mine
namespace Mine
open PySem PySem.W PyProof.Rows PySem.Calls PySem.Spec
section
variable {R : Rn} {ρ : List Addr} {st : St} {h h' : Heap} {ea : Addr}
theorem Sat.passed (S : Sat X R ρ st h) {ℓ : List Addr} (k : ∀ b o, b ∉ ℓ → h.get? b = some o → h'.get? b = some o) (sm : h.UpToSlots h')
    (c : ∀ b ∈ ℓ, X.h₀.get? b = none ∧ ∀ o, h.get? b = some o → (o.cls = .type "frame" ∧ ∃ es n, o.data = .dict es n) ∨ (b = ea ∧ ∃ vs, o.data = .fields vs)) (te : ∃ o, h'.get? ea = some o) : Sat X R ρ st h' := by
  have kn : ∀ {b o}, NF o → h.get? b = some o → h'.get? b = some o := fun {b o} n e => k b o (fun m => n (((c b m).2 o e).imp id And.right)) e
  have hF : ∀ a o, NF o → vwOf X R ρ st.objs h a o → vwOf X R ρ st.objs h' a o := fun a o nf f => ⟨f.1, kn nf f.2⟩
  have ob : ∀ {a : Addr} {o : AObj}, ObjRep X.w.params R.src R.xa ρ (vwOf X R ρ st.objs h) h a o → ObjRep X.w.params R.src R.xa ρ (vwOf X R ρ st.objs h') h' a o := fun x => x.monoN (fun _ _ q => q) hF fun _ x => kn
  have cellNF : ∀ {o : Obj} {v : Option Value}, o.data = .cell v → NF o := fun q h => h.elim (fun h => h.2.elim fun _ z => z.elim fun _ z => nomatch q.symm.trans z) fun h => h.elim fun _ z => nomatch q.symm.trans z
  have cell : ∀ p ∈ R.env.cells, ∃ v o, (h.get? p.2 = some o ∧ h'.get? p.2 = some o) ∧ o.data = .cell v := fun p hp => (S.cellsAre p hp).imp fun v q => q.imp fun o q => ⟨⟨q.1, kn (cellNF q.2) q.1⟩, q.2⟩
  refine ⟨S.env, S.nodup, S.dis, S.hi, fun a m => ?_, fun b o e => k b o (fun m => no ((c b m).1.symm.trans e)) (S.base b o e), S.baseOff, fun a ha => ?_, S.len, fun i o e => (S.objs i o e).imp fun a q => ⟨q.1, ob q.2⟩, fun o e => (S.ext o e).imp fun a q => ⟨q.1, q.2.1, ob q.2.2⟩,
    S.loc.imp fun m q => ⟨sm.ns q.1, fun i d e => (q.2 i d e).mono (fun p hp o e => ?_) fun v r => r.monoN (fun _ _ q => q) hF⟩, fun p hp => (cell p hp).imp fun v q => q.imp fun o q => ⟨q.1.2, q.2⟩, fun e he => ?_⟩
  · obtain ⟨o, e⟩ := S.there a m
    by_cases q : a = ea
    · exact q ▸ te
    · by_cases hm : a ∈ ℓ
      · rcases (c a hm).2 o e with ⟨_, es, n, z⟩ | z
        · exact (sm a o e fun vs y => nomatch z.symm.trans y).elim fun sl q => ⟨_, q⟩
        · exact absurd z.1 q
      · exact ⟨o, k a o hm e⟩
  · exact (S.src a ha).rec fun x tx y ty hl h1 h2 h3 => ⟨x, tx, y, ty, hl.imp fun o q => ⟨kn (q.2.2.elim fun _ z => nf_seq z) q.1, q.2⟩, h1, h2, h3⟩
  · obtain ⟨h1, L, o, h2, h3, h4, h5, es, n, h6⟩ := S.ff e he
    exact (sm L o h4 fun vs z => nomatch h6.symm.trans z).elim fun sl q => ⟨h1, L, _, h2, h3, q, h5, es, n, h6⟩
  · obtain ⟨v, o', q, _⟩ := cell p hp
    cases q.1.symm.trans e
    exact q.2
end
end Mine
namespace Mine
open PySem PySem.W PyProof.Rows PySem.Calls PySem.Spec
theorem funFrames_of {base h : Heap} {l : List Env} : (∀ e ∈ l, e.scope.kind ≠ .module ∧ ∃ L o, e.frame = some L ∧ base.get? L = none ∧ h.get? L = some o ∧ ∀ vs, o.data ≠ .fields vs) → h.FunFrames base l := by
  induction l with
  | nil => exact fun _ => trivial
  | cons e r ih => exact fun k => ⟨(k e (.head _)).1, (k e (.head _)).2, ih fun e' he => k e' (.tail _ he)⟩
section
variable {c : Cc} {K : Cl c none none} {p : Pt K.R}
theorem Cl.sat (g : K.go p) : Sat X c.R c.ρ c.st p.s.heap ∧ Go X c.R c.ρ c.ρ c.st.objs c.st.objs c.s p.s := by
  have q := c.S.after (on := []) (ρn := []) (os1 := c.st.objs) (xl := none) (ex' := c.st.ext) (List.append_nil _) (List.append_nil _) (fun b o n1 n2 e => Cl.keep g b o n1 n2 e) p.S.src (fun _ e => nomatch e) rfl rfl rfl (fun _ m => nomatch m) List.nodup_nil
    (fun i o e => (c.S.objs i o e).imp fun b q => ⟨q.1, .inl ⟨e, nofun⟩⟩) (fun i o e => no e) fun o e => (c.S.ext o e).imp fun b q => ⟨q.1, q.2.1, .inl ⟨e, nofun⟩⟩
  exact ⟨q.1, q.2, fun _ _ e => e, g.same⟩
theorem Cl.bad {b : Addr} (h : Bad X K.R [] [] K.s b) : Bad X c.R c.ρ c.st.objs c.s b := by
  rcases h with h | h | h
  · obtain ⟨e', he, z⟩ := mem_frs.mp h
    rcases List.mem_cons.mp he with rfl | he
    · cases z; exact .inr (.inr (fresh_at c.s.heap))
    · exact .inl (mem_frs.mpr ⟨e', he, z⟩)
  · rcases own_core.mp h with m | m | m | m
    · cases q : c.s.heap.get? b with
      | none => exact .inr (.inr q)
      | some o => exact (new_off _ _ q m).elim
    · exact .inr (.inl (own_core.mpr (.inr (.inl m))))
    · exact nomatch m
    · exact nomatch m
  · cases q : c.s.heap.get? b with
    | none => exact .inr (.inr q)
    | some o => exact no (h.symm.trans (heapIn_keeps _ _ b o q))
end
theorem leave_ok {E : Prop} : LeaveOk E := by
  intro c K amb e s' z
  obtain ⟨ea, st', ρ', s0, fl, rfl, hE, S', g, sm, hcase⟩ := z
  obtain ⟨SR, GR⟩ := Cl.sat (K := K) (p := ⟨s0, ρ', st', S'⟩) g
  have fin : ∀ {s'' : Shared} {ℓ : List Addr} {a0 : Value}, Heap.FlyingW (hideAll s0.heap ℓ) c.R.fs ea (.ref X.tf) a0 s''.heap → s0.heap.UpToSlots s''.heap →
      (∀ b ∈ ℓ, Bad X K.R [] [] K.s b ∧ X.h₀.get? b = none ∧ ∀ o, s0.heap.get? b = some o → (o.cls = .type "frame" ∧ ∃ es n, o.data = .dict es n) ∨ (b = ea ∧ ∃ vs, o.data = .fields vs)) → Same s0 s'' → c.err E (.ref ea) s'' :=
    fun fw us k sm => ⟨ea, c.st, c.ρ, s0, true, rfl, ⟨rfl, rfl, hE⟩, SR, GR, sm, .inr ⟨rfl, _, _, fw, us, fun b m => ⟨Cl.bad (k b m).1, (k b m).2⟩⟩⟩
  rcases hcase with ⟨rfl, rfl, ⟨t, dd, ⟨n, he⟩, hn⟩, hb⟩ | ⟨rfl, ℓ, a0, fw, us, k⟩
  · have hen : (hideAll s'.heap (ea :: frs K.R)).get? ea = none := hideAll_none _ (.head _)
    refine wpAny_leaving_firstW (base := hideAll s'.heap (ea :: frs K.R)) (a0 := .ref t) amb.frames (funFrames_of fun e he => ?_) rfl he (fun b o q => of_hideAll _ q) hen rfl rfl rfl fun h' hL => ?_
    · obtain ⟨q1, L, o, q2, q3, q4, q5, es, m, q6⟩ := S'.ff e he
      exact ⟨q1, L, o, q2, hideAll_none _ (.tail _ (mem_frs.mpr ⟨e, he, q2⟩)), q4, fun vs z => nomatch q6.symm.trans z⟩
    · obtain ⟨k1, ⟨_, _, k2⟩, k3, k4⟩ := hL
      refine fin ⟨k1, hen, k2, k3⟩ k4 (fun b m => ?_) ⟨rfl, rfl, rfl⟩
      rcases List.mem_cons.mp m with rfl | m
      · exact ⟨hb, hn, fun o e => by cases he.symm.trans e; exact .inr ⟨rfl, _, rfl⟩⟩
      · obtain ⟨o, q2, q3⟩ := S'.frThere m
        exact ⟨.inl m, S'.frBase m, fun o' e => by cases q2.symm.trans e; exact .inl q3⟩
  · exact wpAny_leaves_onW amb.frames rfl fw fun h' fw' us' => fin fw' (us.trans us') k sm
end Mine
namespace Mine
open PySem PySem.W PyProof.Rows PySem.Calls PySem.Spec
structure TfIs (X : Cx) : Prop where
  cls : ∃ oc od cd sl, X.K.lookup X.tf = some ⟨oc, od, .cls cd, sl⟩
  nt : instIn X.K (.ref X.tf) (.type "tuple") = some false
  exc : mroIn X.K X.tf (.type "BaseException") = some true
  self : mroIn X.K X.tf (.ref X.tf) = some true
theorem looks_excMatches {M : Model} {h : Heap} (T : TfIs X) (K : X.K.In h) {e : Addr} {oe : Obj} (he : h.get? e = some oe) (hc : oe.cls = .ref X.tf) : Looks M h (excMatches (.ref e) (.ref X.tf)) true := by
  obtain ⟨oc, od, cd, sl, hl⟩ := T.cls
  have t1 : Looks M h (isExcClass (.ref X.tf)) true := ((Looks.ld (part := none) (K _ _ hl)).andThen .now).andThen (looks_mroIn K T.exc)
  have t2 : Looks M h (typeOf (.ref e)) (.ref X.tf) := by rw [← hc]; exact (Looks.ld he).andThen .now
  unfold excMatches
  refine (looks_instIn K T.nt).andThen (Looks.now.andThen (Looks.andThen (a := PUnit.unit) ?_ (t2.andThen ?_)))
  · intro A Q E s k q
    rw [List.forIn_cons]
    exact wpAny_bind (wpAny_bind (t1 A _ E s k (wpAny_pure (wpAny_pure q))))
  · intro A Q E s k q
    refine wpAny_bind ?_
    rw [List.forIn_cons]
    exact wpAny_bind (wpAny_bind (looks_mroIn K T.self A _ E s k (wpAny_pure (wpAny_pure (wpAny_pure q)))))
theorem handleBy_K {A : Around} {E : Value → Shared → Prop} {s : Shared} {env : Env} {e : Addr} {t : Expr} {b₀ : Stmt} {suite : List Stmt} {pos : Pos} {rest : List ExceptHandler} {Q : Flow → Shared → Prop} (T : TfIs X)
    (h : wpAny (model X.prog X.w) (A.mark (some (.ref e))) (eval t env) (fun c s₁ => c = .ref X.tf ∧ X.K.In s₁.heap ∧ (∃ oe, s₁.heap.get? e = some oe ∧ oe.cls = .ref X.tf) ∧
      wpAny (model X.prog X.w) (A.mark (some (.ref e))) (setFlight (.ref e) none) (fun _ s₂ => wpAny (model X.prog X.w) (A.mark (some (.ref e))) (execs (b₀ :: suite) env) Q NoE s₂) NoE s₁) NoE s) :
    wpAny (model X.prog X.w) A (handleBy (.ref e) env (.ExceptHandler (some t) none (b₀ :: suite) pos :: rest)) Q E s := by
  refine wpAny_handleBy_cons (codeAny_handlers_test (wpAny_mono h (fun c s₁ h₁ => ?_) fun _ _ y => y.elim)) (fun q => nomatch q)
  obtain ⟨rfl, K, ⟨oe, he, hcls⟩, hk⟩ := h₁
  exact (looks_excMatches T K he hcls).here (codeAny_handlers_suite (wpAny_mono hk (fun _ s₂ h₂ => wpAny_mono h₂ (fun _ _ y => y) fun _ _ y => y.elim) fun _ _ y => y.elim))
noncomputable def SH (sc : Scope) (e : Expr) (ph : PE) : Prop :=
  ∀ {R : Rn} (p : Pt R) (A : Around) Q, R.env.scope = sc → gH ph p.st Q → wpAny (model X.prog X.w) A (eval e R.env) (fun v s' => ∃ dv tk, s' = (p.tk tk).s ∧ RepOf X R p.ρ p.st.objs p.s.heap v dv ∧ Q dv) NoE p.s
section
variable {G : Gx} {pos np : Pos}
theorem sh_str {sc : Scope} {x : Str} {k : Nat} : SH sc (.Constant (.str x) k pos) (.cst (.str x.cps.toList)) := fun p A Q hs h => wpAny_Constant_str ⟨.dat (.str _), _, rfl, ⟨x, _, rfl, rfl⟩, h⟩
theorem len_run {R : Rn} {p : Pt R} {A : Around} {Ev : Value → Shared → Prop} {sc : Scope} {i : Nat} {x y : Str} {kd : NameKind} {xp : Pos} {v : V} {xs : List V} {Q : Value → Shared → Prop} (hs : R.env.scope = sc) (b : BltIs X sc y (.builtin "len")) (e : sc.names[i]? = some (x, kd)) (ev : nth p.st.loc i = some (some v)) (ex : itemsOf p.st v = some xs) (hz : len' xs ≤ 100000)
    (h : ∀ tk tk', Q (.int (len' xs : Nat) tk) (p.tk tk').s) : wpAny (model X.prog X.w) A (eval (.Call (.Name y np) [.Name x xp] [] pos) R.env) Q Ev p.s := by
  refine call_name (nm_blt hs b (callWith_builtin rfl (args_run (.inr ⟨_, [], rfl, fun _ => rfl⟩) (wpAny_items_cons (loc_run hs e ev fun w r => wpAny_items_nil ?_) rfl))))
  obtain ⟨a, items, rfl, rr, hh⟩ := items_at p.S r ex
  have hl : len' xs = items.toArray.size := by rw [len'_eq, ← rr.length, List.size_toArray]
  rw [hl] at h hz
  rcases hh with ⟨_, hh⟩ | ⟨_, hh, _⟩
  · exact PyProof.Rows.len_list hh (fit63 hz) (h _ _)
  · exact PyProof.Rows.len_tuple hh (fit63 hz) (h _ _)
theorem sh_lens {sc : Scope} {i j : Nat} {x y z z' : Str} {k1 k2 : NameKind} {n1 n2 x1 y1 p1 p2 : Pos} (b : BltIs X sc z (.builtin "len")) (b' : BltIs X sc z' (.builtin "len")) (e1 : sc.names[i]? = some (x, k1)) (e2 : sc.names[j]? = some (y, k2)) :
    SH sc (.Compare (.Call (.Name z n1) [.Name x x1] [] p1) [.NotEq] [.Call (.Name z' n2) [.Name y y1] [] p2] pos) (.cmp .NotEq (.bi .len (.cons (.loc i) .nil)) (.bi .len (.cons (.loc j) .nil))) := fun p A Q hs h => by
  obtain ⟨o1, a1, h1⟩ := optK_iff h
  obtain ⟨v1, rfl, h2⟩ := optK_iff h1
  obtain ⟨o2, a2, h3⟩ := optK_iff h2
  obtain ⟨v2, rfl, h4⟩ := optK_iff h3
  obtain ⟨xs, ex, h5⟩ := optK_iff h4
  obtain ⟨ys, ey, h6⟩ := optK_iff h5
  obtain ⟨hx, h7⟩ := small_iff h6
  obtain ⟨hy, hq⟩ := small_iff h7
  refine wpAny_Compare1 (len_run hs b e1 a1 ex hx fun tk tk' => len_run (p := p.tk tk') hs b' e2 a2 ey hy fun tk2 tk3 => PyProof.Rows.ne_int ⟨.dat (.bool _), tk3, rfl, rfl, ?_⟩) rfl
  rw [negB_eq, ibeq_eq] at hq
  exact hq
theorem land {c : Lc} {p : Pt c.R} {ea : Addr} {ℓ : List Addr} {l : List Env} {a0 : Value} {s' : Shared} (g : c.to p) (k : ∀ b ∈ ℓ, Bad X c.R c.ρ c.st.objs c.s b ∧ X.h₀.get? b = none ∧ ∀ o, p.s.heap.get? b = some o → (o.cls = .type "frame" ∧ ∃ es n, o.data = .dict es n) ∨ (b = ea ∧ ∃ vs, o.data = .fields vs))
    (fw : Heap.FlyingW (hideAll p.s.heap ℓ) l ea (.ref X.tf) a0 s'.heap) (us : p.s.heap.UpToSlots s'.heap) (sm : Same p.s s') : ∃ q : Pt c.R, q.s = s' ∧ q.ρ = p.ρ ∧ q.st = p.st ∧ c.to q := by
  have kk : ∀ b o, b ∉ ℓ → p.s.heap.get? b = some o → s'.heap.get? b = some o := fun b o n e => fw.1 b o (hideAll_get _ e n)
  obtain ⟨ob, hob, _⟩ := fw.there
  refine ⟨⟨s', p.ρ, p.st, p.S.passed (ea := ea) kk us (fun b m => (k b m).2) ⟨ob, hob⟩⟩, rfl, rfl, rfl, ⟨fun b o n e => ?_, g.stp.fresh⟩, g.pre, g.same.trans sm⟩
  obtain ⟨n', k1, sl, k2⟩ := g.stp.keep b o n e
  by_cases m : b ∈ ℓ
  · rcases (k b m).1 with q | q | q
    · obtain ⟨o', q2, _, es, nn, q4⟩ := p.S.frThere q
      cases k2.symm.trans q2
      exact ⟨n', fun hf => absurd q hf, (us b _ k2 fun vs z => nomatch q4.symm.trans z).imp fun _ q => q⟩
    · exact absurd q n
    · exact no (q.symm.trans e)
  · exact ⟨n', fun hf => kk b o m (k1 hf), sl, kk b _ m k2⟩
theorem ss_try {body : List Stmt} {pb : PSs} {x : Str} {hp rp : Pos} {he : Expr} {ph : PE} (T : TfIs X) (b : GlbIs X G.sc x (.ref X.tf)) (hb : SSs G body pb) (hh : SH G.sc he ph) :
    SS G (.Try body [.ExceptHandler (some (.Name x np)) none [.Return (some he) rp] hp] [] [] pos) (.tryS pb ph) := fun c ic htop Q E h => by
  refine wpAny_Try_except (wpAny_mono (hb c ic htop _ _ h) (fun fl s1 z => ?_) fun e s1 z => ?_)
  · obtain ⟨dl, st1, ρ1, S1, g1, r1, q1⟩ := z
    have g : c.to ⟨s1, ρ1, st1, S1⟩ := g1
    exact flow_by (M := fun fl dl => Q dl st1 → match fl with | .next => c.go E (execs [] c.R.env) (c.postR relF Q) s1 | f => c.postR relF Q f s1) r1
      (fun q => wpAny_execs_nil (Lc.done (rel := relF) (d := .next) g trivial q)) (fun q => Lc.done (rel := relF) (d := .brk) g trivial q) (fun q => Lc.done (rel := relF) (d := .cont) g trivial q) (fun v d r q => Lc.done (rel := relF) (d := .ret d) g r q) q1
  · obtain ⟨ea, st1, ρ1, s0, fl, rfl, hfg, S1, g1, sm, hc⟩ := z
    obtain ⟨rfl, hg⟩ := ifT_iff hfg
    have g : c.to ⟨s0, ρ1, st1, S1⟩ := g1
    rcases hc with ⟨q, _⟩ | ⟨_, ℓ, a0, fw, us, k⟩
    · exact nomatch q
    obtain ⟨outer, hfs, hfr⟩ := S1.env.hd htop
    rw [hfs] at fw
    refine wpAny_looks_onW (by rw [c.hA.frames, hfs]) hfr fw fun h4 held4 us4 => wpAny_landsW held4 fun h5 fw5 us5 => ?_
    have us50 := (us.trans us4).trans us5
    obtain ⟨p5, e5, _, _, _⟩ := land (s' := { s1 with heap := h5 }) g k fw5 us50 sm
    refine handleBy_K T ?_
    rw [← e5]
    refine nm_glb ic.1 b ⟨rfl, p5.S.K, by rw [e5]; exact fw5.there, ?_⟩
    rw [e5]
    refine lands_againW (s := { s1 with heap := h5 }) fw5 fun h6 fw6 us6 => ?_
    obtain ⟨p6, e6, e7, e8, g6⟩ := land (s' := { s1 with heap := h6 }) g k fw6 (us50.trans us6) sm
    refine wpAny_execs_cons (wpAny_Return_some ?_)
    show wpAny _ _ _ _ _ { s1 with heap := h6 }
    rw [← e6]
    refine wpAny_mono (hh p6 _ _ ic.1 (by rw [e8]; exact hg)) (fun v s7 z => ?_) fun _ _ y => y
    obtain ⟨dv, tk, rfl, rv, hq⟩ := z
    exact Lc.done (p := p6.tk tk) (rel := relF) (d := .ret dv) (Lc.tk g6 tk) rv (by rw [e8]; exact hq)
end
end Mine
namespace Mine
open PySem PySem.W PyProof.Rows PySem.Calls PySem.Spec Builtin Builtin.ObjectAttr
abbrev tupObj (vs : List Value) : Obj := { cls := .type "tuple", data := .seq vs.toArray }
abbrev excD (C : Addr) (dd : Option Addr) (t : Addr) : Obj := { cls := .ref C, dict := dd, data := .fields #[.ref t, .none, .none, .none, .bool false, .none] }
abbrev tfBm : List Value := [.ref 39, .type "Exception", .type "BaseException", .type "object"]
theorem look {α : Type} {M : Model} {h : Heap} {t : Sem α} {r : α} (KI : X.K.In h) (e : ∀ P S, peek (KK P) S t = some r) : Looks M h t r := Looks.of_peek (X.eK ▸ KI) (e _ _)
theorem tf_there {h : Heap} (KI : X.K.In h) : h.get? 52 = some (excClassObj (Str.ofString "TraitFault") (Str.ofString "TraitFault") 52 51 [.ref 39] tfBm true [] [] false none none (some (.ref 43)) none (some (vs "TraitFault" 228)) (some (vs "TraitFault" 236)) (some (.bool true)) "Exception.__new__") := KI _ _ (by rw [X.eK]; kernel_rfl)
theorem tf_init_is {M : Model} {h : Heap} (KI : X.K.In h) : Looks M h (typeLookup (.ref 52) "__init__") (some (.ref 36)) := look KI fun _ _ => by kernel_rfl
section
variable {M : Model} {A : Around} {E : Value → Shared → Prop} {h : Heap} {g : Array GenState} {d : Drawn} {t : Nat} {os : OsState} {R : Result → Shared → Prop} {e t0 : Addr} {v : Value}
theorem tf_new {prog : Program} {w : World} (KI : X.K.In h) (hq : R (.ok (.ret (.ref (h.objs.size + 1)))) ⟨(h.push (tupObj [v])).push (excD 52 none h.objs.size), g, d, t, os⟩) :
    codeAny (model prog w) A (.builtin "Exception.__new__" ⟨[.ref 52, v], []⟩) R ⟨h, g, d, t, os⟩ := by
  have F := PySem.F.excBase_Exception
  have hends := F.ends
  have hC := tf_there KI
  have hcB : (Value.ref 52 :: tfBm).contains (.type "Exception") = true := by kernel_rfl
  have hcA : (Value.ref 52 :: tfBm).contains (.type "AttributeError") = false := by kernel_rfl
  have hcN : (Value.ref 52 :: tfBm).contains (.type "NameError") = false := by kernel_rfl
  have hrest : [v].length ≤ sizeLine := by show 1 ≤ sizeLine; decide
  refine PySem.codeAny_builtinAt F.entry ?_
  unfold Builtin.«BaseException.__new__»
  refine PySem.wpAt_bind ?_
  show PySem.wpAt _ _ _ (stack >>= _) _ _ _
  refine PySem.wpAt_bind (PySem.wpAt_stack fun p below => PySem.wpAt_of_wpAny ?_)
  wp_walk
  refine PySem.wpAt_of_wpAny ?_
  rw [F.owner]
  repeat (first | with_reducible refine wpAny_madeHere_exc F.canon hC ?_ | with_reducible refine wpAny_loadPart_at hC ?_ | (with_reducible refine wpAny_isSubtype_exc hC ?_; first | rw [hcB] | rw [hcA] | rw [hcN]) | wp_step)
  show R _ _
  rw [Heap.size_push]
  exact hq
theorem tf_make (KI : X.K.In h) {Q : Value → Shared → Prop}
    (hq : codeAny (model X.prog X.w) (A.under (.builtin "type.__call__" ⟨[.ref 52, v], []⟩)) (.call (.ref 36) ⟨[.ref (h.objs.size + 1), v], []⟩) (fun r s' => match r with
      | .ok (.ret v) => v = .none ∧ Q (.ref (h.objs.size + 1)) s'
      | .ok _ => False
      | .error e => E e s') ⟨(h.push (tupObj [v])).push (excD 52 none h.objs.size), g, d, t, os⟩) :
    wpAny (model X.prog X.w) A (call (.ref 52) [v]) Q E ⟨h, g, d, t, os⟩ := by
  refine wpAny_call (codeAny_of_tree ?_)
  have l1 : Looks (model X.prog X.w) h (callAny (.ref 52) ⟨[v], []⟩) (Fin.again (.call (.builtin "type.__call__") ⟨[.ref 52, v], []⟩)) := look KI fun _ _ => by kernel_rfl
  refine l1.here ?_
  refine ⟨rfl, ?_⟩
  refine codeAny_call_builtin_at (Code.quiet_builtin _ (by decide +kernel)) entry_typeCall ((look KI (r := ()) fun _ _ => by kernel_rfl).here ?_)
  show wpAny _ _ (mroOf (.ref 52) >>= _) _ _ _
  refine wpAny_bind ((look KI (r := .ref 52 :: tfBm) fun _ _ => by kernel_rfl).here ?_)
  show wpAny _ _ (Bind.madeBy (.ref 52) >>= _) _ _ _
  refine wpAny_bind ((look KI (r := some "Exception.__new__") fun _ _ => by kernel_rfl).here (wpAny_bind (wpAny_pure (wpAny_bind (wpAny_holding (wpAny_call ?_))))))
  refine codeAny_call_builtin_code (Code.quiet_builtin _ PySem.F.excBase_Exception.quiet) ((look KI (r := ()) fun _ _ => by kernel_rfl).here (tf_new KI ?_))
  have hget : ((h.push (tupObj [v])).push (excD 52 none h.objs.size)).get? (h.objs.size + 1) = some (excD 52 none h.objs.size) := by heap_get
  have KI2 := KI.keeps (h' := (h.push (tupObj [v])).push (excD 52 none h.objs.size)) fun b o e => Heap.get?_push_of_some _ (Heap.get?_push_of_some _ e)
  generalize (h.push (tupObj [v])).push (excD 52 none h.objs.size) = h2 at hget KI2 hq ⊢
  have hty : Looks (model X.prog X.w) h2 (typeOf (.ref (h.objs.size + 1))) (.ref 52) := (Looks.ld hget).andThen .now
  refine wpAny_bind (wpAny_bind (hty.here ((look KI2 (r := true) fun _ _ => by kernel_rfl).here ?_)))
  refine wpAny_bind (wpAny_holding (wpAny_bind (wpAny_bind (hty.here ((tf_init_is KI2).here ?_)))))
  refine wpAny_holding (wpAny_bind ((bind_fn KI2 _ (by rw [X.eK]; kernel_rfl)).here (wpAny_bind (wpAny_call ?_))))
  refine codeAny_mono hq fun r s' z => ?_
  cases r with
  | error e => exact z
  | ok fl => cases fl with
    | ret u =>
      obtain ⟨rfl, z⟩ := z
      exact wpAny_pure (wpAny_pure z)
    | _ => exact z.elim
theorem tf_check_init (KI : X.K.In h) {Q : Unit → Shared → Prop} (he : h.get? e = some (excD 52 none t0)) (hq : Q () ⟨h, g, d, t, os⟩) : wpAny M A (checkBuiltinCall "Exception.__init__" ⟨[.ref e, v], []⟩) Q E ⟨h, g, d, t, os⟩ := by
  have F := PySem.F.excBase_Exception
  have hshort := F.noStar
  have hC := tf_there KI
  have hcB : (Value.ref 52 :: tfBm).contains (.type "Exception") = true := by kernel_rfl
  simp only [checkBuiltinCall, F.initKind, F.initSplit, F.initRow]
  repeat (first | with_reducible refine wpAny_loadPart_at he ?_ | with_reducible refine wpAny_loadPart_at hC ?_ | (with_reducible refine wpAny_isSubtype_exc hC ?_; rw [hcB]) | wp_step)
  exact hq
end
section
variable {A : Around} {E : Value → Shared → Prop} {s : Shared} {f e t0 dx : Addr} {v : Value}
theorem tf_base (KI : X.K.In s.heap) {Q : Value → Shared → Prop} (he : s.heap.get? e = some (excD 52 none t0))
    (hq : Q .none { s with heap := (s.heap.push (tupObj [v])).update e (Obj.mapFields (·.setIfInBounds 0 (.ref s.heap.objs.size))) }) : wpAny (model X.prog X.w) A (call (.builtin "Exception.__init__") [.ref e, v]) Q E s := by
  have F := PySem.F.excBase_Exception
  refine wpAny_call (codeAny_call_builtin F.init.plain F.initEntry (tf_check_init KI he ?_))
  unfold Builtin.«BaseException.__init__» newTuple Builtin.BaseException.bexcPut
  have he₁ := Heap.get?_push_of_some (h := s.heap) (tupObj [v]) he
  exact wpAny_bind (wpAny_newObj_type (wpAny_bind (wpAny_bind (wpAny_field he₁ rfl rfl (wpAny_bind (wpAny_setField he₁ rfl (Nat.zero_lt_succ _) (wpAny_letGo (wpAny_pure hq))))))) (by show 1 ≤ sizeLine; decide))
theorem tf_refuse (self : Value) : refuseLoop self "__setattr__" (.ref 52 :: tfBm) = pure () := by kernel_rfl
theorem tf_store {name : Str} {dd : Option Addr} {od : Option Obj} {Q : Unit → Shared → Prop} (KI : X.K.In s.heap) (I : InstAt s.heap e (excD 52 dd t0) 52 od) (hl : ∀ P S, peek (KK P) S (typeLookup (.ref 52) name) = some none)
    (h : ∀ tk, wpAny (model X.prog X.w) A.in1 (storeInOwnDict (.ref e) (.ref 52) (.str name tk) name v false) (fun fin s' => match fin with | .done (.ret _) => Q () s' | _ => False) E { s with toks := s.toks + 1 }) :
    wpAny (model X.prog X.w) A (setAttr (.ref e) name v) Q E s := by
  obtain ⟨hp, g, d, tk, os⟩ := s
  refine set_plain KI I (by rw [X.eK]; kernel_rfl) ?_
  have SF := PySem.F.store_object
  refine codeAny_call_builtin SF.slot.plain SF.entry (@check_slot _ _ _ ⟨hp, g, d, tk + 1, os⟩ "object.__setattr__" "object" "__setattr__" (.ref e) [.str name tk, v] [] _ SF.kind SF.split (I.type.andThen (look KI (r := true) fun _ _ => by kernel_rfl)) (SF.args (.ref e) (.str name tk) v) ?_)
  have t1 : Looks (model X.prog X.w) hp (typeOf (.ref e)) (.ref 52) := I.type
  have hm : Looks (model X.prog X.w) hp (mroOf (.ref 52)) (.ref 52 :: tfBm) := look KI fun _ _ => by kernel_rfl
  rw [osa_eq, refuse_eq]
  refine wpAny_bind (wpAny_bind (t1.here (wpAny_bind (hm.here ?_))))
  rw [tf_refuse]
  refine wpAny_pure (wpAny_bind (t1.here (wpAny_bind ((look (h := hp) KI hl).here (wpAny_bind (wpAny_pure ?_))))))
  refine wpAny_mono (h _) (fun fin s' z => ?_) fun _ _ z => z
  cases fin with
  | done fl => cases fl with
    | ret _ => exact z
    | _ => exact z.elim
  | again _ => exact z.elim
theorem tf_put {name : Str} {tk : Tok} {dx : Addr} {m : Str → Option Value} {l : List Str} {Q : Unit → Shared → Prop} (hn : s.heap.Ns1 dx m) (hw : Within m l) (hl : l.length ≤ 100)
    (hq : ∀ h' tk, h'.Ns1 dx (fun y => if y = name then some v else m y) → Heap.SameBut dx s.heap h' → Q () { s with heap := h', toks := tk }) :
    wpAny (model X.prog X.w) A (storeInDict dx (.str name tk) name v) (fun fin s' => match fin with | .done (.ret _) => Q () s' | _ => False) E s := by
  unfold storeInDict newKeyGuard
  refine wpAny_bind (wpAny_pure (wpAny_bind (wpAny_nsSet1 hn fun h' hn' hs => ?_)))
  obtain ⟨oD, esD, epD, hoD, hdD, hcD⟩ := hn'.count (Within.cons name v hw)
  exact wpAny_bind (wpAny_lookBehind hoD (by rw [hdD]; exact pastItsLine_dict (Nat.le_trans hcD (by rw [List.length_cons, sizeLine_eq]; exact Nat.le_trans (Nat.succ_le_succ hl) (by decide)))) (wpAny_pure (hq h' _ hn' hs)))
theorem first_set (KI : X.K.In s.heap) {Q : Unit → Shared → Prop} (he : s.heap.get? e = some (excD 52 none t0))
    (hq : ∀ h' tk dx, h'.get? e = some (excD 52 (some dx) t0) → s.heap.get? dx = none → dx ≠ e → h'.Ns1 dx (fun y => if y = "message" then some v else none) → (∀ b o, b ≠ e → s.heap.get? b = some o → h'.get? b = some o) → Q () { s with heap := h', toks := tk }) :
    wpAny (model X.prog X.w) A (setAttr (.ref e) "message" v) Q E s := by
  refine tf_store (od := none) KI ⟨he, rfl, rfl, trivial⟩ (fun _ _ => by kernel_rfl) fun tk => ?_
  have hx₁ : (s.heap.push emptyDict).get? e = some (excD 52 none t0) := Heap.get?_push_of_some _ he
  have hxs : e ≠ s.heap.objs.size := Nat.ne_of_lt (Heap.lt_size he)
  unfold storeInOwnDict
  refine wpAny_bind (wpAny_pure (wpAny_bind (wpAny_bind (wpAny_loadPart he (wpAny_bind (wpAny_bind (wpAny_loadPart (tf_there KI) (wpAny_pure ?_))))))))
  refine wpAny_bind (wpAny_alloc (wpAny_bind (wpAny_update hx₁ (wpAny_bind (wpAny_pure (wpAny_pure ?_))))))
  have hgd : ((s.heap.push emptyDict).update e fun o => { cls := o.cls, dict := some s.heap.objs.size, data := o.data, slots := o.slots }).get? s.heap.objs.size = some emptyDict := (Heap.get?_update_ne _ _ _ _ hxs.symm).trans (Heap.get?_push_at rfl rfl)
  refine tf_put (Heap.Ns1.of_empty ⟨_, #[], _, hgd, rfl, fun e he => absurd he (Array.not_mem_empty _), fun _ => rfl⟩) Within.nil (by decide) fun h' tk hn' hsb => ?_
  exact hq h' _ _ ((hsb.2 e hxs).trans (Heap.get?_update_self _ hx₁ rfl)) (Heap.get?_none_of_le (Nat.le_refl _)) hxs.symm hn' fun b o hb z => (hsb.2 b (Nat.ne_of_lt (Heap.lt_size z))).trans ((Heap.get?_update_ne _ _ _ _ hb).trans (Heap.get?_push_of_some _ z))
theorem next_set (KI : X.K.In s.heap) {dx : Addr} {w : Value} {Q : Unit → Shared → Prop} (he : s.heap.get? e = some (excD 52 (some dx) t0)) (hne : dx ≠ e) (hn : s.heap.Ns1 dx fun y => if y = "message" then some w else none)
    (hq : ∀ h' tk, h'.get? e = some (excD 52 (some dx) t0) → (∀ b o, b ≠ dx → s.heap.get? b = some o → h'.get? b = some o) → Q () { s with heap := h', toks := tk }) : wpAny (model X.prog X.w) A (setAttr (.ref e) "spot" v) Q E s := by
  have hn0 := hn
  obtain ⟨od, es, ep, eod, _⟩ := hn0
  refine tf_store (od := some od) KI ⟨he, rfl, rfl, eod⟩ (fun _ _ => by kernel_rfl) fun tk => ?_
  unfold storeInOwnDict
  refine wpAny_bind (wpAny_pure (wpAny_bind (wpAny_bind (wpAny_loadPart he (wpAny_bind (wpAny_bind (wpAny_loadPart (tf_there KI) (wpAny_pure ?_))))))))
  refine wpAny_pure (a := some dx) ?_
  exact tf_put hn (Within.cons "message" w Within.nil) (by decide) fun h' tk hn' hsb => hq h' _ ((hsb.2 e hne.symm).trans he) fun b o hb z => (hsb.2 b hb).trans z
end
noncomputable def glv (P : Params) (x : Str) : Option Value := match (KK P).lookup 3 with
  | some ⟨_, _, .dict es _, _⟩ => nsFind es x
  | _ => none
theorem dict3 (P : Params) : ∃ es n, (KK P).lookup 3 = some (dO es n) := ⟨_, _, rfl⟩
theorem gl_of {P : Params} {h : Heap} {mg : Str → Option Value} (kin : (KK P).In h) (g : h.Ns mainGlobals mg) (x : Str) : mg x = glv P x := by
  obtain ⟨o, es, ep, ho, hd, hk, hm⟩ := g
  obtain ⟨es', n, h⟩ := dict3 P
  cases ho.symm.trans (kin 3 _ h)
  cases hd
  unfold glv
  rw [h]
  exact (hm x).symm
theorem X_gl (x : Str) : X.mg x = glv X.w.params x := gl_of (X.eK ▸ X.kin) X.g x
theorem exc_gl : X.mg "Exception" = none := (X_gl _).trans (by kernel_rfl)
theorem exc_bl : X.mb "Exception" = some (.type "Exception") := (X.eb _ (by decide)).trans PyProof.Rows.Boot.«Exception»
end Mine
namespace Mine
open PySem PySem.W PyProof.Rows PySem.Calls PySem.Spec Builtin Builtin.ObjectAttr
abbrev initBody (p1 p2 p3 p4 p5 p6 p7 p8 p9 p10 p11 p12 p13 p14 : Pos) : List Stmt :=
  [.Expr (.Call (.Attribute (.Name "Exception" p1) "__init__" p2) [.Name "self" p3, .Name "message" p4] [] p5) p6,
   .Assign [.Attribute (.Name "self" p7) "message" p8] (.Name "message" p9) p10,
   .Assign [.Attribute (.Name "self" p11) "spot" p12] (.Name "spot" p13) p14]
abbrev initNames : List (Str × NameKind) := [("self", .local), ("message", .local), ("spot", .local), ("Exception", .globalImplicit)]
structure XEnv (env : Env) : Prop where
  names : env.scope.names = initNames
  kind : env.scope.kind = .function
  glob : env.globals = mainGlobals
  blt : env.builtins = builtinsNs
structure XAt (env : Env) (e : Addr) (msg z : Value) (h : Heap) : Prop where
  ns : ∃ m, h.Ns env.locals m ∧ m "self" = some (.ref e) ∧ m "message" = some msg ∧ m "spot" = some z
  ne : env.locals ≠ e
  base : ∀ b o, X.h₀.get? b = some o → h.get? b = some o
  en : X.h₀.get? e = none
theorem XAt.to {env : Env} {e : Addr} {msg z : Value} {h h' : Heap} (x : XAt env e msg z h) (k : ∀ b o, b ≠ e → h.get? b = some o → h'.get? b = some o) : XAt env e msg z h' := ⟨x.ns.imp fun m q => ⟨q.1.at' fun o e => k _ o x.ne e, q.2⟩, x.ne, fun b o q => k b o (fun z => no (x.en.symm.trans (z ▸ q))) (x.base b o q), x.en⟩
section
variable {A : Around} {s : Shared} {env : Env} {e : Addr} {msg z : Value} {E : Value → Shared → Prop}
theorem self_run {pos : Pos} {Q : Value → Shared → Prop} (V : XEnv env) (x : XAt env e msg z s.heap) (h : Q (.ref e) s) : wpAny (model X.prog X.w) A (eval (.Name "self" pos) env) Q E s :=
  x.ns.elim fun m q => wpAny_Name (wpAny_loadName_local V.kind (by unfold Env.kindOf; rw [V.names]; rfl) q.1 q.2.1 h) rfl
theorem msg_run {pos : Pos} {Q : Value → Shared → Prop} (V : XEnv env) (x : XAt env e msg z s.heap) (h : Q msg s) : wpAny (model X.prog X.w) A (eval (.Name "message" pos) env) Q E s :=
  x.ns.elim fun m q => wpAny_Name (wpAny_loadName_local V.kind (by unfold Env.kindOf; rw [V.names]; rfl) q.1 q.2.2.1 h) rfl
theorem spot_run {pos : Pos} {Q : Value → Shared → Prop} (V : XEnv env) (x : XAt env e msg z s.heap) (h : Q z s) : wpAny (model X.prog X.w) A (eval (.Name "spot" pos) env) Q E s :=
  x.ns.elim fun m q => wpAny_Name (wpAny_loadName_local V.kind (by unfold Env.kindOf; rw [V.names]; rfl) q.1 q.2.2.2 h) rfl
theorem attN_run {n y : Str} {p1 p2 p3 pos : Pos} {v : Value} {Q : Flow → Shared → Prop} (V : XEnv env) (x : XAt env e msg z s.heap) (hy : ∀ {Q : Value → Shared → Prop}, Q v s → wpAny (model X.prog X.w) A (eval (.Name y p3) env) Q E s)
    (h : wpAny (model X.prog X.w) A (setAttr (.ref e) n v) (fun _ s' => Q .next s') E s) : wpAny (model X.prog X.w) A (exec (.Assign [.Attribute (.Name "self" p1) n p2] (.Name y p3) pos) env) Q E s := by
  rw [exec_Assign]
  refine wpAny_bind (wpAny_standAt (wpAny_bind (wpAny_of_eq (a := false) rfl ?_)))
  rw [if_neg (by decide)]
  refine wpAny_bind (hy (wpAny_bind (wpAny_of_eq (a := none) rfl ?_)))
  show wpAny _ _ (do assignAll v [assign (.Attribute (.Name "self" p1) n p2) env]; pure Flow.next) _ _ s
  refine wpAny_bind ?_
  show wpAny _ _ (do
    let ov ← holding [v] (eval (.Name "self" p1) env)
    standAt p2.atName
    holding [v, ov] (setAttr ov n v)
    release [v, ov] []) _ _ s
  exact wpAny_bind (wpAny_holding (self_run V x (wpAny_bind (wpAny_standAt (wpAny_bind (wpAny_holding (wpAny_mono h (fun u s3 z => wpAny_release (wpAny_pure z)) fun _ _ e => e)))))))
theorem excInit_run {pl : Sem Bool} {L : Addr} {m : Str → Option Value} {Q : Value × List Value → Shared → Prop} (hn : s.heap.Ns L m) (h : Q (.builtin "Exception.__init__", []) { s with toks := s.toks + 1 }) : wpAny (model X.prog X.w) A (getMethod (.type "Exception") "__init__" pl) Q E s :=
  method_type (K := []) (h₀ := { objs := #[] }) ⟨hn, fun b o e => no e, Nat.zero_le _⟩ (fun a o e => no e) (by kernel_rfl) (by decide +kernel) (by kernel_rfl) (by decide +kernel) h
end
inductive TfFn (X : Cx) (f : Addr) : Prop
  | mk (sc : Scope) (p1 p2 p3 p4 p5 p6 p7 p8 p9 p10 p11 p12 p13 p14 : Pos) (tk : Tok) (pl : Env → Sem Bool) (hn : sc.names = initNames) (F : FnIs X f sc (initBody p1 p2 p3 p4 p5 p6 p7 p8 p9 p10 p11 p12 p13 p14) ["self", "message", "spot"] [0, 1, 2] 2 [.int 0 tk] [.int 0])
    (hpl : ∀ env, eval (.Call (.Attribute (.Name "Exception" p1) "__init__" p2) [.Name "self" p3, .Name "message" p4] [] p5) env = (do
      let ov ← eval (.Name "Exception" p1) env
      standAt p2.atName
      let (f, first) ← holding [ov] (getMethod ov "__init__" (pl env))
      callWith p5 f first (backTo p5 (starEach [.Name "self" p3, .Name "message" p4] env)) (backToKw p5 (keywordEach [] env))))
structure XEnd (e : Addr) (s s' : Shared) : Prop where
  there : ∃ t dd, s'.heap.get? e = some (excD X.tf dd t)
  keep : ∀ b o, b ≠ e → s.heap.get? b = some o → s'.heap.get? b = some o
  same : Same s s'
section
variable {A : Around} {s : Shared} {env : Env} {f e t0 dx : Addr} {msg z : Value} {pos p1 p2 p3 : Pos}
theorem XAt.K (x : XAt env e msg z s.heap) : X.K.In s.heap := fun b o q => x.base b o (X.kin b o q)
theorem sets_run {p4 p5 p6 p7 : Pos} (V : XEnv env) (x : XAt env e msg z s.heap) (he : s.heap.get? e = some (excD X.tf none t0)) :
    wpAny (model X.prog X.w) A (execs [.Assign [.Attribute (.Name "self" p1) "message" p2] (.Name "message" p3) pos, .Assign [.Attribute (.Name "self" p4) "spot" p5] (.Name "spot" p6) p7] env) (fun fl s' => fl = .next ∧ XEnd e s s') NoE s := by
  refine wpAny_execs_cons (attN_run V x (msg_run V x) (first_set x.K he fun h' tk dx he' hx hne hn k => ?_))
  have x' := x.to k
  refine wpAny_execs_cons (attN_run (s := { s with heap := h', toks := tk }) V x' (spot_run (s := { s with heap := h', toks := tk }) V x') (next_set (s := { s with heap := h', toks := tk }) x'.K he' hne hn fun h2 tk2 he2 k2 => ?_))
  exact wpAny_execs_nil ⟨rfl, ⟨t0, _, he2⟩, fun b o n z => k2 b o (fun y => no (hx.symm.trans (y ▸ z))) (k b o n z), rfl, rfl, rfl⟩
theorem body_run {p4 p5 p6 p7 p8 p9 p10 p11 p12 p13 p14 : Pos} {pl : Env → Sem Bool} (V : XEnv env) (x : XAt env e msg z s.heap) (he : s.heap.get? e = some (excD X.tf none t0))
    (hpl : ∀ env, eval (.Call (.Attribute (.Name "Exception" p1) "__init__" p2) [.Name "self" p3, .Name "message" p4] [] p5) env = (do
      let ov ← eval (.Name "Exception" p1) env
      standAt p2.atName
      let (f, first) ← holding [ov] (getMethod ov "__init__" (pl env))
      callWith p5 f first (backTo p5 (starEach [.Name "self" p3, .Name "message" p4] env)) (backToKw p5 (keywordEach [] env)))) :
    wpAny (model X.prog X.w) A (execs (initBody p1 p2 p3 p4 p5 p6 p7 p8 p9 p10 p11 p12 p13 p14) env) (fun fl s' => fl = .next ∧ XEnd e s s') NoE s := by
  refine wpAny_execs_cons ?_
  rw [exec_Expr env _ p6 (by unfold interactive; rw [V.kind]; rfl) rfl]
  refine wpAny_bind (wpAny_standAt (wpAny_bind (methodCall_KW (pl := pl env) ?_ (hpl env))))
  refine Name_function_global V.kind (by unfold Env.kindOf; rw [V.names]; rfl) (loadGlobal_builtin (by rw [V.glob]; exact X.g.keeps x.base) exc_gl (by rw [V.blt]; exact X.b.keeps x.base) exc_bl ?_) rfl
  obtain ⟨m, hm, _⟩ := x.ns
  refine excInit_run hm (callWith_builtin rfl (args_run (.inr ⟨_, _, rfl, fun _ => rfl⟩) (wpAny_items_cons (self_run (s := { s with toks := s.toks + 1 }) V x ?_) rfl)))
  refine wpAny_items_cons (msg_run (s := { s with toks := s.toks + 1 }) V x (wpAny_items_nil ?_)) rfl
  refine tf_base (s := { s with toks := s.toks + 1 }) x.K he (wpAny_dropValue ?_)
  have he1 := Heap.get?_push_of_some (tupObj [msg]) he
  have kp : ∀ b o, b ≠ e → s.heap.get? b = some o → ((s.heap.push (tupObj [msg])).update e (Obj.mapFields (·.setIfInBounds 0 (.ref s.heap.objs.size)))).get? b = some o := fun b o hb q => (Heap.get?_update_ne _ _ _ _ hb).trans (Heap.get?_push_of_some _ q)
  refine wpAny_mono (sets_run (s := { s with heap := _, toks := s.toks + 1 }) V (x.to kp) (Heap.get?_update_self _ he1 rfl)) (fun fl s' q => ⟨q.1, q.2.there, fun b o n y => q.2.keep b o n (kp b o n y), q.2.same⟩) fun _ _ q => q
theorem bind1_run {x : Str} {v : Value} {m : Str → Option Value} {bs : List (Str × Value)} {E : Value → Shared → Prop} {Q : PUnit → Shared → Prop} (hk : env.kindOf x = some .local) (hp : env.scope.kind = .function) (hn : s.heap.Ns env.locals m)
    (h : ∀ h' tk, h'.Ns env.locals (fun y => if y = x then some v else m y) → Heap.SameBut env.locals s.heap h' → wpAny (model X.prog X.w) A (storeAll env bs) Q E { s with heap := h', toks := tk }) : wpAny (model X.prog X.w) A (storeAll env ((x, v) :: bs)) Q E s := by
  refine storeAll_cons ?_
  have hp' : (env.scope.kind == .class || (env.scope.kind == .module && env.locals != env.globals)) = false := by rw [hp]; rfl
  rw [storeName_local hk hp']
  exact nsSet_keeps hn fun h' hn' hs hc => h _ _ hn' hs
theorem binds3 {E : Value → Shared → Prop} {Q : PUnit → Shared → Prop} (V : XEnv env) (hn : s.heap.Ns env.locals fun _ => none) (h : ∀ s' m, Same s s' → Heap.SameBut env.locals s.heap s'.heap → s'.heap.Ns env.locals m → m "self" = some (.ref e) → m "message" = some msg → m "spot" = some z → Q ⟨⟩ s') :
    wpAny (model X.prog X.w) A (storeAll env [("self", .ref e), ("message", msg), ("spot", z)]) Q E s := by
  refine bind1_run (by unfold Env.kindOf; rw [V.names]; rfl) V.kind hn fun h1 tk1 n1 s1 => ?_
  refine bind1_run (s := { s with heap := h1, toks := tk1 }) (by unfold Env.kindOf; rw [V.names]; rfl) V.kind n1 fun h2 tk2 n2 s2 => ?_
  refine bind1_run (s := { s with heap := h2, toks := tk2 }) (by unfold Env.kindOf; rw [V.names]; rfl) V.kind n2 fun h3 tk3 n3 s3 => wpAny_pure ?_
  exact h _ _ ⟨rfl, rfl, rfl⟩ (s1.trans (s2.trans s3)) n3 rfl rfl rfl
theorem init_run {R : Result → Shared → Prop} {body : List Stmt} {h0 : Heap} (V : XEnv env) (hk : ∀ b o, s.heap.get? b = some o → h0.get? b = some o) (hL : h0.get? env.locals = some frameObj) (hn : s.heap.get? env.locals = none) (hb : ∀ b o, X.h₀.get? b = some o → s.heap.get? b = some o) (hen : X.h₀.get? e = none) (he : s.heap.get? e = some (excD X.tf none t0))
    (hr : ∀ s1 : Shared, XAt env e msg z s1.heap → s1.heap.get? e = some (excD X.tf none t0) → wpAny (model X.prog X.w) (A.deeper env) (execs body env) (fun fl s' => fl = .next ∧ XEnd e s1 s') NoE s1)
    (hq : ∀ s', XEnd e s s' → R (.ok (.ret .none)) s') {E : Value → Shared → Prop} : wpAny (model X.prog X.w) A.in1 (storeAll env [("self", .ref e), ("message", msg), ("spot", z)]) (fun _ s' => s'.heap.NoLimit ∧ codeAny (model X.prog X.w) A (.func body env) R s') E { s with heap := h0 } := by
  refine binds3 (s := { s with heap := h0 }) V ⟨_, #[], 0, hL, rfl, fun e he => absurd he (Array.not_mem_empty _), fun _ => rfl⟩ fun s1 m sm sb hm m1 m2 m3 => ?_
  have kp : ∀ b o, s.heap.get? b = some o → s1.heap.get? b = some o := fun b o z => (sb.2 b (fun q => no (hn.symm.trans (q ▸ z)))).trans (hk b o z)
  have x : XAt env e msg z s1.heap := ⟨⟨m, hm, m1, m2, m3⟩, fun q => no (hn.symm.trans (q ▸ he)), fun b o z => kp b o (hb b o z), hen⟩
  refine ⟨X.lim.keeps x.base, codeAny_func (wpAny_mono (hr s1 x (kp _ _ he)) (fun fl s' q => ?_) fun _ _ q => q.elim)⟩
  obtain ⟨rfl, q⟩ := q
  exact hq s' ⟨q.there, fun b o n z => q.keep b o n (kp b o z), sm.trans q.same⟩
theorem tf_init {R : Result → Shared → Prop} (T : TfFn X f) (hd : A.depth < recursionLimit) (hb : ∀ b o, X.h₀.get? b = some o → s.heap.get? b = some o) (hen : X.h₀.get? e = none) (he : s.heap.get? e = some (excD X.tf none t0))
    (hq : ∀ s', XEnd e s s' → R (.ok (.ret .none)) s') : codeAny (model X.prog X.w) A (.call (.ref f) ⟨[.ref e, msg], []⟩) R s := by
  obtain ⟨sc, p1, p2, p3, p4, p5, p6, p7, p8, p9, p10, p11, p12, p13, p14, tk, pl, hnm, F, hpl⟩ := T
  refine F.call hd (fun b o z => hb b o (X.kin b o z)) rfl fun qual cdv => ?_
  have V : XEnv (envIn sc s.heap (qual ++ ".<locals>.") f cdv) := ⟨hnm, F.ok.kind, rfl, rfl⟩
  exact init_run V (heapIn_keeps s.heap sc) (pushCells_keeps _ _ _ _ (Heap.get?_push_size _ rfl)) (Heap.get?_none_of_le (Nat.le_refl _)) hb hen he (fun s1 x he1 => body_run V x he1 hpl) hq
end
end Mine
namespace Mine
open PySem PySem.W PyProof.Rows PySem.Calls PySem.Spec
section
variable {A : Around} {E : Value → Shared → Prop} {env : Env} {s : Shared}
theorem raise_made {x : Sem Value} {Q : Flow → Shared → Prop} (hh : A.handled = none)
    (h : wpAny (model X.prog X.w) A x (fun v s₁ => ∃ e t dx, v = .ref e ∧ X.K.In s₁.heap ∧ s₁.heap.get? e = some (excD X.tf dx t) ∧ E (.ref e) s₁) E s) : wpAny (model X.prog X.w) A (raiseStmt env (some x) none) Q E s := by
  unfold raiseStmt
  refine wpAny_bind (wpAny_mono h (fun v s₁ h₁ => ?_) fun _ _ x => x)
  obtain ⟨e, t, dx, rfl, KI, he, hE⟩ := h₁
  obtain ⟨hp, g, d, tk, os⟩ := s₁
  have hC := tf_there KI
  have hcB : (Value.ref X.tf :: tfBm).contains (.type "BaseException") = true := by kernel_rfl
  repeat (first | with_reducible refine wpAny_loadPart_at he ?_ | with_reducible refine wpAny_loadPart_at hC ?_ | (with_reducible refine wpAny_isSubtype_exc hC ?_; rw [hcB]) | wp_step)
  exact wpAny_raiseNew_none hh hE
end
section
variable {c : Lc} {E : Bool → St → Prop}
theorem make_tf {v : Value} (T : TfFn X 36) (hE : E false c.st) :
    wpAny (model X.prog X.w) c.A (call (.ref X.tf) [v]) (fun v' s' => ∃ e t dx, v' = .ref e ∧ X.K.In s'.heap ∧ s'.heap.get? e = some (excD X.tf dx t) ∧ c.epost E (.ref e) s') (fun _ _ => False) c.s := by
  have uo := under_ok ⟨[.ref X.tf, v], []⟩ c.hA
  have hnew : c.s.heap.get? (c.s.heap.objs.size + 1) = none := Heap.get?_none_of_le (Nat.le_succ _)
  have hen : X.h₀.get? (c.s.heap.objs.size + 1) = none := by
    cases z : X.h₀.get? (c.s.heap.objs.size + 1) with
    | none => rfl
    | some o => exact no (hnew.symm.trans (c.S.base _ _ z))
  have kk : ∀ b o, c.s.heap.get? b = some o → ((c.s.heap.push (tupObj [v])).push (excD 52 none c.s.heap.objs.size)).get? b = some o := fun b o e => Heap.get?_push_of_some _ (Heap.get?_push_of_some _ e)
  refine tf_make (h := c.s.heap) (g := c.s.gens) (d := c.s.drawn) (t := c.s.toks) (os := c.s.os) c.S.K ?_
  refine tf_init (s := ⟨(c.s.heap.push (tupObj [v])).push (excD 52 none c.s.heap.objs.size), c.s.gens, c.s.drawn, c.s.toks, c.s.os⟩) T (Nat.lt_of_lt_of_le (Nat.lt_of_le_of_lt (Nat.le_add_right _ _) (Nat.lt_add_of_pos_right (by decide))) uo.depth) (fun b o z => kk b o (c.S.base b o z)) hen (by heap_get) fun s' x => ⟨rfl, ?_⟩
  have k2 : ∀ b o, c.s.heap.get? b = some o → s'.heap.get? b = some o := fun b o z => x.keep b o (fun q => no (hnew.symm.trans (q ▸ z))) (kk b o z)
  obtain ⟨t', dx, he⟩ := x.there
  exact ⟨_, t', dx, rfl, c.S.K.keeps k2, he, _, c.st, c.ρ, s', false, rfl, hE, c.S.grow k2, Go.grow k2 x.same, .refl _, .inl ⟨rfl, rfl, ⟨t', dx, ⟨c.S.noneOff hnew, he⟩, hen⟩, .inr (.inr hnew)⟩⟩
theorem str_only {v : V} {p : Prop} (h : match v with | .dat (.str _) => p | _ => False) : p := by
  cases v with
  | dat d => cases d with
    | str _ => exact h
    | _ => exact h.elim
  | _ => exact h.elim
theorem ss_raise {G : Gx} {x : Str} {np cpos pos : Pos} {e : Expr} {pe : PE} (T : TfFn X 36) (b : GlbIs X G.sc x (.ref X.tf)) (hk : keepIn X.K (.ref X.tf) = true) (he : SE G e pe) : SS G (.Raise (some (.Call (.Name x np) [e] [] cpos)) none pos) (.raise pe) := fun c ic htop Q E h => by
  rw [arm_exec_Raise]
  refine wpAny_bind (wpAny_standAt (raise_made c.hA.hn (wpAny_bind (wpAny_mono ?_ (fun v s₁ z => wpAny_bind (wpAny_standAt (wpAny_pure z))) fun _ _ z => z))))
  refine call_name (name_glb ic b (callWith_of (P := fun h => X.K.In h) (by rw [he.ns]; rfl) (keeps_K hk) (args_run (.inr ⟨e, [], rfl, he.ns _⟩) (wpAny_items_cons (Lc.seq0 (he.run c ic _ _ h) fun v dv p g r1 q1 => wpAny_items_nil ⟨p.S.K, ?_⟩) (he.ns _ _)))))
  refine wpAny_mono (make_tf (c := c.mv p) T (str_only q1)) (fun v s' q => ?_) fun _ _ q => q.elim
  exact q.imp fun e q => q.imp fun t q => q.imp fun dx q => ⟨q.1, q.2.1, q.2.2.1, EPost.trans g _ _ q.2.2.2⟩
end
end Mine
namespace Mine
open PySem PySem.W PyProof.Rows PySem.Calls PySem.Spec
inductive ZHold (w : Zp) (m : Nat) (h : Heap) : Prop
  | free (a : Bool → Value) (Z : ZAt w .none false (fun _ => m) a h)
  | held (T : Nat) (fl : Bool) (a : Bool → Value) (Z : ZAt w (rawInt T) fl (fun _ => m) a h) (ho : w.Out T) (hT : ∃ o, h.get? T = some o)
noncomputable abbrev lstObj (acc : Array Value) (c : Nat) : Obj := { cls := .type "list", dict := none, data := .seq acc c, slots := #[] }
noncomputable def PAs (w : Zp) (N : Nat) (h : Heap) (acc : Array Value) : Prop :=
  ∀ (j : Nat) (v : Value), acc[j]? = some v → (∀ k, (w.xs k)[j]? = some (w.val j k)) ∧ ∃ T, v = .ref T ∧ @LE.le Nat _ N T ∧ IsPair h T (w.val j false) (w.val j true)
section
variable {prog : Program} {W : World} {A : Around} {E : Value → Shared → Prop} {s : Shared} {w : Zp} {m N : Nat} {h h' : Heap} {acc : Array Value}
theorem ZHold.stay (H : ZHold w m h) (k : ∀ b o, (@LE.le Nat _ w.n b ∧ @LE.le Nat _ b (w.n + 4)) ∨ b = w.l true ∨ b = w.l false → h.get? b = some o → h'.get? b = some o) (th : ∀ b, (∃ o, h.get? b = some o) → ∃ o, h'.get? b = some o) : ZHold w m h' := by
  cases H with
  | free a Z => exact .free a (Z.keep k)
  | held T fl a Z ho hT => exact .held T fl a (Z.keep k) ho (th T hT)
theorem ZHold.lt (H : ZHold w m h) (j : Bool) : @LT.lt Nat _ (w.l j) w.n := H.rec (fun _ Z => Z.lt j) fun _ _ _ Z _ _ => Z.lt j
theorem ZHold.not_own (H : ZHold w m h) {b S : Addr} (q : (@LE.le Nat _ w.n b ∧ @LE.le Nat _ b (w.n + 4)) ∨ b = w.l true ∨ b = w.l false) (zS : @LT.lt Nat _ (w.n + 4) S) : b ≠ S := by
  have hl : ∀ j, b = w.l j → @LT.lt Nat _ b (w.n + 4) := fun j e => e ▸ Nat.lt_of_lt_of_le (H.lt j) (Nat.le_add_right _ _)
  exact Nat.ne_of_lt (q.elim (fun q => Nat.lt_of_le_of_lt q.2 zS) fun q => Nat.lt_trans (q.elim (hl _) (hl _)) zS)
theorem hold_next {Q : Option Value → Shared → Prop} (hn : A.handled = none) (H : ZHold w m s.heap)
    (hQ : ∀ h', (∀ j, (w.xs j)[m]? = some (w.val m j)) → ZHold w (m + 1) h' → IsPair h' s.heap.objs.size (w.val m false) (w.val m true) → w.Off s.heap h' → Q (some (.ref s.heap.objs.size)) { s with heap := h' })
    (hS : (∃ j, (w.xs j)[m]? = none) → ∀ h', w.Off s.heap h' → Q none { s with heap := h' }) : wpAny (model prog W) A (pyNext (.ref w.z)) Q E s := by
  cases H with
  | free a Z => exact zip_free hn Z (fun h' hv Z' hp k => hQ h' hv (.held _ _ _ Z' (.inr (Heap.lt_size Z.z)) ⟨_, hp⟩) hp k) hS
  | held T fl a Z ho hT => exact zip_held hn hT Z (fun h' hv Z' hp k => hQ h' hv (.held _ _ _ Z' ho (hT.imp fun o e => k _ o ho e)) hp k) hS
theorem PAs.keep (p : PAs w N h acc) (k : ∀ b o, @LE.le Nat _ N b → h.get? b = some o → h'.get? b = some o) : PAs w N h' acc := fun j v e => ⟨(p j v e).1, (p j v e).2.imp fun T q => ⟨q.1, q.2.1, k _ _ q.2.1 q.2.2⟩⟩
theorem PAs.push {T : Addr} (p : PAs w N h acc) (hv : ∀ k, (w.xs k)[acc.size]? = some (w.val acc.size k)) (hN : @LE.le Nat _ N T) (hp : IsPair h T (w.val acc.size false) (w.val acc.size true)) : PAs w N h (acc.push (.ref T)) := fun j v e => by
  rw [Array.getElem?_push] at e
  split at e
  · rename_i q; cases e; subst q; exact ⟨hv, T, rfl, hN, hp⟩
  · exact p j v e
theorem extend_loop {R : Result → Shared → Prop} {S : Addr} {res : Value} (hh : A.handled = none) (zS : @LT.lt Nat _ (w.n + 4) S) (SN : @LT.lt Nat _ S N) (hsz : (w.xs false).size ≤ 100000) (k : Nat) :
    ∀ (s : Shared) (acc : Array Value) (c : Nat), (w.xs false).size ≤ acc.size + k → N ≤ s.heap.objs.size → ZHold w acc.size s.heap → s.heap.get? S = some (lstObj acc c) → PAs w N s.heap acc →
    (∀ h' acc' c', (∀ b o, b ≠ S → w.Out b → s.heap.get? b = some o → h'.get? b = some o) → h'.get? S = some (lstObj acc' c') → PAs w N h' acc' → (∃ j, (w.xs j)[acc'.size]? = none) → R (.ok (.ret res)) { s with heap := h' }) →
    codeAny (model prog W) A (.builtin "list.extend.loop" ⟨[.ref S, .ref w.z, res], []⟩) R s := by
  have big : ∀ {b}, @LE.le Nat _ N b → w.Out b := fun hb => .inr (Nat.lt_trans zS (Nat.lt_of_lt_of_le SN hb))
  induction k with
  | zero =>
    intro s acc c hk hN H hS hp hR
    refine codeAny_builtin F.entry_extend_loop ?_
    rw [Around.under_plainId F.plain_extend_loop _]
    show wpAny _ A.in1 (pyNext (.ref w.z) >>= _) _ _ s
    exact wpAny_bind (hold_next (A := A.in1) hh H (fun h' hv => absurd (Array.getElem?_eq_some_iff.mp (hv false)).1 (Nat.not_lt.mpr hk)) fun hj h' k => wpAny_pure (hR h' acc c (fun b o _ ob e => k b o ob e) (k _ _ (.inr zS) hS) (hp.keep fun b o hb e => k b o (big hb) e) hj))
  | succ k ih =>
    intro s acc c hk hN H hS hp hR
    refine codeAny_builtin F.entry_extend_loop ?_
    rw [Around.under_plainId F.plain_extend_loop _]
    show wpAny _ A.in1 (pyNext (.ref w.z) >>= _) _ _ s
    refine wpAny_bind (hold_next (A := A.in1) hh H (fun h' hv H' hpair kk => ?_) fun hj h' k => wpAny_pure (hR h' acc c (fun b o _ ob e => k b o ob e) (k _ _ (.inr zS) hS) (hp.keep fun b o hb e => k b o (big hb) e) hj))
    have hlt : acc.size < 100000 := Nat.lt_of_lt_of_le (Array.getElem?_eq_some_iff.mp (hv false)).1 hsz
    show wpAny _ A.in1 (updateSeq S (·.push (.ref s.heap.objs.size)) >>= _) _ _ _
    refine wpAny_bind (wpAny_updateSeq (s := { s with heap := h' }) (kk _ _ (.inr zS) hS) rfl (wpAny_pure ⟨plainId_quiet F.plain_extend_loop _, ?_⟩) (Nat.le_trans (Nat.le_of_lt hlt) (by decide)) (by show (acc.push _).size ≤ sizeLine + 1; rw [Array.size_push]; exact Nat.succ_le_succ (Nat.le_trans (Nat.le_of_lt hlt) (by decide))))
    have hS2 := Heap.get?_update_self (Obj.mapSeq (·.push (Value.ref s.heap.objs.size))) (kk _ _ (.inr zS) hS) rfl
    have hsb : Heap.SameBut S h' (h'.update S (Obj.mapSeq (·.push (Value.ref s.heap.objs.size)))) := Heap.SameBut.update ..
    generalize h'.update S (Obj.mapSeq (·.push (Value.ref s.heap.objs.size))) = h2 at hS2 hsb ⊢
    have up : ∀ {b o}, b ≠ S → h'.get? b = some o → h2.get? b = some o := fun n e => (hsb.2 _ n).trans e
    have nS : ∀ {b}, @LE.le Nat _ N b → b ≠ S := fun hb => Nat.ne_of_gt (Nat.lt_of_lt_of_le SN hb)
    refine ih { s with heap := h2 } (acc.push (.ref s.heap.objs.size)) _ (by rw [Array.size_push, Nat.add_assoc, Nat.add_comm 1]; exact hk) (hsb.1.symm ▸ Nat.le_of_lt (Nat.lt_of_le_of_lt hN (Heap.lt_size hpair))) ?_ hS2 ?_ fun h3 acc' c' k2 => hR h3 acc' c' fun b o b1 ob e => k2 b o b1 ob (up b1 (kk b o ob e))
    · rw [Array.size_push]
      exact H'.stay (fun b o m e => up (H'.not_own m zS) e) fun b he => (Classical.em (b = S)).elim (fun q => q ▸ ⟨_, hS2⟩) fun q => he.imp fun o e => up q e
    · exact (((hp.keep fun b o hb e => kk b o (big hb) e).push hv hN hpair).keep fun b o hb e => up (nS hb) e)
end
end Mine
namespace Mine
open PySem PySem.W PyProof.Rows PySem.Calls PySem.Spec
section
variable {prog : Program} {W : World} {A : Around} {E : Value → Shared → Prop} {s : Shared} {w : Zp}
theorem zip_hint {z : Addr} {Q : Bool → Shared → Prop} (hT : s.TypeIs (.ref z) "zip") (h : Q true s) : wpAny (model prog W) A (Builtin.List.listLengthHint (.ref z)) Q E s := by
  unfold Builtin.List.listLengthHint
  refine wpAny_bind (wpAny_specialOf hT (show typeLookup (.type "zip") "__len__" = pure none by rw [typeLookup_type, builtinLookup_eq_fast]; kernel_rfl) ?_)
  show wpAny _ A (specialOf (Value.ref z) (Str.ofString "__length_hint__") >>= _) _ _ _
  exact wpAny_bind (wpAny_specialOf hT (show typeLookup (.type "zip") "__length_hint__" = pure none by rw [typeLookup_type, builtinLookup_eq_fast]; kernel_rfl) (wpAny_pure h))
theorem extend_with {S : Addr} {c : Nat} {Q : PySem.Fin → Shared → Prop} (hS : s.heap.get? S = some (lstObj #[] c)) (hz : s.heap.get? w.z = some (zipObj .none false w.TI w.TO)) (ne : S ≠ w.z)
    (hq : ∀ h' c', Heap.SameBut S s.heap h' → h'.get? S = some (lstObj #[] c') → Q (.again (.builtin "list.extend.loop" ⟨[.ref S, .ref w.z, .none], []⟩)) { s with heap := h' }) : wpAny (model prog W) A (Builtin.List.listExtendWith (.ref S) (.ref w.z) .none) Q E s := by
  unfold Builtin.List.listExtendWith
  refine wpAny_bind (wpAny_typeOf (T := "zip") ⟨_, hz, rfl⟩ ?_)
  have h1 : Builtin.List.listSameRef (.ref S) (.ref w.z) = false := beq_eq_false_iff_ne.mpr ne
  rw [h1]
  refine wpAny_bind (wpAny_pyIter_zip hz (wpAny_bind (wpAny_holding (zip_hint ⟨_, hz, rfl⟩ ?_))))
  show wpAny _ _ (rule "list.extend.makes-room" >>= fun _ => Builtin.List.listTouch (.ref S) >>= fun _ => again (.builtin "list.extend.loop" ⟨[.ref S, .ref w.z, .none], []⟩)) _ _ _
  refine wpAny_bind (wpAny_rule (wpAny_bind ?_))
  show wpAny _ _ (updateSeq S (·.push .none) >>= fun _ => updateSeq S (·.pop)) _ _ _
  refine wpAny_bind (wpAny_updateSeq hS rfl ?_)
  have hS3 := Heap.get?_update_self (Obj.mapSeq (·.push Value.none)) hS rfl
  exact wpAny_updateSeq (hz := by seq_fits) hS3 rfl (wpAny_pure (hq _ _ ((Heap.SameBut.update ..).trans (Heap.SameBut.update ..)) (Heap.get?_update_self (Obj.mapSeq (·.pop)) hS3 rfl)))
theorem list_zip {a : Bool → Value} {Q : Value → Shared → Prop} (hh : A.handled = none) (hsz : (w.xs false).size ≤ 100000) (Z : ZAt w .none false (fun _ => 0) a s.heap)
    (hQ : ∀ h' acc c, w.Off s.heap h' → h'.get? s.heap.objs.size = some (lstObj acc c) → PAs w (s.heap.objs.size + 1) h' acc → (∃ j, (w.xs j)[acc.size]? = none) → Q (.ref s.heap.objs.size) { s with heap := h' }) :
    wpAny (model prog W) A (call (.type "list") [.ref w.z]) Q E s := by
  refine callType_codes (Q₁ := fun obj s₁ => obj = .ref s.heap.objs.size ∧ s₁ = { s with heap := s.heap.push { cls := .type "list", data := .seq #[] } }) PySem.F.called_list (PySem.F.typeCall_list_1 _) PySem.F.entry_list_init
    (code_list_new _ ⟨rfl, rfl⟩) fun obj s₁ h₁ => ?_
  obtain ⟨rfl, rfl⟩ := h₁
  have zS : @LT.lt Nat _ (w.n + 4) s.heap.objs.size := Heap.lt_size Z.z
  have hS : (s.heap.push { cls := .type "list", data := .seq #[] }).get? s.heap.objs.size = some (lstObj #[] 0) := Heap.get?_push_size _ rfl
  refine ⟨⟨_, hS, rfl⟩, PySem.F.args_list_init_2 _ _, ?_⟩
  show wpAny _ _ (do let old ← Builtin.List.listItems (.ref s.heap.objs.size); Builtin.List.listUpdate (.ref s.heap.objs.size) (fun _ => #[]); letGo old.toList.reverse; Builtin.List.listExtendWith (.ref s.heap.objs.size) (.ref w.z) .none) _ _ _
  refine wpAny_bind ?_
  unfold Builtin.List.listItems
  refine wpAny_bind (wpAny_seqItems hS rfl (wpAny_pure ?_))
  show wpAny _ _ (updateSeq s.heap.objs.size (fun _ => #[]) >>= fun _ => letGo (#[] : Array Value).toList.reverse >>= fun _ => Builtin.List.listExtendWith (.ref s.heap.objs.size) (.ref w.z) .none) _ _ _
  refine wpAny_bind (wpAny_updateSeq hS rfl (wpAny_bind (wpAny_letGo ?_)))
  have k : ∀ {h' : Heap} {b o}, Heap.SameBut s.heap.objs.size (s.heap.push { cls := .type "list", data := .seq #[] }) h' → s.heap.get? b = some o → h'.get? b = some o := fun sb e => (sb.2 _ (Nat.ne_of_lt (Heap.lt_size e))).trans (Heap.get?_push_of_some _ e)
  refine extend_with (s := { s with heap := _ }) (w := w) (Heap.get?_update_self (Obj.mapSeq (fun _ => (#[] : Array Value))) hS rfl) (k (Heap.SameBut.update ..) Z.z) (Nat.ne_of_gt zS) fun h' c' sb hS4 => ⟨plainId_quiet PySem.F.plain_extend_loop _, ?_⟩
  have kk : ∀ b o, s.heap.get? b = some o → h'.get? b = some o := fun b o e => k ((Heap.SameBut.update ..).trans sb) e
  have z4 : h'.objs.size = s.heap.objs.size + 1 := sb.1.trans ((Heap.SameBut.update ..).1.trans (Heap.size_push ..))
  exact extend_loop (A := A.in1) hh zS (Nat.lt_succ_self _) hsz _ { s with heap := h' } #[] c' (Nat.le_add_left _ _) (Nat.le_of_eq z4.symm) (.free a (Z.keep fun b o _ e => kk b o e)) hS4 (fun j v e => no ((Array.getElem?_empty (i := j)).symm.trans e)) fun h2 acc c k2 hS5 hp hj => ⟨rfl, hQ h2 acc c (fun b o ob e => k2 b o (Nat.ne_of_lt (Heap.lt_size e)) ob (kk b o e)) hS5 hp hj⟩
end
end Mine
namespace Mine
open PySem PySem.W PyProof.Rows PySem.Calls PySem.Spec
section
variable {P : Params} {src xa : Option Addr} {ρ : List Addr} {F : Vw} {w : Zp} {N : Nat} {h : Heap} {acc : Array Value}
theorem reps_of_get {ds : List V} : ∀ {vs : List Value}, vs.length = ds.length → (∀ (j : Nat) v d, vs[j]? = some v → ds[j]? = some d → Rep P src xa ρ F v d) → Reps P src xa ρ F vs ds := by
  induction ds with
  | nil => intro vs h _; exact List.eq_nil_of_length_eq_zero h
  | cons d ds ih =>
    intro vs h k
    cases vs with
    | nil => exact nomatch h
    | cons v vs => exact .cons (k 0 v d rfl rfl) (ih (Nat.succ.inj h) fun j v d e1 e2 => k (j + 1) v d e1 e2)
theorem pas_size (p : PAs w N h acc) (hj : ∃ j, (w.xs j)[acc.size]? = none) : acc.size = min (w.xs false).size (w.xs true).size := by
  have le : ∀ k, acc.size ≤ (w.xs k).size := fun k => Nat.not_lt.mp fun q => Nat.lt_irrefl _ (Array.getElem?_eq_some_iff.mp ((p _ _ (Array.getElem?_eq_getElem q)).1 k)).1
  refine Nat.le_antisymm (Nat.le_min.mpr ⟨le false, le true⟩) (hj.elim fun j e => ?_)
  have := Array.getElem?_eq_none_iff.mp e
  cases j
  · exact Nat.le_trans (Nat.min_le_left _ _) this
  · exact Nat.le_trans (Nat.min_le_right _ _) this
theorem pas_reps {xs ys : List V} (hp : PAs w N h acc) (hj : ∃ j, (w.xs j)[acc.size]? = none) (r1 : Reps P src xa ρ F (w.xs false).toList xs) (r2 : Reps P src xa ρ F (w.xs true).toList ys) (hF : ∀ T o, @LE.le Nat _ N T → h.get? T = some o → F T o) : Reps P src xa ρ F acc.toList (zipV xs ys) := by
  refine reps_of_get ?_ fun j v d e1 e2 => ?_
  · unfold zipV
    rw [Array.length_toList, pas_size hp hj, List.length_zipWith, ← r1.length, ← r2.length, Array.length_toList, Array.length_toList]
  · obtain ⟨hv, T, rfl, hN, hpair⟩ := hp j v (Array.getElem?_toList.symm.trans e1)
    unfold zipV at e2
    rw [List.getElem?_zipWith] at e2
    cases ea : xs[j]? with
    | none => rw [ea] at e2; exact no e2
    | some a => cases eb : ys[j]? with
      | none => rw [ea, eb] at e2; exact no e2
      | some b =>
        rw [ea, eb] at e2
        cases e2
        obtain ⟨u, k1, k2⟩ := r1.get ea
        obtain ⟨u', k3, k4⟩ := r2.get eb
        cases (Array.getElem?_toList.symm.trans k1).symm.trans (hv false)
        cases (Array.getElem?_toList.symm.trans k3).symm.trans (hv true)
        exact rep_mk (items := [_, _]) ⟨_, _, 0, rfl, hF T _ hN hpair, rfl, rfl⟩ (.cons k2 (.cons k4 .nil))
end
section
variable {c : Lc} {va : Value} {a : V} {xs : List V}
theorem post_kept {b : Addr} {o : AObj} {s' : Shared} {Q : V → St → Prop} (k : ∀ b o, c.s.heap.get? b = some o → s'.heap.get? b = some o) (sm : Same c.s s') (hn : c.s.heap.get? b = none) (h3 : @LT.lt Nat _ 3 b) (hl : o.live = true) (hx : ∃ x, s'.heap.get? b = some x)
    (hr : (∀ d x, c.F d x → vwOf X c.R (c.ρ ++ [b]) (c.st.objs ++ [o]) s'.heap d x) → ObjRep X.w.params c.R.src c.R.xa (c.ρ ++ [b]) (vwOf X c.R (c.ρ ++ [b]) (c.st.objs ++ [o]) s'.heap) s'.heap b o) (q : newObjK o c.st Q) : c.post Q (.ref b) s' :=
  have S := c.S.newObj2 k hn h3 hl hx hr
  ⟨.obj c.st.objs.length, { c.st with objs := c.st.objs ++ [o] }, c.ρ ++ [b], S.1, ⟨S.2, pre_app, sm⟩, ⟨b, rfl, by rw [c.S.len]; exact List.getElem?_concat_length⟩, q⟩
theorem new_seen {b T : Addr} {o : AObj} {x : Obj} {h' : Heap} (hl : o.live = true) (hn : c.s.heap.get? T = none) (ne : T ≠ b) (e : h'.get? T = some x) : vwOf X c.R (c.ρ ++ [b]) (c.st.objs ++ [o]) h' T x :=
  ⟨fun m => (List.mem_append.mp m).elim (fun m => ((own_new hl c.S.len).mp m).elim (fun m => c.S.noneOff hn (List.mem_append_left _ m)) ne) fun m => c.S.noneOff hn (List.mem_append_right _ m), e⟩
theorem sq_at (r : c.rep va a) (ex : itemsOf c.st a = some xs) : ∃ k l items, va = .ref l ∧ IsSq k c.s.heap l (List.toArray items) ∧ c.reps items xs := by
  obtain ⟨l, items, rfl, rr, hh⟩ := items_at c.S r ex
  rcases hh with ⟨_, hh⟩ | ⟨_, hh, _⟩
  · exact ⟨true, l, items, rfl, hh, rr⟩
  · exact ⟨false, l, items, rfl, hh, rr⟩
end
section
variable {G : Gx} {zx lx : Str} {zp lp p1 p2 : Pos} {a b : Expr} {pa pb : PE}
theorem zip_arg {c : Lc} (ic : c.In G) (bz : BltIs X G.sc zx (.type "zip")) (ha : SE G a pa) (hb : SE G b pb) {Q : List V → List V → St → Prop} {E : Bool → St → Prop} (h : gE G.P pa c.st (fun x st1 => gE G.P pb st1 (fun y st2 => optK (itemsOf st2 x) fun xs => optK (itemsOf st2 y) fun ys => Q xs ys st2) E) E) {k : Value → Shared → Prop}
    (hk : ∀ (p : Pt c.R) (w : Zp) xs ys h', c.to p → w.n = p.s.heap.objs.size → (c.mv p).reps (w.xs false).toList xs → (c.mv p).reps (w.xs true).toList ys → ZAt w .none false (fun _ => 0) (fun _ => .none) h' → (∀ d o, p.s.heap.get? d = some o → h'.get? d = some o) → Q xs ys p.st → k (.ref w.z) { p.s with heap := h' }) :
    c.go E (eval (.Call (.Name zx zp) [a, b] [] p2) c.R.env) k c.s :=
  call_name (name_blt ic bz (PySem.callWith_type (by rw [ha.ns, hb.ns]; rfl) (args_run (.inr ⟨a, [b], rfl, ha.ns _⟩) (wpAny_items_cons (Lc.seq0 (ha.run c ic _ _ h) fun va da p g r1 q1 => wpAny_items_cons (Lc.seq (hb.run (c.mv p) ic _ _ q1) g fun vb db p2 g2 g2' r2 q2 => wpAny_items_nil (by
    obtain ⟨xs, exs, h1⟩ := optK_iff q2
    obtain ⟨ys, eys, h2⟩ := optK_iff h1
    obtain ⟨k1, l1, items1, rfl, hl1, rr1⟩ := sq_at (c := c.mv p2) (g2'.rep r1) exs
    obtain ⟨k2, l2, items2, rfl, hl2, rr2⟩ := sq_at (c := c.mv p2) r2 eys
    let pick : ∀ {α : Type}, α → α → Bool → α := fun x y j => match j with | true => y | false => x
    exact zip_call (kd := pick k1 k2) (l := pick l1 l2) (xs := pick items1.toArray items2.toArray) (fun j => by cases j; exact hl1; exact hl2) fun h' Z kk => hk p2 ⟨_, pick k1 k2, pick l1 l2, pick items1.toArray items2.toArray⟩ xs ys h' g2 rfl rr1 rr2 Z kk h2)) (hb.ns _ _)) (ha.ns _ _)))))
theorem se_lzip (bl : BltIs X G.sc lx (.type "list")) (bz : BltIs X G.sc zx (.type "zip")) (ha : SE G a pa) (hb : SE G b pb) : SE G (.Call (.Name lx lp) [.Call (.Name zx zp) [a, b] [] p2] [] p1) (.lzip pa pb) := ⟨fun _ _ => rfl, fun c ic Q E h =>
  call_name (name_blt ic bl (PySem.callWith_type rfl (args_run (.inr ⟨_, [], rfl, fun _ => rfl⟩) (wpAny_items_cons (zip_arg ic bz ha hb (Q := fun xs ys st2 => small (len' xs + len' ys) (newObjK (.list (zipV xs ys)) st2 Q)) h fun p w xs ys h' g hw r1 r2 Z kk q => wpAny_items_nil (by
    obtain ⟨hz, hq⟩ := small_iff q
    have sz : (w.xs false).size ≤ 100000 := by rw [← Array.length_toList, r1.length, ← len'_eq]; exact Nat.le_trans (Nat.le_add_right _ _) hz
    refine list_zip (s := { p.s with heap := h' }) c.hA.hn sz Z fun h2 acc n off hS hp hj => Post.trans g _ _ ?_
    have lt : @LT.lt Nat _ p.s.heap.objs.size h'.objs.size := hw ▸ Nat.lt_of_le_of_lt (Nat.le_add_right _ _) (Heap.lt_size Z.z)
    have hn : ∀ {T : Addr}, @LE.le Nat _ h'.objs.size T → p.s.heap.get? T = none := fun hT => Heap.get?_none_of_le (Nat.le_trans (Nat.le_of_lt lt) hT)
    exact post_kept (c := c.mv p) (o := .list (zipV xs ys)) (s' := { p.s with heap := h2 }) (fun b o e => off b o (.inl (hw ▸ Heap.lt_size e)) (kk b o e)) ⟨rfl, rfl, rfl⟩ (hn (Nat.le_refl _)) (Nat.lt_trans p.S.size3 lt) rfl ⟨_, hS⟩
      (fun hF => ⟨acc.toList, n, hS, pas_reps hp hj (r1.mono pre_app hF) (r2.mono pre_app hF) fun T o hN e => new_seen (c := c.mv p) rfl (hn (Nat.le_of_succ_le hN)) (Nat.ne_of_gt hN) e⟩) hq)) rfl))))⟩
end
end Mine
namespace Mine
open PySem PySem.W PyProof.Rows PySem.Calls PySem.Spec
section
variable {prog : Program} {w : World} {A : Around} {s : Shared} {Ev : Value → Shared → Prop} {src xa : Option Addr} {ρ : List Addr} {F : Vw}
theorem keysOf_rep {es : List DictEntry} {kvs : List (D × V)} (rk : RepK w.params src xa ρ F es kvs) (ha : allStrK kvs = true) : KeysOf (strKind prog w) es.toArray := fun en hen => by
  obtain ⟨y, u, g1, g2⟩ := rk.keys ha en (Array.mem_toList_iff.mpr hen)
  exact ⟨y, by rw [g1]; exact strKind_is _ _ _ _, g2⟩
theorem dictSet_str {d : Addr} {es : List DictEntry} {n : Nat} {x : Str} {t : Tok} {v : Value} {Q : Unit → Shared → Prop} (ho : s.heap.get? d = some (dictOf es n)) (hk : KeysOf (strKind prog w) es.toArray) (hz : es.length ≤ 100000)
    (hQ : ∀ h' n', h'.get? d = some (dictOf (putL x (PyData.keyHash w.params x) (.str x t) v es) n') → Heap.SameBut d s.heap h' → Q () { s with heap := h', toks := s.toks + 1 }) :
    wpAny (model prog w) A (dictSet d (.str x t) v) Q Ev s := by
  have hkey := strKind_is prog w x t
  unfold dictSet
  refine wpAny_holding (wpAny_bind ((strKind prog w).pyHash hkey ?_))
  unfold dictSetHashed
  refine wpAny_holding (wpAny_bind (wpAny_dictFind_of (s := { s with toks := s.toks + 1 }) hkey ho rfl hk ?_))
  have pf := putL_find x (PyData.keyHash w.params x) (.str x t) v es
  rw [show (fun e : DictEntry => (strKind prog w).is x e.key) = (fun e => e.key.isStr x) from funext fun e => isStr_of _ _, List.findIdx?_toArray]
  cases hi : es.findIdx? (fun e => e.key.isStr x) with
  | some i =>
    rw [hi] at pf
    refine wpAny_bind (wpAny_rule (wpAny_bind (wpAny_updateDict (s := { s with toks := s.toks + 1 }) ho rfl (wpAny_point (hQ _ n ?_ (Heap.SameBut.update ..))))))
    refine (Heap.get?_update_self _ ho rfl).trans ?_
    rw [← pf]
    simp [Obj.mapDict]
  | none =>
    rw [hi] at pf
    refine wpAny_bind (wpAny_rule (wpAny_updateDictKeys (hz := by rw [List.size_toArray]; exact Nat.le_trans hz (by decide)) (s := { s with toks := s.toks + 1 }) ho rfl (hQ _ (n + 1) ?_ (Heap.SameBut.update ..))))
    refine (Heap.get?_update_self _ ho rfl).trans ?_
    rw [← pf]
    simp [Obj.mapDictKeys]
    rfl
theorem allStrK_put {k : D} {v : V} (hk : isStrD k = true) {kvs : List (D × V)} : allStrK kvs = true → allStrK (putK kvs k v) = true := by
  have cons : ∀ {k' : D} {v' : V} {r : List (D × V)}, isStrD k' = true → allStrK r = true → allStrK ((k', v') :: r) = true := fun {k' v' r} q h => by
    show (match isStrD k' with | true => allStrK r | false => false) = true
    rw [q]; exact h
  induction kvs with
  | nil => exact fun _ => cons hk rfl
  | cons p r ih =>
    obtain ⟨k', v'⟩ := p
    intro h
    have h' := allStrK_cons h
    have q : isStrD k' = true := h'.1.elim fun cs e => e ▸ rfl
    show allStrK (match dbeq k' k with | true => (k', v) :: r | false => (k', v') :: putK r k v) = true
    cases dbeq k' k with
    | true => exact cons q h'.2
    | false => exact cons q (ih h'.2)
noncomputable def KVs (r : Value → V → Prop) : List D → List (Value × Value) → List V → Prop
  | [], kvs, ds => kvs = [] ∧ ds = []
  | k :: ks, kvs, ds => ∃ x t v kv' d ds', kvs = (.str x t, v) :: kv' ∧ ds = d :: ds' ∧ k = .str x.cps.toList ∧ r v d ∧ KVs r ks kv' ds'
theorem store_all {d : Addr} {ks : List D} : ∀ {kvs : List (Value × Value)} {ds : List V} {acc out : List (D × V)} {s : Shared} {es : List DictEntry} {n : Nat} {Q : PUnit → Shared → Prop},
    KVs (Rep w.params src xa ρ F) ks kvs ds → dispK ks ds acc = some out → s.heap.get? d = some (dictOf es n) → RepK w.params src xa ρ F es acc → allStrK acc = true → es.length + ks.length ≤ 100000 →
    (∀ h' es' n' tk, h'.get? d = some (dictOf es' n') → RepK w.params src xa ρ F es' out → Heap.SameBut d s.heap h' → Q ⟨⟩ { s with heap := h', toks := tk }) →
    wpAny (model prog w) A (forIn kvs (⟨⟩ : PUnit) fun (x : Value × Value) (_ : PUnit) => (do dictSet d x.1 x.2; pure (ForInStep.yield ⟨⟩) : Sem (ForInStep PUnit))) Q Ev s := by
  induction ks with
  | nil =>
    rintro _ _ acc out s es n Q ⟨rfl, rfl⟩ e ho rk ha hl hQ
    cases e
    exact wpAny_pure (hQ s.heap es n s.toks ho rk ⟨rfl, fun _ _ => rfl⟩)
  | cons k ks ih =>
    rintro _ _ acc out s es n Q ⟨x, t, v, kv', dv, ds', rfl, rfl, rfl, h2, h3⟩ e ho rk ha hl hQ
    rw [List.forIn_cons]
    have hl' : (putL x (PyData.keyHash w.params x) (.str x t) v es).length + ks.length ≤ 100000 := Nat.le_trans (Nat.add_le_add_right (putL_len x (PyData.keyHash w.params x) (.str x t) v es) _) (by rw [Nat.add_assoc, Nat.add_comm 1]; exact hl)
    exact wpAny_bind (wpAny_bind (dictSet_str ho (keysOf_rep rk ha) (Nat.le_trans (Nat.le_add_right _ _) hl) fun h' n' D hs => wpAny_pure
      (ih (s := { s with heap := h', toks := s.toks + 1 }) h3 e D (rk.put h2 x t ha) (allStrK_put rfl ha) hl' fun h2 es2 n2 tk D2 rk2 hs2 => hQ h2 es2 n2 tk D2 rk2 (hs.trans hs2))))
end
section
variable {G : Gx} {keys : List (Option Expr)} {vals : List Expr} {ks : List D} {pos kp : Pos} {pe : PE} {pes : PEs}
noncomputable def SDs (G : Gx) (keys : List (Option Expr)) (vals : List Expr) (ks : List D) (pes : PEs) : Prop :=
  ∀ c : Lc, c.In G → ∀ pos Q E, gEs G.P pes c.st Q E → c.W (fun r => KVs r ks) (evalPairs (pairTrees keys vals c.R.env pos)) Q E
theorem sds_nil : SDs G [] [] [] .nil := fun c _ _ Q E h => pairTrees_nil_walk (Lc.done (p := c.pt) (rel := fun r => KVs r []) (d := []) Lc.self ⟨rfl, rfl⟩ h)
theorem sds_cons {x : Str} {k : Nat} {v : Expr} (he : SE G v pe) (hr : SDs G keys vals ks pes) : SDs G (some (.Constant (.str x) k kp) :: keys) (v :: vals) (.str x.cps.toList :: ks) (.cons pe pes) := fun c ic pos Q E h =>
  pairTrees_cons_walk (wpAny_Constant_str (Lc.seq (p := c.pt.tk (c.s.toks + 1)) (he.run (c.mv (c.pt.tk (c.s.toks + 1))) ic _ _ h) (Lc.tk (p := c.pt) Lc.self _) fun vv dv p g g' r1 q1 => Lc.seq (hr (c.mv p) ic pos _ _ q1) g fun kvs ds p2 g2 g2' r2 q2 =>
    Lc.done (rel := fun r => KVs r (.str x.cps.toList :: ks)) (d := dv :: ds) g2 ⟨x, _, vv, kvs, dv, ds, rfl, rfl, rfl, g2'.rep r1, r2⟩ q2))
theorem empty_inv {o : AObj} (h : emptyD o = true) : o = .dict [] := by
  cases o with
  | dict kvs => cases kvs with
    | nil => rfl
    | cons _ _ => exact absurd h nofun
  | _ => exact absurd h nofun
noncomputable abbrev Lc.newD (c : Lc) : Pt c.R := ⟨{ c.s with heap := c.s.heap.push emptyDict }, c.ρ ++ [c.s.heap.objs.size], { c.st with objs := c.st.objs ++ [.dict []] },
  c.S.newObj (fun b o e => Heap.get?_push_of_some _ e) (fresh_at _) c.S.size3 rfl ⟨_, Heap.get?_push_size _ rfl⟩ ⟨[], 0, Heap.get?_push_size _ rfl, rfl⟩⟩
theorem Lc.newD_go {c : Lc} : c.to c.newD := Go.newObj (s' := c.newD.s) c.S (fun b o e => Heap.get?_push_of_some _ e) ⟨rfl, rfl, rfl⟩ (fresh_at _) rfl
theorem Lc.newD_at {c : Lc} : c.newD.ρ[c.st.objs.length]? = some c.s.heap.objs.size := by rw [c.S.len]; exact List.getElem?_concat_length
theorem se_dct {a : Option Expr} (h0 : SDs G (a :: keys) vals ks pes) (hall : (a :: keys).all (·.isSome) = true) (hl : (a :: keys).length = vals.length) (hlen : (a :: keys).length ≤ 15) (hkl : ks.length ≤ 15) : SE G (.Dict (a :: keys) vals pos) (.dct ks pes) := ⟨fun _ _ => rfl, fun c ic Q E h => by
  have hn2 := pairTrees_length (a :: keys) vals c.R.env pos hall hl
  rw [arm_eval_Dict, zip_pairTrees (a :: keys) vals c.R.env pos hall hl, dictDisplay_pairs _ (by intro he; rw [he] at hn2; exact nomatch hn2) (by rw [hn2]; exact Nat.lt_of_le_of_lt hlen (by decide))]
  refine wpAny_bind (wpAny_standAt (wpAny_bind ?_))
  unfold subDict
  refine wpAny_bind (wpAny_alloc (wpAny_bind (wpAny_holding ?_)))
  rw [if_pos (by rw [hn2]; exact Nat.le_trans hlen (by decide))]
  refine wpAny_bind (Lc.seq (p := c.newD) (h0 (c.mv c.newD) ic pos _ _ h) Lc.newD_go fun kvs ds p g g' r q => ?_)
  obtain ⟨ob, eo, q3⟩ := optK_iff q
  obtain ⟨he, q4⟩ := ifT_iff q3
  obtain ⟨out, ek, q5⟩ := optK_iff q4
  cases empty_inv he
  have eo' : p.st.objs[c.st.objs.length]? = some (.dict []) := nth_eq p.st.objs c.st.objs.length ▸ eo
  have hρ := g'.pre _ _ Lc.newD_at
  obtain ⟨b, hb, es, n, ho, rk⟩ := p.S.objs _ _ eo'
  cases hb.symm.trans hρ
  cases rk
  refine wpAny_holding (wpAny_bind (store_all (F := (c.mv p).F) r ek ho (.nil : RepK _ _ _ _ _ [] []) rfl (by show 0 + ks.length ≤ _; rw [Nat.zero_add]; exact Nat.le_trans hkl (by decide)) fun h' es' n' tk D rk' hs => wpAny_pure (wpAny_pure (wpAny_pure ?_))))
  have q' : Q (.obj c.st.objs.length) { p.st with objs := p.st.objs.set c.st.objs.length (.dict out) } := putAt_eq p.st.objs _ _ ▸ q5
  have hm : c.s.heap.objs.size ∈ ownOf X c.R p.ρ p.st.objs := mem_own.mpr (.inr (.inr (.inr (mem_liveA.mpr ⟨_, hρ, _, eo', rfl⟩))))
  exact ⟨.obj c.st.objs.length, _, p.ρ, p.S.setObj (o' := .dict out) eo' hρ rfl rfl hs ⟨_, D⟩ ⟨es', n', D, rk'⟩, g.trans (Go.at (s' := { p.s with heap := h', toks := tk }) hm hs (liveA_set rfl rfl eo') ⟨rfl, rfl, rfl⟩), ⟨_, rfl, hρ⟩, q'⟩⟩
theorem se_dct0 : SE G (.Dict [] [] pos) (.dct [] .nil) := ⟨fun _ _ => rfl, fun c ic Q E h => by
  have e : nth (c.st.objs ++ [AObj.dict []]) c.st.objs.length = some (.dict []) := (nth_eq _ _).trans List.getElem?_concat_length
  obtain ⟨ob, eo, q⟩ := optK_iff (show optK (nth (c.st.objs ++ [AObj.dict []]) c.st.objs.length) _ from h)
  cases e.symm.trans eo
  have q' : Q (.obj c.st.objs.length) { c.st with objs := putAt (c.st.objs ++ [.dict []]) c.st.objs.length (.dict []) } := q
  rw [putAt_eq, show (c.st.objs ++ [AObj.dict []]).set c.st.objs.length (.dict []) = c.st.objs ++ [AObj.dict []] by rw [List.set_append_right _ _ (Nat.le_refl _), Nat.sub_self]; rfl] at q'
  exact wpAny_Dict_empty ⟨.obj c.st.objs.length, _, c.newD.ρ, c.newD.S, Lc.newD_go, ⟨_, rfl, Lc.newD_at⟩, q'⟩⟩
end
end Mine
namespace Mine
open PySem PySem.W PyProof.Rows PySem.Calls PySem.Spec
theorem zip_no_keys : typeLookup (.type "zip") "keys" = pure none := by rw [typeLookup_type, builtinLookup_eq_fast]; kernel_rfl
theorem zip_no_ga : typeLookup (.type "zip") "__getattr__" = pure none := by rw [typeLookup_type, builtinLookup_eq_fast]; kernel_rfl
theorem entry_zip_ga : entryFor table "zip.__getattribute__" = some Builtin.«object.__getattribute__» :=
  entryFor_alias (id' := "object.__getattribute__") (by kernel_rfl) (by decide +kernel) (by decide +kernel) (by kernel_rfl)
theorem zip_ga_miss (a : Addr) (vs : Array Value) (u : Tok) :
    Meets (Builtin.«object.__getattribute__» ⟨[.ref a, .str "keys" u], []⟩) (fun A R s => s.heap.get? a = some { cls := .type "zip", dict := none, data := .fields vs, slots := #[] } ∧ raisesAttr (.ref a) "keys" A R s) :=
  Meets.of_wp fun prog w A R s hs => by
    obtain ⟨hp, g, d, tk, os⟩ := s
    obtain ⟨hx, hs⟩ := hs
    have hT : (⟨hp, g, d, tk, os⟩ : Shared).TypeIs (.ref a) "zip" := ⟨_, hx, rfl⟩
    have hmiss := zip_no_keys
    unfold Builtin.«object.__getattribute__»
    repeat (any_goals (first | assumption | wp_step))
    exact wpAny_raiseAttrError hs.1 hs.2 (attrMsg_fits (by decide +kernel) (by decide))
section
variable {prog : Program} {W : World} {A : Around} {E : Value → Shared → Prop} {s : Shared}
theorem zip_keys {a : Addr} {vs : Array Value} {Q : Option Value → Shared → Prop} (hx : s.heap.get? a = some { cls := .type "zip", dict := none, data := .fields vs, slots := #[] }) (hA : A.handled = none)
    (h : ∀ h' tk, (∀ b o, s.heap.get? b = some o → h'.get? b = some o) → Q none { s with heap := h', toks := tk }) : wpAny (model prog W) A (getAttr? (.ref a) "keys") Q E s := by
  obtain ⟨hp, g, d, tk, os⟩ := s
  have hT : ∀ tk', (⟨hp, g, d, tk', os⟩ : Shared).TypeIs (.ref a) "zip" := fun _ => ⟨_, hx, rfl⟩
  have f1 := sub_AttributeError
  have f3 := F.slot_zip_getattribute.lookup
  have f4 := F.slot_zip_getattribute.bind (.ref a)
  unfold getAttr? getAttrBy? getAttrBy
  repeat (any_goals (first | assumption | exact hT _ | ((with_reducible show wpAny _ _ (call (Value.builtin "zip.__getattribute__") _ _) _ _ _); refine call_meets F.slot_zip_getattribute (hT _) entry_zip_ga (F.args_zip_getattribute_2 _ _) (zip_ga_miss a vs _) ⟨hx, hA, fun h' tk' e hx' => ?_⟩) | wp_step))
  obtain ⟨t', u', he⟩ := hx'.there
  show wpAny _ _ (getattributeRaised _ _ _ _ _ _ _) _ _ _
  unfold getattributeRaised
  repeat (any_goals (first | assumption | wp_step))
  show wpAny _ _ (typeLookup (.type "zip") "__getattr__") _ _ _
  refine wpAny_of_eq zip_no_ga ?_
  repeat (any_goals (first | assumption | wp_step))
  exact h h' tk' hx'.keeps
end
theorem entry_upd_loop : entryFor table "dict.update.loop" = some Builtin.«dict.update.loop» := entryFor_of_tree (by kernel_rfl)
theorem plain_upd_loop : plainId "dict.update.loop" = true := by decide +kernel
theorem disp_end {ds : List D} {vs : List V} {acc out : List (D × V)} (h : ds = [] ∨ vs = []) (e : dispK ds vs acc = some out) : acc = out := by
  rcases h with rfl | rfl
  · exact Option.some.inj e
  · cases ds <;> exact Option.some.inj e
section
variable {prog : Program} {W : World} {A : Around} {E : Value → Shared → Prop} {s : Shared} {w : Zp} {src xa : Option Addr} {ρ : List Addr} {F : Vw} {ds : List D} {vs : List V} {out : List (D × V)}
theorem disp_step {m : Nat} {acc : List (D × V)} (rx : DReps W.params src F (w.xs false).toList ds) (ry : Reps W.params src xa ρ F (w.xs true).toList vs) (hv : ∀ k, (w.xs k)[m]? = some (w.val m k)) (hd : dispK (ds.drop m) (vs.drop m) acc = some out) :
    ∃ x t d, w.val m false = .str x t ∧ Rep W.params src xa ρ F (w.val m true) d ∧ dispK (ds.drop (m + 1)) (vs.drop (m + 1)) (putK acc (.str x.cps.toList) d) = some out := by
  have h1 : m < ds.length := by rw [← rx.length, Array.length_toList]; exact (Array.getElem?_eq_some_iff.mp (hv false)).1
  have h2 : m < vs.length := by rw [← ry.length, Array.length_toList]; exact (Array.getElem?_eq_some_iff.mp (hv true)).1
  obtain ⟨v, k1, k2⟩ := rx.get (List.getElem?_eq_getElem h1)
  obtain ⟨u, k3, k4⟩ := ry.get (List.getElem?_eq_getElem h2)
  cases (Array.getElem?_toList.symm.trans k1).symm.trans (hv false)
  cases (Array.getElem?_toList.symm.trans k3).symm.trans (hv true)
  rw [List.drop_eq_getElem_cons h1, List.drop_eq_getElem_cons h2] at hd
  have hd' : (match isStrD ds[m] with | true => dispK (ds.drop (m + 1)) (vs.drop (m + 1)) (putK acc ds[m] vs[m]) | false => none) = some out := hd
  clear hd
  generalize ds[m] = dk at k2 hd'
  cases dk with
  | str cs => obtain ⟨x, t, e, rfl⟩ := k2; exact ⟨x, t, _, e, k4, hd'⟩
  | _ => exact no hd'
theorem update_loop {R : Result → Shared → Prop} {D0 : Addr} (hh : A.handled = none) (zS : @LT.lt Nat _ (w.n + 4) D0) (hsz : (w.xs false).size ≤ 100000) (rx : DReps W.params src F (w.xs false).toList ds) (ry : Reps W.params src xa ρ F (w.xs true).toList vs) (k : Nat) :
    ∀ (m : Nat) (s : Shared) (es : List DictEntry) (n : Nat) (acc : List (D × V)), (w.xs false).size ≤ m + k → ZHold w m s.heap → s.heap.get? D0 = some (dictOf es n) → RepK W.params src xa ρ F es acc → allStrK acc = true → es.length ≤ m → dispK (ds.drop m) (vs.drop m) acc = some out →
    (∀ h' tk es' n', (∀ b o, b ≠ D0 → w.Out b → s.heap.get? b = some o → h'.get? b = some o) → h'.get? D0 = some (dictOf es' n') → RepK W.params src xa ρ F es' out → R (.ok (.ret .none)) { s with heap := h', toks := tk }) →
    codeAny (model prog W) A (.builtin "dict.update.loop" ⟨[.ref D0, .ref w.z, rawInt m, .none], []⟩) R s := by
  have stop : ∀ {m : Nat} {acc : List (D × V)}, (∃ j, (w.xs j)[m]? = none) → dispK (ds.drop m) (vs.drop m) acc = some out → acc = out := fun hj => hj.elim fun j e => by
    have e := Array.getElem?_eq_none_iff.mp e
    refine disp_end ?_
    cases j with
    | false => exact .inl (List.drop_eq_nil_of_le (by rw [← rx.length, Array.length_toList]; exact e))
    | true => exact .inr (List.drop_eq_nil_of_le (by rw [← ry.length, Array.length_toList]; exact e))
  induction k with
  | zero =>
    intro m s es n acc hk H hS rk ha hl hd hR
    refine codeAny_builtin entry_upd_loop ?_
    rw [Around.under_plainId plain_upd_loop _]
    show wpAny _ A.in1 (pyNext (.ref w.z) >>= _) _ _ s
    exact wpAny_bind (hold_next (A := A.in1) hh H (fun h' hv => absurd (Array.getElem?_eq_some_iff.mp (hv false)).1 (Nat.not_lt.mpr hk)) fun hj h' k => wpAny_bind (wpAny_pure (wpAny_pure (hR h' s.toks es n (fun b o _ ob e => k b o ob e) (k _ _ (.inr zS) hS) (stop hj hd ▸ rk)))))
  | succ k ih =>
    intro m s es n acc hk H hS rk ha hl hd hR
    refine codeAny_builtin entry_upd_loop ?_
    rw [Around.under_plainId plain_upd_loop _]
    show wpAny _ A.in1 (pyNext (.ref w.z) >>= _) _ _ s
    refine wpAny_bind (hold_next (A := A.in1) hh H (fun h' hv H' hpair kk => ?_) fun hj h' k => wpAny_bind (wpAny_pure (wpAny_pure (hR h' s.toks es n (fun b o _ ob e => k b o ob e) (k _ _ (.inr zS) hS) (stop hj hd ▸ rk)))))
    obtain ⟨x, t, dv, ex, rv, hd'⟩ := disp_step rx ry hv hd
    have hlt : m < 100000 := Nat.lt_of_lt_of_le (Array.getElem?_eq_some_iff.mp (hv false)).1 hsz
    have hl' := Nat.le_trans (putL_len x (PyData.keyHash W.params x) (.str x t) (w.val m true) es) (Nat.succ_le_succ hl)
    refine wpAny_bind (wpAny_holding (wpAny_bind (wpAny_tryCatch ?_)))
    unfold Builtin.Dict.pairItems
    refine wpAny_bind (wpAny_typeOf (T := "tuple") ⟨_, hpair, rfl⟩ ?_)
    rw [if_pos (by decide)]
    refine wpAny_bind (wpAny_seqItems hpair rfl (wpAny_pure ?_))
    rw [ex]
    show wpAny _ _ (holding [Value.str x t, w.val m true] (dictSet D0 (.str x t) (w.val m true))) _ _ _
    refine wpAny_holding (dictSet_str (s := { s with heap := h' }) (kk _ _ (.inr zS) hS) (keysOf_rep rk ha) (Nat.le_trans hl (Nat.le_of_lt hlt)) fun h2 n2 hD2 hs2 => wpAny_pure ⟨plainId_quiet plain_upd_loop _, ?_⟩)
    have up : ∀ {b o}, b ≠ D0 → h'.get? b = some o → h2.get? b = some o := fun n e => (hs2.2 _ n).trans e
    exact ih (m + 1) { s with heap := h2, toks := s.toks + 1 } _ n2 (putK acc (.str x.cps.toList) dv) (by rw [Nat.add_assoc, Nat.add_comm 1]; exact hk) (H'.stay (fun b o m e => up (H'.not_own m zS) e) fun b he => (Classical.em (b = D0)).elim (fun q => q ▸ ⟨_, hD2⟩) fun q => he.imp fun o e => up q e) hD2 (rk.put rv x t ha) (allStrK_put rfl ha) hl' hd'
      fun h3 tk es' n' k3 => hR h3 tk es' n' fun b o b1 ob e => k3 b o b1 ob (up b1 (kk b o ob e))
end
end Mine
namespace Mine
open PySem PySem.W PyProof.Rows PySem.Calls PySem.Spec
section
variable {prog : Program} {W : World} {A : Around} {E : Value → Shared → Prop} {s : Shared} {w : Zp} {src xa : Option Addr} {ρ : List Addr} {F : Vw} {ds : List D} {vs : List V} {out : List (D × V)}
theorem dict_zip {a : Bool → Value} {Q : Value → Shared → Prop} (hh : A.handled = none) (hsz : (w.xs false).size ≤ 100000) (rx : DReps W.params src F (w.xs false).toList ds) (ry : Reps W.params src xa ρ F (w.xs true).toList vs) (Z : ZAt w .none false (fun _ => 0) a s.heap) (hd : dispK ds vs [] = some out)
    (hQ : ∀ h' tk es n, w.Off s.heap h' → h'.get? s.heap.objs.size = some (dictOf es n) → RepK W.params src xa ρ F es out → Q (.ref s.heap.objs.size) { s with heap := h', toks := tk }) : wpAny (model prog W) A (call (.type "dict") [.ref w.z]) Q E s := by
  refine callType_codes (Q₁ := fun obj s₁ => obj = .ref s.heap.objs.size ∧ s₁ = { s with heap := s.heap.push { cls := .type "dict", data := .dict #[] } }) PySem.F.kt_called_dict (PySem.F.kt_typeCall_dict_1 _) PySem.F.entry_dict_init (kt_code_dict_new _ ⟨rfl, rfl⟩) fun obj s₁ h₁ => ?_
  obtain ⟨rfl, rfl⟩ := h₁
  have hS : (s.heap.push emptyDict).get? s.heap.objs.size = some (dictOf [] 0) := Heap.get?_push_size _ rfl
  have k1 : ∀ b o, s.heap.get? b = some o → (s.heap.push emptyDict).get? b = some o := fun b o e => Heap.get?_push_of_some _ e
  refine ⟨⟨_, hS, rfl⟩, PySem.F.args_dict_init_2 _ _, ?_⟩
  unfold Builtin.«dict.__init__»
  refine wpAny_bind ?_
  unfold Builtin.Dict.selfAndRest
  refine wpAny_bind (wpAny_notOrdered_dict ⟨_, hS, rfl⟩ ?_)
  show wpAny _ _ (pure (s.heap.objs.size, [Value.ref w.z])) _ _ _
  refine wpAny_pure ?_
  show wpAny _ _ (Builtin.Dict.updateFrom "dict.__init__" s.heap.objs.size (.ref w.z) [] .none) _ _ _
  unfold Builtin.Dict.updateFrom
  refine wpAny_bind (wpAny_typeOf (T := "zip") ⟨_, k1 _ _ Z.z, rfl⟩ ?_)
  rw [if_pos (by decide)]
  refine wpAny_bind (zip_keys (s := { s with heap := s.heap.push emptyDict }) (k1 _ _ Z.z) hh fun h1 tk1 kk1 => ?_)
  refine wpAny_bind (wpAny_rule (wpAny_bind (wpAny_pyIter_zip (kk1 _ _ (k1 _ _ Z.z)) (wpAny_pure ⟨plainId_quiet plain_upd_loop _, ?_⟩))))
  have kk : ∀ b o, s.heap.get? b = some o → h1.get? b = some o := fun b o e => kk1 b o (k1 b o e)
  exact update_loop (A := A.in1) (s := { s with heap := h1, toks := tk1 }) hh (Heap.lt_size Z.z) hsz rx ry _ 0 [] 0 [] (Nat.le_add_left _ _) (.free a (Z.keep fun b o _ e => kk b o e)) (kk1 _ _ hS) rfl rfl (Nat.le_refl _) hd fun h' tk es n k3 hD rk => ⟨rfl, hQ h' tk es n (fun b o ob e => k3 b o (Nat.ne_of_lt (Heap.lt_size e)) ob (kk b o e)) hD rk⟩
end
section
variable {G : Gx} {zx lx : Str} {zp lp p1 p2 : Pos} {a b : Expr} {pa pb : PE}
theorem se_dzip (bl : BltIs X G.sc lx (.type "dict")) (bz : BltIs X G.sc zx (.type "zip")) (ha : SE G a pa) (hb : SE G b pb) : SE G (.Call (.Name lx lp) [.Call (.Name zx zp) [a, b] [] p2] [] p1) (.dzip pa pb) := ⟨fun _ _ => rfl, fun c ic Q E h =>
  call_name (name_blt ic bl (PySem.callWith_type rfl (args_run (.inr ⟨_, [], rfl, fun _ => rfl⟩) (wpAny_items_cons (zip_arg ic bz ha hb (Q := fun xs ys st2 => optK (allDat xs) fun ds => optK (dispK ds ys []) fun kvs => small (len' xs + len' ys) (newObjK (.dict kvs) st2 Q)) h fun p w xs ys h' g hw r1 r2 Z kk q => wpAny_items_nil (by
    obtain ⟨ds, e1, q⟩ := optK_iff q
    obtain ⟨kvs, e2, q⟩ := optK_iff q
    obtain ⟨hz, hq⟩ := small_iff q
    have sz : (w.xs false).size ≤ 100000 := by rw [← Array.length_toList, r1.length, ← len'_eq]; exact Nat.le_trans (Nat.le_add_right _ _) hz
    refine dict_zip (s := { p.s with heap := h' }) c.hA.hn sz (Reps.dats (allDat_eq e1 ▸ r1)) r2 Z e2 fun h2 tk es n off hS rk => Post.trans g _ _ ?_
    have lt : @LT.lt Nat _ p.s.heap.objs.size h'.objs.size := hw ▸ Nat.lt_of_le_of_lt (Nat.le_add_right _ _) (Heap.lt_size Z.z)
    exact post_kept (c := c.mv p) (o := .dict kvs) (s' := { p.s with heap := h2, toks := tk }) (fun b o e => off b o (.inl (hw ▸ Heap.lt_size e)) (kk b o e)) ⟨rfl, rfl, rfl⟩ (Heap.get?_none_of_le (Nat.le_of_lt lt)) (Nat.lt_trans p.S.size3 lt) rfl ⟨_, hS⟩
      (fun hF => ⟨es, n, hS, rk.mono pre_app hF⟩) hq)) rfl))))⟩
end
end Mine
namespace Mine
open PySem PySem.W PyProof.Rows PySem.Calls PySem.Spec
noncomputable abbrev Le' (a b : List Nat) : Prop := ltCps b a = false
theorem le_iff {a b : List Nat} : Le' a b ↔ a ≤ b := by unfold Le'; rw [ltCps_eq, decide_eq_false_iff_not]; rfl
theorem le_trans' {a b c : List Nat} (h : Le' a b) (k : Le' b c) : Le' a c := le_iff.mpr (List.le_trans (le_iff.mp h) (le_iff.mp k))
theorem insS_perm (x : List Nat) (l : List (List Nat)) : (insS x l).Perm (x :: l) := by
  induction l with
  | nil => exact .refl _
  | cons y r ih =>
    show List.Perm (match ltCps y x with | false => x :: y :: r | true => y :: insS x r) _
    cases ltCps y x with
    | false => exact .refl _
    | true => exact (ih.cons y).trans (.swap x y r)
theorem insS_sorted (x : List Nat) {l : List (List Nat)} : l.Pairwise Le' → (insS x l).Pairwise Le' := by
  induction l with
  | nil => exact fun _ => List.pairwise_singleton _ _
  | cons y r ih =>
    intro h
    obtain ⟨h1, h2⟩ := List.pairwise_cons.mp h
    show List.Pairwise Le' (match ltCps y x with | false => x :: y :: r | true => y :: insS x r)
    cases q : ltCps y x with
    | false => exact List.pairwise_cons.mpr ⟨fun z hz => (List.mem_cons.mp hz).elim (fun e => e ▸ q) fun hz => le_trans' q (h1 z hz), h⟩
    | true =>
      have hyx : Le' y x := le_iff.mpr ((List.le_total y x).elim id fun t => absurd ((le_iff.mpr t).symm.trans q) nofun)
      exact List.pairwise_cons.mpr ⟨fun z hz => (List.mem_cons.mp ((insS_perm x r).mem_iff.mp hz)).elim (fun e => e ▸ hyx) (h1 z), ih h2⟩
theorem srtS_ok (l : List (List Nat)) : (srtS l).Perm l ∧ (srtS l).Pairwise Le' := by
  induction l with
  | nil => exact ⟨.refl _, List.Pairwise.nil⟩
  | cons x r ih => exact ⟨(insS_perm x _).trans (ih.1.cons x), insS_sorted x ih.2⟩
theorem rising_pw {l : List Str} : ∀ {p : Str}, risingS p l = true → (p :: l).Pairwise fun a b => Le' a.cps.toList b.cps.toList := by
  induction l with
  | nil => exact fun _ => List.pairwise_singleton _ _
  | cons x r ih =>
    intro p h
    have h' : (!ltCps x.cps.toList p.cps.toList && risingS x r) = true := h
    rw [Bool.and_eq_true, Bool.not_eq_true'] at h'
    have q := ih h'.2
    exact List.pairwise_cons.mpr ⟨fun z hz => (List.mem_cons.mp hz).elim (fun e => e ▸ h'.1) fun hz => le_trans' h'.1 ((List.pairwise_cons.mp q).1 z hz), q⟩
theorem srt_is {ss ss' : List Str} (hp : ss'.Perm ss) (hs : sortedS ss' = true) : ss'.map (·.cps.toList) = srtS (ss.map (·.cps.toList)) := by
  refine List.Perm.eq_of_pairwise (le := Le') (fun a b _ _ h k => List.le_antisymm (le_iff.mp h) (le_iff.mp k)) ?_ (srtS_ok _).2 ((hp.map _).trans (srtS_ok _).1.symm)
  rw [List.pairwise_map]
  cases ss' with
  | nil => exact List.Pairwise.nil
  | cons x r => exact rising_pw hs
theorem mem_memN {n : List Nat} {l : List (List Nat)} (h : n ∈ l) : memN n l = true := by
  induction l with
  | nil => exact nomatch h
  | cons y t ih =>
    show (match lbeq n y with | true => true | false => memN n t) = true
    cases z : lbeq n y with
    | true => rfl
    | false => exact (List.mem_cons.mp h).elim (fun e => absurd ((lbeq_iff.mpr e).symm.trans z) nofun) ih
theorem nodup_strs {xs : List Str} : nodupN (xs.map (·.cps.toList)) = true → xs.Nodup := by
  induction xs with
  | nil => exact fun _ => List.nodup_nil
  | cons x r ih =>
    intro h
    have h' : (match memN x.cps.toList (r.map (·.cps.toList)) with | true => false | false => nodupN (r.map (·.cps.toList))) = true := h
    cases q : memN x.cps.toList (r.map (·.cps.toList)) with
    | true => rw [q] at h'; exact absurd h' nofun
    | false => rw [q] at h'; exact List.nodup_cons.mpr ⟨fun m => Bool.false_ne_true (q.symm.trans (mem_memN (List.mem_map.mpr ⟨x, m, rfl⟩))), ih h'⟩
section
variable {P : Params} {src xa : Option Addr} {ρ : List Addr} {F : Vw}
theorem strO_of {d : D} {x : List Nat} (e : strO d = some x) : d = .str x := by
  cases d with
  | str _ => exact congrArg _ (Option.some.inj e)
  | _ => exact no e
theorem strOf_of {v : V} {x : List Nat} (e : strOf v = some x) : v = .dat (.str x) := by
  cases v with
  | dat d => cases d with
    | str _ => exact congrArg (fun x => V.dat (D.str x)) (Option.some.inj e)
    | _ => exact no e
  | _ => exact no e
theorem strs_of {xs : List V} : ∀ {vs : List Value} {ks : List (List Nat)}, Reps P src xa ρ F vs xs → strsL xs = some ks → ∃ ss, StrsAre vs ss ∧ ks = ss.map (·.cps.toList) := by
  induction xs with
  | nil => intro vs ks r e; cases r; cases e; exact ⟨[], .nil, rfl⟩
  | cons d ds ih =>
    rintro _ ks ⟨v, vs, rfl, r1, r2⟩ e
    obtain ⟨k, e1, e⟩ := bind_inv e
    obtain ⟨t, e2, rfl⟩ := map_inv e
    obtain ⟨ss, h1, rfl⟩ := ih r2 e2
    rw [strOf_of e1] at r1
    obtain ⟨x, tk, rfl, rfl⟩ := r1
    exact ⟨x :: ss, .cons x tk h1, rfl⟩
theorem strs_rep {ss : List Str} : ∀ {vs : List Value}, StrsAre vs ss → Reps P src xa ρ F vs ((ss.map (·.cps.toList)).map fun s => .dat (.str s)) := by
  induction ss with
  | nil => intro vs h; cases h; rfl
  | cons x ss ih => intro vs h; cases h with | cons _ t h => exact ⟨_, _, rfl, ⟨x, t, rfl, rfl⟩, ih h⟩
theorem strs_get {ys : List Str} : ∀ {vs : List Value}, vs.length = ys.length → (∀ (j : Nat) (v : Value), vs[j]? = some v → ∃ k, ys[j]? = some k ∧ ∃ t, v = .str k t) → StrsAre vs ys := by
  induction ys with
  | nil => intro vs h _; rw [List.eq_nil_of_length_eq_zero h]; exact .nil
  | cons y ys ih =>
    intro vs h k
    cases vs with
    | nil => exact nomatch h
    | cons v vs =>
      obtain ⟨k', e, tk, rfl⟩ := k 0 v rfl
      cases e
      exact .cons _ tk (ih (Nat.succ.inj h) fun j v e => k (j + 1) v e)
theorem strsAre_len {ss : List Str} : ∀ {vs : List Value}, StrsAre vs ss → vs.length = ss.length := by
  induction ss with
  | nil => intro vs h; cases h; rfl
  | cons x ss ih => intro vs h; cases h with | cons _ t h => exact congrArg (· + 1) (ih h)
theorem keys_pairs {prog : Program} {w : World} {kvs : List (D × V)} : ∀ {es : List DictEntry} {ks : List (List Nat)}, RepK w.params src xa ρ F es kvs → keysK kvs = some ks → ∃ xs : List (Str × Value), ks = xs.map (·.1.cps.toList) ∧ Pairs (PySem.strKind prog w) es xs ∧ allStrK kvs = true := by
  induction kvs with
  | nil => intro es ks r e; cases r; cases e; exact ⟨[], rfl, .nil, rfl⟩
  | cons p kvs ih =>
    obtain ⟨k, v⟩ := p
    rintro _ ks ⟨en, es, rfl, r1, _, r2⟩ e
    obtain ⟨s, e1, e⟩ := bind_inv e
    obtain ⟨t, e2, rfl⟩ := map_inv e
    obtain ⟨xs, rfl, h2, h3⟩ := ih r2 e2
    cases strO_of e1
    obtain ⟨x, tk, hx, rfl⟩ := r1.1
    exact ⟨(x, en.val) :: xs, rfl, .cons (by rw [hx]; exact strKind_is _ _ _ _) rfl h2, h3⟩
end
section
variable {prog : Program} {w : World} {A : Around} {s : Shared} {Ev : Value → Shared → Prop}
theorem sorted_dict {a : Addr} {es : List DictEntry} {n : Nat} {xs : List (Str × Value)} {Q : Value → Shared → Prop} (hh : A.handled = none) (h3 : @LT.lt Nat _ 3 a) (ho : s.heap.get? a = some (dictOf es n)) (hk : PySem.KeysOf (PySem.strKind prog w) es.toArray) (hp : Pairs (PySem.strKind prog w) es xs)
    (hn : (xs.map (·.1)).Nodup) (h64 : xs.length < 64)
    (hQ : ∀ h' L vs' ss' e tk, (∀ b o, s.heap.get? b = some o → h'.get? b = some o) → s.heap.get? L = none → @LT.lt Nat _ 3 L → h'.get? L = some (seqObj "list" (List.toArray vs') e) → StrsAre vs' ss' → ss'.Perm (xs.map (·.1)) → sortedS ss' = true → Q (.ref L) { s with heap := h', toks := tk }) :
    wpAny (model prog w) A (call (.builtin "sorted") [.ref a]) Q Ev s := by
  have hat : s.heap.DictAt (PySem.strKind prog w) a xs n := ⟨_, _, ho, ⟨rfl, rfl, rfl⟩, rfl, hk, hp, hn⟩
  have h64' : xs.length ≤ sizeLine := Nat.le_trans (Nat.le_of_lt h64) (by decide)
  refine call_function_entry kind_sorted plain_sorted entry_sorted (args_sorted1 _) ?_
  unfold Builtin.«sorted»
  refine wpAny_bind (m := checkCount "sorted" 1 1 _) (wpAny_pure ?_)
  refine wpAny_bind (kdu_collect (A := A.in1) (kdl_dict (knd := PySem.strKind prog w) (kvs := xs) (ep := n) (notSys h3)) hh hat h64' fun h1 tk acc k1 hacc => ?_)
  have hl : acc.toList.length = xs.length := Array.length_toList.trans hacc.1
  have hS : StrsAre acc.toList (xs.map (·.1)) := strs_get (by rw [hl, List.length_map]) fun j v e => by
    obtain ⟨k, x, hx, hkv⟩ := hacc.2 j v (Array.getElem?_toList.symm.trans e)
    exact ⟨k, by rw [List.getElem?_map, hx]; rfl, Value.isStrOf_shape hkv⟩
  refine wpAny_bind (wpAny_newList ?_ (by rw [hl]; exact h64'))
  have hol : (h1.push (seqObj "list" acc.toList.toArray 0)).get? h1.objs.size = some (seqObj "list" acc.toList.toArray 0) := Heap.get?_push_size _ rfl
  refine wpAny_bind (wpAny_holding (wpAny_call_entry slot_list_sort (show Shared.TypeIs _ (.ref h1.objs.size) "list" from ⟨_, hol, rfl⟩) entry_list_sort ?_ (args_list_sort _)))
  refine list_sort_treeK (s := { s with heap := h1.push (seqObj "list" acc.toList.toArray 0), toks := tk }) strKind_oneLt hol hS.keysOf (fun v₁ v₂ rest e => keyKind_strs (by rw [← e]; exact hS)) (by rw [hl]; exact h64) fun st' hp' hs' => ⟨_, rfl, wpAny_pure ⟨_, rfl, ?_⟩⟩
  obtain ⟨ss', g1, g2, g3⟩ := sorted_out_str hS hp' hs'
  obtain ⟨e, he⟩ := sortedHeap_at (vs := acc.toList) (out := (arrOf st').map (·.2)) hol
  refine hQ _ _ ((arrOf st').map (·.2)).toList ss' e tk (fun b o e => ?_) ?_ (Nat.lt_trans h3 (Heap.lt_size (k1 a _ ho))) he g1 g2 g3
  · have hb := Heap.lt_size (k1 b o e)
    exact (sortedHeap_old (Nat.ne_of_lt hb) (Heap.lt_size (Heap.get?_push_of_some _ (k1 b o e)))).trans (Heap.get?_push_of_some _ (k1 b o e))
  · cases q : s.heap.get? h1.objs.size with
    | none => rfl
    | some o => exact absurd (Heap.lt_size (k1 _ _ q)) (Nat.lt_irrefl _)
end
section
variable {G : Gx} {x : Str} {np pos : Pos} {e : Expr} {pe : PE}
theorem op_srt {c : Lc} {v : Value} {d : V} {Q : V → St → Prop} (r : c.rep v d) (h : srtK d c.st Q) : c.run (call (.builtin "sorted") [v]) Q := by
  rcases altK_iff h with ⟨kvs, ek, h⟩ | h
  · obtain ⟨ks, e1, h⟩ := optK_iff h
    obtain ⟨hnd, h⟩ := ifT_iff h
    obtain ⟨h64, h⟩ := ifT_iff h
    obtain ⟨a, es, n, rfl, l3, ho, rk⟩ := kvs_at c.S r ek
    obtain ⟨xs, rfl, e2, e3⟩ := keys_pairs (prog := X.prog) rk e1
    rw [len'_eq, List.length_map] at h64
    refine sorted_dict c.hA.hn l3 ho (keysOf_rep rk e3) e2 (nodup_strs (by rw [List.map_map]; exact hnd)) (Nat.le_of_ble_eq_true h64) fun h' L vs' ss' n tk k hln hl3 hL g1 g2 g3 => ?_
    refine post_new (S := c.S) (o := .list _) rfl k hln hl3 hL ⟨vs', n, hL, strs_rep g1⟩ ?_
    rw [srt_is g2 g3, List.map_map]
    exact h
  · obtain ⟨hl, h⟩ := ifT_iff h
    obtain ⟨xs, ex, h⟩ := optK_iff h
    obtain ⟨ks, ek, h⟩ := optK_iff h
    obtain ⟨h64, h⟩ := ifT_iff h
    obtain ⟨a, items, rfl, rr, hh⟩ := items_at c.S r ex
    obtain ⟨ss, g1, rfl⟩ := strs_of rr ek
    rw [len'_eq, List.length_map, ← strsAre_len g1] at h64
    rcases hh with ⟨_, hh⟩ | ⟨q, _, _⟩
    · refine sorted_strs hh g1 (Nat.le_of_ble_eq_true h64) fun out ss' k1 k2 k3 => ?_
      obtain ⟨n, hL⟩ := sortedAll_at c.s.heap items out
      refine post_new (S := c.S) (o := .list _) rfl (fun b o => sortedAll_old) (Heap.get?_none_of_le (Nat.le_succ _)) (Nat.lt_succ_of_lt c.S.size3) hL ⟨out.toList, n, hL, strs_rep k1⟩ ?_
      rw [srt_is k2 k3]
      exact h
    · exact absurd (hl.symm.trans q) nofun
theorem se_srt (b : BltIs X G.sc x (.builtin "sorted")) (he : SE G e pe) : SE G (.Call (.Name x np) [e] [] pos) (.srt pe) := ⟨fun _ _ => rfl, fun c ic Q E h =>
  call_name (name_blt ic b (callWith_builtin (by rw [he.ns]; rfl) (args_run (.inr ⟨e, [], rfl, he.ns _⟩) (wpAny_items_cons (Lc.seq0 (he.run c ic _ _ h) fun v dv p g r1 q1 => wpAny_items_nil (Lc.op g (op_srt (c := c.mv p) r1 q1))) (he.ns _ _)))))⟩
end
end Mine
namespace Mine
open PySem PySem.W PyProof.Rows PySem.Calls PySem.Spec
structure Yes (b : Bool) : Type where
  h : b = true
noncomputable def ask : (b : Bool) → Option (Yes b)
  | true => some ⟨rfl⟩
  | false => none
noncomputable def look? {α : Type} : (o : Option α) → Option {a : α // o = some a}
  | some a => some ⟨a, rfl⟩
  | none => none
noncomputable def strB (a b : Str) : Bool := lbeq a.cps.toList b.cps.toList
theorem strB_eq {a b : Str} (h : strB a b = true) : a = b := by rw [← str_eta a, ← str_eta b, lbeq_iff.mp h]
noncomputable def same? (a b : Str) : Option (PLift (a = b)) := (ask (strB a b)).map fun q => ⟨strB_eq q.h⟩
noncomputable def findN (x : Str) : (l : List (Str × NameKind)) → Option {p : Nat × NameKind // l[p.1]? = some (x, p.2)}
  | [] => none
  | p :: r => (same? p.1 x).elim ((findN x r).map fun q => ⟨(q.1.1 + 1, q.1.2), q.2⟩) fun q => some ⟨(0, p.2), congrArg (fun y => some (y, p.2)) q.down⟩
noncomputable def free? (sc : Scope) (x : Str) : Option (PLift (∃ i : Nat, sc.names[i]? = some (x, .globalImplicit))) := (findN x sc.names).bind fun p => match p with
  | ⟨(i, .globalImplicit), h⟩ => some ⟨⟨i, h⟩⟩
  | _ => none
noncomputable def own? (sc : Scope) (x : Str) : Option {i : Nat // ∃ kd, sc.names[i]? = some (x, kd) ∧ (kd = .local ∨ kd = .cell)} := (findN x sc.names).bind fun p => match p with
  | ⟨(i, .local), h⟩ => some ⟨i, _, h, .inl rfl⟩
  | ⟨(i, .cell), h⟩ => some ⟨i, _, h, .inr rfl⟩
  | _ => none
inductive Bt where
  | len | max | isinstance | sorted | int | str | tuple | list | dict | zip | range
noncomputable def btS : Bt → Str
  | .len => "len"
  | .max => "max"
  | .isinstance => "isinstance"
  | .sorted => "sorted"
  | .int => "int"
  | .str => "str"
  | .tuple => "tuple"
  | .list => "list"
  | .dict => "dict"
  | .zip => "zip"
  | .range => "range"
noncomputable def btV : Bt → Value
  | .len => .builtin "len"
  | .max => .builtin "max"
  | .isinstance => .builtin "isinstance"
  | .sorted => .builtin "sorted"
  | .int => .type "int"
  | .str => .type "str"
  | .tuple => .type "tuple"
  | .list => .type "list"
  | .dict => .type "dict"
  | .zip => .type "zip"
  | .range => .type "range"
theorem bt_is : ∀ t, bootBuiltins (btS t) = some (btV t)
  | .len => PyProof.Rows.Boot.«len»
  | .max => PyProof.Rows.Boot.«max»
  | .isinstance => PyProof.Rows.Boot.«isinstance»
  | .sorted => PyProof.Rows.Boot.«sorted»
  | .int => PyProof.Rows.Boot.«int»
  | .str => PyProof.Rows.Boot.«str»
  | .tuple => PyProof.Rows.Boot.«tuple»
  | .list => PyProof.Rows.Boot.«list»
  | .dict => PyProof.Rows.Boot.«dict»
  | .zip => PyProof.Rows.Boot.«zip»
  | .range => PyProof.Rows.Boot.«range»
theorem bt_no : ∀ t, (strB (btS t) "__name__" = false ∧ (glv X.w.params (btS t)).isNone = true) := by
  intro t
  cases t <;> exact ⟨by kernel_rfl, by kernel_rfl⟩
noncomputable def blt? (sc : Scope) (t : Bt) (x : Str) : Option (PLift (BltIs X sc x (btV t))) := (same? (btS t) x).bind fun e => (free? sc x).map fun q => ⟨⟨q.down, by
  rw [X_gl, ← e.down]; exact Option.isNone_iff_eq_none.mp (bt_no t).2, (X.eb x fun h => absurd (bt_no t).1 (by rw [e.down, h, Bool.not_eq_false]; exact lbeq_iff.mpr rfl)).trans (e.down ▸ bt_is t)⟩⟩
noncomputable def glb? (sc : Scope) (x : Str) : Option {v : Value // GlbIs X sc x v} := (free? sc x).bind fun q => (look? (glv X.w.params x)).map fun v => ⟨v.1, q.down, (X_gl x).trans v.2⟩
theorem keep_of {a : Addr} (h : keepIn (KK X.w.params) (.ref a) = true) : keepIn X.K (.ref a) = true := by rw [X.eK]; exact h
noncomputable def ref? (sc : Scope) (x : Str) : Option {a : Addr // GlbIs X sc x (.ref a) ∧ keepIn X.K (.ref a) = true} := (glb? sc x).bind fun v => match v with
  | ⟨.ref a, h⟩ => (ask (keepIn (KK X.w.params) (.ref a))).map fun k => ⟨a, h, keep_of k.h⟩
  | _ => none
noncomputable def fnd? (c : Addr) (x : Str) : Option {f : Addr // findIn X.K (.ref c) x = some (some (.ref f))} := (look? (findIn (KK X.w.params) (.ref c) x)).bind fun v => match v with
  | ⟨some (.ref f), h⟩ => some ⟨f, by rw [X.eK]; exact h⟩
  | _ => none
noncomputable def fTy (K : Frag) (f : Addr) : Bool := match typeIn K (.ref f) with
  | some (.type i) => i == "function"
  | _ => false
theorem fTy_ok {f : Addr} (h : fTy (KK X.w.params) f = true) : typeIn X.K (.ref f) = some (.type "function") := by
  rw [X.eK]
  unfold fTy at h
  split at h
  · rename_i i e; rw [e, eq_of_beq h]
  · cases h
noncomputable def new? (c : Addr) : Option {f : Addr // NewIs X c f} := (fnd? c "__init__").bind fun f => (ask (makesIn (KK X.w.params) c)).bind fun m => (ask (fTy (KK X.w.params) f.1)).map fun t => ⟨f.1, by rw [X.eK]; exact m.h, f.2, fTy_ok t.h⟩
theorem sel_get : findIn X.K (.ref 180) "__getattribute__" = some (some (.builtin "object.__getattribute__")) ∧ findIn X.K (.ref 180) "__getattr__" = some none := by rw [X.eK]; exact ⟨by kernel_rfl, by kernel_rfl⟩
noncomputable def met? (x : Str) : Option {f : Addr // MethIs X 180 x f} := (fnd? 180 x).bind fun f => (ask (fTy (KK X.w.params) f.1)).bind fun t => (ask (keepIn (KK X.w.params) (.ref f.1))).map fun k => ⟨f.1, sel_get.1, sel_get.2, f.2, fTy_ok t.h, keep_of k.h⟩
noncomputable def attB (K : Frag) (c : Addr) (x : Str) : Bool := plainGet K c x && (hasDictIn K c && ((match findIn K (.ref c) x with | some none => true | _ => false) && ((match findIn K (.ref c) "__setattr__" with | some (some (.builtin i)) => i == "object.__setattr__" | _ => false) && plainOver K c)))
theorem attB_ok {K : Frag} {c : Addr} {x : Str} (h : attB K c x = true) : AttrOk K c x := by
  unfold attB at h
  simp only [Bool.and_eq_true] at h
  refine ⟨h.1, h.2.1, ?_, ?_, h.2.2.2.2⟩
  · have h3 := h.2.2.1
    split at h3
    · assumption
    · cases h3
  · have h4 := h.2.2.2.1
    split at h4
    · rename_i i e; rw [e, eq_of_beq h4]
    · cases h4
theorem attr_all (P : Params) : ([180, 237, 258, 280, 309].all fun c => (clsNames c).all fun n => attB (KK P) c ⟨n.toArray⟩) = true := by kernel_rfl
theorem memN_mem {n : List Nat} : ∀ {l : List (List Nat)}, memN n l = true → n ∈ l
  | [], h => by cases h
  | m :: r, h => by
    unfold memN at h
    cases q : lbeq n m with
    | true => rw [lbeq_iff.mp q]; exact List.mem_cons_self ..
    | false => rw [q] at h; exact List.mem_cons_of_mem _ (memN_mem h)
theorem kok : KOk X := by
  refine ⟨fun c n h => ?_⟩
  rw [X.eK]
  have h' : memN n (clsNames c) = true := h
  have hc : c ∈ [180, 237, 258, 280, 309] := by
    unfold clsNames at h'
    split at h' <;> first | (simp; done) | exact absurd h' nofun
  exact attB_ok (List.all_eq_true.mp (List.all_eq_true.mp (attr_all X.w.params) _ hc) _ (memN_mem h'))
theorem tfIs : TfIs X := ⟨by rw [X.eK]; exact ⟨_, _, _, _, (by kernel_rfl : (KK X.w.params).lookup 52 = some (kO "TraitFault" [.ref 39] (.ref 52 :: tfBm) 51 [] (some (.ref 43)) 228 236 "Exception.__new__"))⟩, by rw [X.eK]; kernel_rfl, by rw [X.eK]; kernel_rfl, by rw [X.eK]; kernel_rfl⟩
end Mine
namespace Mine
open PySem PySem.W PyProof.Rows PySem.Calls PySem.Spec
noncomputable def envS (sc : Scope) : Env := newEnv sc 0 0 [] "" none .none none 0
section
variable {env : Env} {sc : Scope} {e t : Expr} {l : Nat}
theorem swap_env (h : env.scope = sc) : swapsWithSole [t] e l env = swapsWithSole [t] e l (envS sc) := by subst h; rfl
theorem swap0_env (h : env.scope = sc) : swapsWith e none l env = swapsWith e none l (envS sc) := by subst h; rfl
theorem stores_env (h : env.scope = sc) : swappedStores [t] e env = swappedStores [t] e (envS sc) := by subst h; rfl
theorem inter_env (h : env.scope = sc) : interactive env = interactive (envS sc) := by subst h; rfl
end
noncomputable def isP (t : Sem Bool) (b : Bool) : Bool := match pureOf t with
  | some c => bbeq c b
  | none => false
theorem isP_ok {t : Sem Bool} {b : Bool} (h : isP t b = true) : t = pure b := by
  unfold isP at h
  cases q : pureOf t with
  | none => rw [q] at h; exact absurd h nofun
  | some c => rw [q] at h; cases b <;> cases c <;> first | exact of_pureOf q | exact absurd h nofun
structure Alg (α : Expr → Type) where
  oth : ∀ e, α e
  con : ∀ c k pos, α (.Constant c k pos) := fun _ _ _ => oth _
  nam : ∀ x pos, α (.Name x pos) := fun _ _ => oth _
  tup : ∀ es k pos, α (.Tuple es k pos) := fun _ _ _ => oth _
  lst : ∀ es pos, α (.List es pos) := fun _ _ => oth _
  dct : ∀ ks vs pos, α (.Dict ks vs pos) := fun _ _ _ => oth _
  sub : ∀ e i pos, α (.Subscript e i pos) := fun _ _ _ => oth _
  att : ∀ e x pos, α (.Attribute e x pos) := fun _ _ _ => oth _
  bin : ∀ l op r pos, α (.BinOp l op r pos) := fun _ _ _ _ => oth _
  cmp : ∀ l ops rs pos, α (.Compare l ops rs pos) := fun _ _ _ _ => oth _
  bop : ∀ op es pos, α (.BoolOp op es pos) := fun _ _ _ => oth _
  una : ∀ op e pos, α (.UnaryOp op e pos) := fun _ _ _ => oth _
  ite : ∀ t a b pos, α (.IfExp t a b pos) := fun _ _ _ _ => oth _
  cal : ∀ f es ks pos, α (.Call f es ks pos) := fun _ _ _ _ => oth _
  cpr : ∀ e gs sc pos, α (.ListComp e gs sc pos) := fun _ _ _ _ => oth _
  slc : ∀ a b c pos, α (.Slice a b c pos) := fun _ _ _ _ => oth _
noncomputable def Alg.at {α : Expr → Type} (A : Alg α) : (e : Expr) → α e
  | .Constant c k pos => A.con c k pos
  | .Name x pos => A.nam x pos
  | .Tuple es k pos => A.tup es k pos
  | .List es pos => A.lst es pos
  | .Dict ks vs pos => A.dct ks vs pos
  | .Subscript e i pos => A.sub e i pos
  | .Attribute e x pos => A.att e x pos
  | .BinOp l op r pos => A.bin l op r pos
  | .Compare l ops rs pos => A.cmp l ops rs pos
  | .BoolOp op es pos => A.bop op es pos
  | .UnaryOp op e pos => A.una op e pos
  | .IfExp t a b pos => A.ite t a b pos
  | .Call f es ks pos => A.cal f es ks pos
  | .ListComp e gs sc pos => A.cpr e gs sc pos
  | .Slice a b c pos => A.slc a b c pos
  | e => A.oth e
section
variable {o : Expr} {name x : Str} {apos pos : Pos} {env : Env} {ov : Value} {n : Nat} {args : List (Bool × Sem Value)} {es : List Expr} {w : Sem Value}
theorem call_few (h : methodCallForm n args [] = true) (hl : (apos.endLine == pos.line) = true) : methodCall o name apos pos env ov n args (backToKw pos (keywordEach [] env)) = (do
      let (f, first) ← holding [ov] (getMethod ov name (do return (← importBound o env).getD true))
      callWith pos f first args (backToKw pos (keywordEach [] env))) := by
  unfold methodCall
  rw [show methodCallForm n args (backToKw pos (keywordEach [] env)) = true from h]
  unfold methodCallPos
  rw [hl]
  rfl
structure Dot (o : Expr) : Prop where
  base : ∀ x env w, attributeBase o x env w = w
  att : ∀ n pos env, eval (.Attribute o n pos) env = (do
      let v ← eval o env
      standAt pos.atName
      let r ← holding [v] (getAttr v n true)
      letTemporaryGo o v r
      pure r)
noncomputable def hd? : (o : Expr) → Option (PLift (Dot o)) := Alg.at (α := fun o => Option (PLift (Dot o)))
  { oth := fun _ => none, nam := fun _ _ => some ⟨fun _ _ _ => rfl, fun _ _ _ => rfl⟩, att := fun _ _ _ => some ⟨fun _ _ _ => rfl, fun _ _ _ => rfl⟩, sub := fun _ _ _ => some ⟨fun _ _ _ => rfl, fun _ _ _ => rfl⟩, con := fun _ _ _ => some ⟨fun _ _ _ => rfl, fun _ _ _ => rfl⟩ }
theorem Dot.met (H : Dot o) (hp : ∀ env, ((backTo pos (starEach es env)).any (·.1)) = false) (hn : Nat.blt es.length 30 = true) (hl : (apos.endLine == pos.line) = true) : eval (.Call (.Attribute o x apos) es [] pos) env = (do
      let ov ← eval o env
      standAt apos.atName
      let (f, first) ← holding [ov] (getMethod ov x (do return (← importBound o env).getD true))
      callWith pos f first (backTo pos (starEach es env)) (backToKw pos (keywordEach [] env))) := by
  have hf : methodCallForm (es.length + ([] : List Keyword).length) (backTo pos (starEach es env)) [] = true := by
    have hp := hp env
    unfold methodCallForm
    have ha : (backTo pos (starEach es env)).all (fun q => !q.1) = true := (List.not_any_eq_all_not (p := fun q : Bool × Sem Value => q.1)).symm.trans (by rw [hp]; rfl)
    rw [ha]
    exact (decide_eq_true (Nat.le_of_ble_eq_true hn : es.length < 30) : decide (es.length < 30) = true)
  rw [arm_eval_Call, H.base]
  refine bind_congr fun ov => bind_congr fun _ => ?_
  exact call_few hf hl
end
end Mine
namespace Mine
open PySem PySem.W PyProof.Rows PySem.Calls PySem.Spec
noncomputable def kdB (k l : NameKind) : Bool := match k, l with
  | .local, .local => true
  | .cell, .cell => true
  | .free, .free => true
  | _, _ => false
theorem kdB_eq {k l : NameKind} (h : kdB k l = true) : k = l := by cases k <;> cases l <;> first | rfl | exact absurd h nofun
noncomputable def fnB (sc : Scope) : Bool := (match sc.kind with | .function => true | _ => false) && (decide ((sc.names.map (·.1)).Nodup) && sc.names.all (fun p => !(p.1 == ("__debug__" : Str)) && !(p.1 == ("__classdict__" : Str))))
theorem fnB_ok {sc : Scope} (h : fnB sc = true) : sc.kind = .function ∧ (sc.names.map (·.1)).Nodup ∧ ∀ p ∈ sc.names, (p.1 == ("__debug__" : Str)) = false ∧ (p.1 == ("__classdict__" : Str)) = false := by
  unfold fnB at h
  rw [Bool.and_eq_true, Bool.and_eq_true] at h
  refine ⟨?_, of_decide_eq_true h.2.1, fun p hp => ?_⟩
  · have h1 := h.1; revert h1; cases sc.kind <;> first | exact fun _ => rfl | exact fun h => absurd h nofun
  · have := List.all_eq_true.mp h.2.2 p hp
    rw [Bool.and_eq_true, Bool.not_eq_true', Bool.not_eq_true'] at this
    exact this
noncomputable def hasN (sc : Scope) (x : Str) : Bool := (findN x sc.names).elim false fun q => kdB q.1.2 .cell || kdB q.1.2 .free
theorem hasN_ok {sc : Scope} {x : Str} (h : hasN sc x = true) : ∃ (j : Nat) (k : NameKind), sc.names[j]? = some (x, k) ∧ (k = .cell ∨ k = .free) := by
  unfold hasN at h
  cases e : findN x sc.names with
  | none => rw [e] at h; exact absurd h nofun
  | some q => rw [e] at h; exact ⟨q.1.1, q.1.2, q.2, (Bool.or_eq_true _ _ ▸ h : _ ∨ _).imp kdB_eq kdB_eq⟩
noncomputable def capB (sc scope : Scope) (p : Nat × Nat) : Bool := match scope.names[p.1]?, sc.names[p.2]? with
  | some q, some r => kdB q.2 .free && (strB q.1 r.1 && (kdB r.2 .cell || kdB r.2 .free))
  | _, _ => false
theorem capB_ok {sc scope : Scope} {p : Nat × Nat} (h : capB sc scope p = true) : ∃ x k, scope.names[p.1]? = some (x, .free) ∧ sc.names[p.2]? = some (x, k) ∧ (k = .cell ∨ k = .free) := by
  unfold capB at h
  cases e1 : scope.names[p.1]? with
  | none => rw [e1] at h; exact absurd h nofun
  | some q => cases e2 : sc.names[p.2]? with
    | none => rw [e1, e2] at h; exact absurd h nofun
    | some r =>
      rw [e1, e2] at h
      have h : (kdB q.2 .free && (strB q.1 r.1 && (kdB r.2 .cell || kdB r.2 .free))) = true := h
      rw [Bool.and_eq_true, Bool.and_eq_true, Bool.or_eq_true] at h
      exact ⟨q.1, r.2, kdB_eq h.1 ▸ rfl, strB_eq h.2.1 ▸ rfl, h.2.2.imp kdB_eq kdB_eq⟩
noncomputable def compB (sc scope : Scope) (cap : List (Nat × Nat)) : Bool := fnB scope && (scope.names.all (fun p => !kdB p.2 .cell) && (scope.names.all (fun p => !kdB p.2 .free || hasN sc p.1) && cap.all (capB sc scope)))
theorem compB_ok {sc scope : Scope} {cap : List (Nat × Nat)} {nl : Nat} (h : compB sc scope cap = true) : CompOk sc scope cap nl := by
  unfold compB at h
  rw [Bool.and_eq_true, Bool.and_eq_true, Bool.and_eq_true] at h
  obtain ⟨h1, h2, h3⟩ := fnB_ok h.1
  refine ⟨h1, h2, fun x hx e => ?_, h3, fun n hn => ?_, fun p hp => capB_ok (List.all_eq_true.mp h.2.2.2 p hp)⟩
  · have := List.all_eq_true.mp h.2.1 x hx
    rw [e] at this; exact absurd this nofun
  · have := List.all_eq_true.mp h.2.2.1 _ hn
    rw [Bool.or_eq_true] at this
    exact this.elim (fun h => absurd h nofun) hasN_ok
noncomputable def capOf (sc : Scope) : Nat → List (Str × NameKind) → List (Nat × Nat)
  | _, [] => []
  | i, p :: r => match kdB p.2 .free with
    | true => (findN p.1 sc.names).elim (capOf sc (i + 1) r) fun q => (i, q.1.1) :: capOf sc (i + 1) r
    | false => capOf sc (i + 1) r
structure Cy where
  P : Gp
  P0 : Gp
  d : Nat
  hP : GpOk d P
  hP0 : GpOk d P0
abbrev Cy.g (y : Cy) (sc : Scope) : Gx := ⟨y.P, y.d, sc⟩
abbrev Cy.lp (y : Cy) : Prop := ∀ t b st Q E, y.P.whl t b st Q E → WhlOk y.P0 y.d t b st Q
abbrev Cy.in (y : Cy) : Cy := ⟨y.P0, y.P0, y.d, y.hP0, y.hP0⟩
noncomputable abbrev CE (sc : Scope) (e : Expr) : Type := Option {p : PE // ∀ y : Cy, SE (y.g sc) e p}
noncomputable abbrev CEs (sc : Scope) (es : List Expr) : Type := Option {p : PEs // ∀ y : Cy, SEs (y.g sc) es p}
noncomputable abbrev CT (sc : Scope) (e : Expr) : Type := Option {p : PT1 // ∀ y : Cy, ST (y.g sc) e p}
noncomputable abbrev CTs (sc : Scope) (a : Bool) (es : List Expr) : Type := Option {p : PTs // ∀ y : Cy, STs (y.g sc) a es p}
noncomputable abbrev CB (sc : Scope) (a : Bool) (es : List Expr) : Type := Option {p : PEs // ∀ y : Cy, SB (y.g sc) a es p}
noncomputable abbrev CI (sc : Scope) (tg e : Expr) : Type := Option {p : PI // ∀ y : Cy, SI (y.g sc) tg e p}
noncomputable abbrev CA (sc : Scope) (t : Expr) : Type := Option {p : PA // ∀ y : Cy, SA (y.g sc) t p}
noncomputable abbrev CS (lp : Bool) (sc : Scope) (s : Stmt) : Type := Option {p : PS // ∀ y : Cy, (lp = true → y.lp) → SS (y.g sc) s p}
noncomputable abbrev CSs (lp : Bool) (sc : Scope) (ss : List Stmt) : Type := Option {p : PSs // ∀ y : Cy, (lp = true → y.lp) → SSs (y.g sc) ss p}
structure Cm where
  e : ∀ sc e, CE sc e
  t : ∀ sc e, CT sc e
  ss : ∀ lp sc ss, CSs lp sc ss
section
variable {sc : Scope}
noncomputable def cEs (f : ∀ e, CE sc e) : ∀ es, CEs sc es
  | [] => some ⟨.nil, fun _ => ses_nil⟩
  | e :: r => (f e).bind fun p => (cEs f r).map fun q => ⟨.cons p.1 q.1, fun y => ses_cons (p.2 y) (q.2 y)⟩
noncomputable def cB (f : ∀ e, CE sc e) (a : Bool) : ∀ es, CB sc a es
  | [] => none
  | e :: r => (f e).bind fun p => match r with
    | [] => some ⟨.cons p.1 .nil, fun y => sb_one (p.2 y)⟩
    | e2 :: r2 => (cB f a (e2 :: r2)).bind fun q => match q with
      | ⟨.cons p2 q2, h⟩ => some ⟨.cons p.1 (.cons p2 q2), fun y => sb_cons (p.2 y) (h y)⟩
      | ⟨.nil, _⟩ => none
noncomputable def cTs (f : ∀ e, CT sc e) (a : Bool) : ∀ es, CTs sc a es
  | [] => some ⟨.nil, fun _ => sts_nil⟩
  | e :: r => (f e).bind fun p => (cTs f a r).map fun q => ⟨.cons p.1 q.1, fun y => sts_cons (p.2 y) (q.2 y)⟩
noncomputable abbrev CD (sc : Scope) (ks : List (Option Expr)) (vs : List Expr) : Type := Option {p : List D × PEs // ∀ y : Cy, SDs (y.g sc) ks vs p.1 p.2}
noncomputable def cD (f : ∀ e, CE sc e) : ∀ ks vs, CD sc ks vs
  | [], [] => some ⟨([], .nil), fun _ => sds_nil⟩
  | some k :: ks, v :: vs => (f v).bind fun p => (cD f ks vs).bind fun q => Alg.at (α := fun k => CD sc (some k :: ks) (v :: vs)) { oth := fun _ => none, con := fun c n pos => match c with
    | .str x => some ⟨(.str x.cps.toList :: q.1.1, .cons p.1 q.1.2), fun y => sds_cons (p.2 y) (q.2 y)⟩
    | _ => none } k
  | _, _ => none
noncomputable def loc? (top : Bool) (sc : Scope) (x : Str) : Option {i : Nat // ∃ kd, sc.names[i]? = some (x, kd) ∧ (kd = .local ∨ (kd = .cell ∧ top = true))} := (findN x sc.names).bind fun p => match p, top with
  | ⟨(i, .local), h⟩, _ => some ⟨i, _, h, .inl rfl⟩
  | ⟨(i, .cell), h⟩, true => some ⟨i, _, h, .inr ⟨rfl, rfl⟩⟩
  | _, _ => none
noncomputable def cN (top : Bool) (sc : Scope) : ∀ es, Option {is : List Nat // NamesAt top sc es is}
  | [] => some ⟨[], rfl⟩
  | e :: r => (cN top sc r).bind fun q => Alg.at (α := fun e => Option {is : List Nat // NamesAt top sc (e :: r) is}) { oth := fun _ => none, nam := fun x pos => (loc? top sc x).map fun i => ⟨i.1 :: q.1, i.2.elim fun kd h => ⟨x, pos, kd, r, rfl, h.1, h.2, q.2⟩⟩ } e
noncomputable def cG (top : Bool) (sc : Scope) : ∀ tg, Option {p : PT // TG top sc tg p} := Alg.at (α := fun tg => Option {p : PT // TG top sc tg p})
  { oth := fun _ => none, nam := fun x pos => (loc? top sc x).map fun i => ⟨.one i.1, i.2.elim fun kd h => tg_one h.1 h.2⟩, tup := fun es k pos => (cN top sc es).map fun q => ⟨.many q.1, tg_many q.2⟩ }
noncomputable def cI0 (f : ∀ e, CE sc e) (tg : Expr) (ht : Tgt tg) (x : Str) (np pos : Pos) : ∀ es ks, CI sc tg (.Call (.Name x np) es ks pos)
  | [a], [] => (blt? sc .range x).bind fun b => (f a).map fun p => ⟨.range p.1, fun y => si_range ht b.down (p.2 y)⟩
  | [a, b], [] => (blt? sc .zip x).bind fun z => (f a).bind fun p => (f b).bind fun q => Alg.at (α := fun tg => CI sc tg (.Call (.Name x np) [a, b] [] pos)) { oth := fun _ => none, tup := fun _ _ _ => some ⟨.zip p.1 q.1, fun y => si_zip z.down (p.2 y) (q.2 y)⟩ } tg
  | _, _ => none
noncomputable def cI (f : ∀ e, CE sc e) (tg : Expr) (ht : Tgt tg) (e : Expr) : CI sc tg e :=
  (Alg.at (α := fun e => CI sc tg e) { oth := fun _ => none, cal := fun g es ks pos => Alg.at (α := fun g => CI sc tg (.Call g es ks pos)) { oth := fun _ => none, nam := fun x np => cI0 f tg ht x np pos es ks } g } e).orElse fun _ => (f e).map fun p => ⟨.seq p.1, fun y => si_seq ht (p.2 y)⟩
end
end Mine
namespace Mine
open PySem PySem.W PyProof.Rows PySem.Calls PySem.Spec
noncomputable def sub? : (i : Expr) → Option (PLift (∀ o v, subscripted i false o v = operate [o, v] (getItem o v))) := Alg.at (α := fun i => Option (PLift (∀ o v, subscripted i false o v = operate [o, v] (getItem o v))))
  { oth := fun _ => none, con := fun _ _ _ => some ⟨fun _ _ => rfl⟩, nam := fun _ _ => some ⟨fun _ _ => rfl⟩, tup := fun _ _ _ => some ⟨fun _ _ => rfl⟩, sub := fun _ _ _ => some ⟨fun _ _ => rfl⟩, att := fun _ _ _ => some ⟨fun _ _ => rfl⟩, una := fun _ _ _ => some ⟨fun _ _ => rfl⟩, cal := fun _ _ _ _ => some ⟨fun _ _ => rfl⟩ }
noncomputable def fold? : (e : Expr) → Option (PLift (∀ env x, foldedSetIterable e env x = pure x)) := Alg.at (α := fun e => Option (PLift (∀ env x, foldedSetIterable e env x = pure x)))
  { oth := fun _ => none, nam := fun _ _ => some ⟨fun _ _ => rfl⟩, tup := fun _ _ _ => some ⟨fun _ _ => rfl⟩, lst := fun _ _ => some ⟨fun _ _ => rfl⟩, sub := fun _ _ _ => some ⟨fun _ _ => rfl⟩, att := fun _ _ _ => some ⟨fun _ _ => rfl⟩, ite := fun _ _ _ _ => some ⟨fun _ _ => rfl⟩, cal := fun _ _ _ _ => some ⟨fun _ _ => rfl⟩, cpr := fun _ _ _ _ => some ⟨fun _ _ => rfl⟩ }
section
variable (m : Cm) (sc : Scope)
noncomputable def cCon : (c : Const) → (k : Nat) → (pos : Pos) → CE sc (.Constant c k pos)
  | .none, _, _ => some ⟨_, fun _ => se_none⟩
  | .bool _, _, _ => some ⟨_, fun _ => se_bool⟩
  | .int _, _, _ => some ⟨_, fun _ => se_int⟩
  | .str _, _, _ => some ⟨_, fun _ => se_str⟩
  | _, _, _ => none
noncomputable def cNam (x : Str) (pos : Pos) : CE sc (.Name x pos) := (findN x sc.names).bind fun p => match kdB p.1.2 .local || (kdB p.1.2 .cell || kdB p.1.2 .free) with
  | true => some ⟨.loc p.1.1, fun _ => se_loc p.2⟩
  | false => (glb? sc x).bind fun v => match v with
    | ⟨.str s t, h⟩ => some ⟨.cst (.str s.cps.toList), fun _ => h.at_.elim fun _ e => se_glob e h.is fun _ => ⟨s, t, rfl, rfl⟩⟩
    | ⟨.int i t, h⟩ => some ⟨.cst (.int i), fun _ => h.at_.elim fun _ e => se_glob e h.is fun _ => ⟨t, rfl⟩⟩
    | _ => none
noncomputable def cSub (e i : Expr) (pos : Pos) : CE sc (.Subscript e i pos) := (m.e sc e).bind fun p =>
  ((sub? i).bind fun h => (m.e sc i).map fun q => ⟨.sub p.1 q.1, fun y => se_sub (p.2 y) (q.2 y) h.down⟩).orElse fun _ =>
    Alg.at (α := fun i => CE sc (.Subscript e i pos)) { oth := fun _ => none, slc := fun a b c _ => match a, b, c with
      | none, some u, none => (m.e sc u).map fun q => ⟨.slTo p.1 q.1, fun y => se_slTo (p.2 y) (q.2 y)⟩
      | some u, none, none => (m.e sc u).map fun q => ⟨.slFrom p.1 q.1, fun y => se_slFrom (p.2 y) (q.2 y)⟩
      | _, _, _ => none } i
noncomputable def not? (op : CmpOp) (r : Expr) : Option (PLift (behindInMarks op r = false)) := (ask (negB (behindInMarks op r))).map fun q => ⟨by have h := q.h; cases e : behindInMarks op r with
  | false => rfl
  | true => rw [e] at h; exact absurd h nofun⟩
noncomputable def cCmp (l : Expr) (pos : Pos) : ∀ ops rs, CE sc (.Compare l ops rs pos)
  | [op], [r] => (m.e sc l).bind fun p => (m.e sc r).bind fun q => (not? op r).map fun h => ⟨.cmp op p.1 q.1, fun y => se_cmp (p.2 y) (q.2 y) h.down⟩
  | _, _ => none
noncomputable def tCmp (l : Expr) (pos : Pos) : ∀ ops rs, CT sc (.Compare l ops rs pos)
  | [op], [r] => (m.e sc l).bind fun p => (m.e sc r).bind fun q => (not? op r).map fun h => ⟨.cmp op p.1 q.1, fun y => st_cmp (p.2 y) (q.2 y) h.down⟩
  | _, _ => none
noncomputable def cBop (pos : Pos) (es : List Expr) : ∀ op, CE sc (.BoolOp op es pos)
  | .And => (cB (m.e sc) true es).map fun q => ⟨.bop true q.1, fun y => se_and (q.2 y)⟩
  | .Or => (cB (m.e sc) false es).map fun q => ⟨.bop false q.1, fun y => se_or (q.2 y)⟩
noncomputable def tBop (pos : Pos) (es : List Expr) : ∀ op, CT sc (.BoolOp op es pos)
  | .And => (cTs (m.t sc) true es).map fun q => ⟨.bop true q.1, fun y => st_and (q.2 y)⟩
  | .Or => (cTs (m.t sc) false es).map fun q => ⟨.bop false q.1, fun y => st_or (q.2 y)⟩
noncomputable def cUna (e : Expr) (pos : Pos) : ∀ op, CE sc (.UnaryOp op e pos)
  | .USub => (m.e sc e).map fun q => ⟨.neg q.1, fun y => se_neg (q.2 y)⟩
  | _ => none
noncomputable def tUna (e : Expr) (pos : Pos) : ∀ op, CT sc (.UnaryOp op e pos)
  | .Not => (m.t sc e).map fun q => ⟨.nt q.1, fun y => st_not (q.2 y)⟩
  | _ => none
noncomputable def cRef (x : Str) (np pos : Pos) (es : List Expr) : CE sc (.Call (.Name x np) es [] pos) := (ref? sc x).bind fun a => (cEs (m.e sc) es).map fun q => match new? a.1 with
  | some f => ⟨.new a.1 f.1 (Nat.beq a.1 309) q.1, fun y => se_new y.hP a.2.1 f.2 a.2.2 (q.2 y)⟩
  | none => ⟨.call a.1 q.1, fun y => se_call y.hP a.2.1 a.2.2 (q.2 y)⟩
noncomputable def cBi (x : Str) (np pos : Pos) (es : List Expr) (f : BI) (t : Bt) (hv : biV f = btV t) (ht : ∃ id, btV t = .builtin id) (ha : biA f = []) : CE sc (.Call (.Name x np) es [] pos) := (blt? sc t x).bind fun b => (cEs (m.e sc) es).map fun q =>
  ⟨.bi f q.1, fun y => ht.elim fun _ h => se_bi (hv.trans h) ha (h ▸ b.down) (q.2 y)⟩
noncomputable def cTy (x : Str) (np pos : Pos) (es : List Expr) (f : TY) (t : Bt) (hv : tyV f = btV t) (ht : ∃ id, btV t = .type id) : CE sc (.Call (.Name x np) es [] pos) := (blt? sc t x).bind fun b => (cEs (m.e sc) es).map fun q =>
  ⟨.ty f q.1, fun y => ht.elim fun _ h => se_ty (hv.trans h) (h ▸ b.down) (q.2 y)⟩
noncomputable def cLz (x : Str) (np pos : Pos) (zx : Str) (zp p2 : Pos) : ∀ es ks, CE sc (.Call (.Name x np) [.Call (.Name zx zp) es ks p2] [] pos)
  | [a, b], [] => (blt? sc .zip zx).bind fun z => (m.e sc a).bind fun p => (m.e sc b).bind fun q => Option.orElse ((blt? sc .list x).map fun b => ⟨.lzip p.1 q.1, fun y => se_lzip b.down z.down (p.2 y) (q.2 y)⟩) fun _ => (blt? sc .dict x).map fun b => ⟨.dzip p.1 q.1, fun y => se_dzip b.down z.down (p.2 y) (q.2 y)⟩
  | _, _ => none
noncomputable def cOne (x : Str) (np pos : Pos) (e : Expr) : CE sc (.Call (.Name x np) [e] [] pos) :=
  (Alg.at (α := fun e => CE sc (.Call (.Name x np) [e] [] pos)) { oth := fun _ => none, cal := fun g es ks p2 => Alg.at (α := fun g => CE sc (.Call (.Name x np) [.Call g es ks p2] [] pos)) { oth := fun _ => none, nam := fun zx zp => cLz m sc x np pos zx zp p2 es ks } g } e).orElse fun _ =>
  (blt? sc .sorted x).bind fun b => (m.e sc e).map fun p => ⟨.srt p.1, fun y => se_srt b.down (p.2 y)⟩
noncomputable def cTwo (x : Str) (np pos : Pos) (e : Expr) : (e2 : Expr) → CE sc (.Call (.Name x np) [e, e2] [] pos) := Alg.at (α := fun e2 => CE sc (.Call (.Name x np) [e, e2] [] pos))
  { oth := fun _ => none, nam := fun s sp => (blt? sc .isinstance x).bind fun b => (blt? sc .str s).bind fun h => (m.e sc e).map fun p => ⟨.bi .isstr (.cons p.1 .nil), fun y => se_isstr b.down h.down (p.2 y)⟩ }
noncomputable def cArgs (x : Str) (np pos : Pos) : ∀ es, CE sc (.Call (.Name x np) es [] pos)
  | [e] => cOne m sc x np pos e
  | [e, e2] => cTwo m sc x np pos e e2
  | _ => none
noncomputable def cNm (x : Str) (np pos : Pos) (es : List Expr) : CE sc (.Call (.Name x np) es [] pos) :=
  (cRef m sc x np pos es).orElse fun _ => (cBi m sc x np pos es .len .len rfl ⟨_, rfl⟩ rfl).orElse fun _ => (cTy m sc x np pos es .tuple .tuple rfl ⟨_, rfl⟩).orElse fun _ => (cTy m sc x np pos es .int .int rfl ⟨_, rfl⟩).orElse fun _ =>
    (cTy m sc x np pos es .str .str rfl ⟨_, rfl⟩).orElse fun _ => (cBi m sc x np pos es .max .max rfl ⟨_, rfl⟩ rfl).orElse fun _ => cArgs m sc x np pos es
noncomputable def cMn (o : Expr) (x : Str) (apos pos : Pos) (es : List Expr) (H : Dot o) (hn : Nat.blt es.length 30 = true) (hl : (apos.endLine == pos.line) = true) (p : {p : PE // ∀ y : Cy, SE (y.g sc) o p}) (q : {p : PEs // ∀ y : Cy, SEs (y.g sc) es p}) (n : MN) :
    CE sc (.Call (.Attribute o x apos) es [] pos) := (same? (mnN n) x).map fun e => ⟨.meth p.1 n q.1, fun y => by have e := e.down; subst e; exact se_meth (p.2 y) (q.2 y) fun env => H.met (fun env => (q.2 y).plain env pos) hn hl⟩
noncomputable def cMet (o : Expr) (x : Str) (apos pos : Pos) (es : List Expr) : CE sc (.Call (.Attribute o x apos) es [] pos) := (hd? o).bind fun H => (m.e sc o).bind fun p => (cEs (m.e sc) es).bind fun q => (ask (Nat.blt es.length 30)).bind fun hn => (ask (apos.endLine == pos.line)).bind fun hl =>
  let b := cMn sc o x apos pos es H.down hn.h hl.h p q
  (b .append).orElse fun _ => (b .extend).orElse fun _ => (b .pop).orElse fun _ => (b .get).orElse fun _ => (b .join).orElse fun _ => (met? x).map fun f => ⟨.methf p.1 x.cps.toList 180 f.1 q.1, fun y => se_methf y.hP rfl f.2 (p.2 y) (q.2 y) fun env => H.down.met (fun env => (q.2 y).plain env pos) hn.h hl.h⟩
noncomputable def cCal (f : Expr) (es : List Expr) (pos : Pos) : (ks : List Keyword) → CE sc (.Call f es ks pos)
  | [] => Alg.at (α := fun f => CE sc (.Call f es [] pos)) { oth := fun _ => none, nam := fun x np => cNm m sc x np pos es, att := fun o x apos => cMet m sc o x apos pos es } f
  | _ => none
end
end Mine
namespace Mine
open PySem PySem.W PyProof.Rows PySem.Calls PySem.Spec
section
variable (m : Cm) (sc : Scope)
noncomputable def cIfs : ∀ ifs, Option {p : PTs // ∀ y : Cy, SIfs (y.g sc) ifs p}
  | [] => some ⟨.nil, fun _ => sifs_nil⟩
  | [e] => (m.t sc e).map fun p => ⟨.cons p.1 .nil, fun y => sifs_one (p.2 y)⟩
  | _ => none
structure Cpr (scope : Scope) (tg elt iter : Expr) (ifs : List Expr) where
  cap : List (Nat × Nat)
  nl : Nat
  pt : PT
  pi : PI
  pelt : PE
  pifs : PTs
  h : ∀ y : Cy, CompIs (y.g sc) scope cap nl tg elt iter ifs pt pi pelt pifs
noncomputable def cPr (scope : Scope) (tg elt iter : Expr) (ifs : List Expr) : Option (Cpr sc scope tg elt iter ifs) := (ask (compB sc scope (capOf sc 0 scope.names))).bind fun co => (cG false (relabelS scope sc) tg).bind fun g => (cI (m.e sc) tg g.2.tgt iter).bind fun pi =>
  (cIfs m (relabelS scope sc) ifs).bind fun pf => (m.e (relabelS scope sc) elt).bind fun pe => (fold? iter).map fun hs => ⟨capOf sc 0 scope.names, scope.names.length, g.1, pi.1, pe.1, pf.1, fun y => ⟨compB_ok co.h, pi.2 y, g.2, pf.2 y, pe.2 y, hs.down⟩⟩
inductive One : List Comprehension → Type where
  | mk (tg iter : Expr) (ifs : List Expr) : One [⟨tg, iter, ifs, 0⟩]
noncomputable def one? : ∀ gs, Option (One gs)
  | [⟨tg, iter, ifs, .ofNat 0⟩] => some (.mk tg iter ifs)
  | _ => none
noncomputable def cCpr (e : Expr) (gs : List Comprehension) (scope : Scope) (pos : Pos) : CE sc (.ListComp e gs scope pos) := (one? gs).bind fun o => match o with
  | .mk tg iter ifs => (cPr m sc scope tg e iter ifs).map fun c => ⟨.comp c.pelt c.pt c.pi c.pifs c.cap c.nl, fun y => se_comp (c.h y)⟩
noncomputable def stepE : ∀ e, CE sc e := Alg.at (α := fun e => CE sc e)
  { oth := fun _ => none
    con := cCon sc
    nam := cNam sc
    tup := fun es _ _ => (cEs (m.e sc) es).map fun q => ⟨.tup q.1, fun y => se_tup (q.2 y)⟩
    lst := fun es _ => (cEs (m.e sc) es).map fun q => ⟨.lst q.1, fun y => se_lst (q.2 y)⟩
    dct := fun ks vs pos => match ks, vs with
      | [], [] => some ⟨_, fun _ => se_dct0⟩
      | k :: ks, vs => (cD (m.e sc) (k :: ks) vs).bind fun q => (ask ((k :: ks).all (·.isSome) && (Nat.beq (k :: ks).length vs.length && (Nat.ble (k :: ks).length 15 && Nat.ble q.1.1.length 15)))).map fun h =>
        ⟨.dct q.1.1 q.1.2, fun y => by
          have h := h.h
          rw [Bool.and_eq_true, Bool.and_eq_true, Bool.and_eq_true] at h
          exact se_dct (q.2 y) h.1 (Nat.eq_of_beq_eq_true h.2.1) (Nat.le_of_ble_eq_true h.2.2.1) (Nat.le_of_ble_eq_true h.2.2.2)⟩
      | _, _ => none
    sub := cSub m sc
    att := fun e x pos => (hd? e).bind fun H => (m.e sc e).map fun p => ⟨.att p.1 x.cps.toList, fun y => se_att kok (p.2 y) (H.down.att x pos)⟩
    bin := fun l op r _ => (m.e sc l).bind fun p => (m.e sc r).map fun q => ⟨.bin op p.1 q.1, fun y => se_bin (p.2 y) (q.2 y)⟩
    cmp := fun l ops rs pos => cCmp m sc l pos ops rs
    bop := fun op es pos => cBop m sc pos es op
    una := fun op e pos => cUna m sc e pos op
    ite := fun t a b _ => (m.t sc t).bind fun p => (m.e sc a).bind fun q => (m.e sc b).map fun r => ⟨.ite p.1 q.1 r.1, fun y => se_ite (p.2 y) (q.2 y) (r.2 y)⟩
    cal := fun f es ks pos => cCal m sc f es pos ks
    cpr := cCpr m sc }
noncomputable def tVal (e : Expr) (hw : ∀ env whole, isTrue e env whole = (do let v ← whole; standAt e.pos; holding [v] (truthy v))) : CT sc e := (m.e sc e).map fun p => ⟨.val p.1, fun y => st_val (p.2 y) hw⟩
noncomputable def stepT : ∀ e, CT sc e := Alg.at (α := fun e => CT sc e)
  { oth := fun _ => none
    nam := fun x pos => tVal m sc (.Name x pos) fun _ _ => rfl
    sub := fun e i pos => tVal m sc (.Subscript e i pos) fun _ _ => rfl
    att := fun e x pos => tVal m sc (.Attribute e x pos) fun _ _ => rfl
    cal := fun f es ks pos => tVal m sc (.Call f es ks pos) fun _ _ => rfl
    cmp := fun l ops rs pos => tCmp m sc l pos ops rs
    bop := fun op es pos => tBop m sc pos es op
    una := fun op e pos => tUna m sc e pos op }
noncomputable def aSub (o i : Expr) (pos : Pos) : Option {p : PE × PE // ∀ y : Cy, SA (y.g sc) (.Subscript o i pos) (.sub p.1 p.2)} := (m.e sc o).bind fun p => (m.e sc i).map fun q => ⟨(p.1, q.1), fun y => sa_sub (p.2 y) (q.2 y)⟩
noncomputable def aTwo (k : Nat) (pos : Pos) : ∀ es, CA sc (.Tuple es k pos)
  | [a, b] => Alg.at (α := fun a => CA sc (.Tuple [a, b] k pos)) { oth := fun _ => none, sub := fun o i p1 => (aSub m sc o i p1).bind fun p => Alg.at (α := fun b => CA sc (.Tuple [.Subscript o i p1, b] k pos)) { oth := fun _ => none, sub := fun o2 i2 p2 => (aSub m sc o2 i2 p2).map fun q =>
      ⟨.subs2 p.1.1 p.1.2 q.1.1 q.1.2, fun y => sa_subs2 (p.2 y) (q.2 y)⟩ } b } a
  | _ => none
noncomputable def cA : ∀ t, CA sc t := Alg.at (α := fun t => CA sc t)
  { oth := fun _ => none
    nam := fun x _ => (own? sc x).map fun i => ⟨.loc i.1, fun _ => i.2.elim fun _ h => sa_loc h.1 h.2⟩
    tup := fun es k pos => ((cN true sc es).map fun q => (⟨.locs false q.1, fun _ => sa_locs q.2⟩ : {p : PA // ∀ y : Cy, SA (y.g sc) (.Tuple es k pos) p})).orElse fun _ => aTwo m sc k pos es
    sub := fun o i pos => (aSub m sc o i pos).map fun p => ⟨.sub p.1.1 p.1.2, p.2⟩
    att := fun o x _ => (m.e sc o).map fun p => ⟨.att p.1 x.cps.toList, fun y => sa_att kok (p.2 y)⟩ }
noncomputable def bind? (sc : Scope) : ∀ xs, Option {is : List Nat // BindsAt sc xs is}
  | [] => some ⟨[], rfl⟩
  | x :: r => (own? sc x).bind fun i => (bind? sc r).map fun q => ⟨i.1 :: q.1, i.2.elim fun kd h => ⟨x, kd, r, rfl, h.1, h.2, q.2⟩⟩
end
end Mine
namespace Mine
open PySem PySem.W PyProof.Rows PySem.Calls PySem.Spec
section
variable (m : Cm) (lp : Bool) (sc : Scope) (T : TfFn X 36)
noncomputable def nst? : ∀ t : Expr, Option (PLift (∀ env, assignEach [t] env = [(false, assign t env)])) := Alg.at (α := fun t => Option (PLift (∀ env, assignEach [t] env = [(false, assign t env)])))
  { oth := fun _ => none, nam := fun _ _ => some ⟨fun _ => rfl⟩, tup := fun _ _ _ => some ⟨fun _ => rfl⟩, sub := fun _ _ _ => some ⟨fun _ => rfl⟩, att := fun _ _ _ => some ⟨fun _ => rfl⟩ }
section
variable {sc} {t e : Expr} {env : Env} {l : Nat} {b : Bool}
theorem sw_is (h : isP (swapsWithSole [t] e l (envS sc)) b = true) (he : env.scope = sc) : swapsWithSole [t] e l env = pure b := (swap_env he).trans (isP_ok h)
theorem st_is {r : Option (List Str)} (h : pureOf (swappedStores [t] e (envS sc)) = some r) (he : env.scope = sc) : swappedStores [t] e env = pure r := (stores_env he).trans (of_pureOf h)
end
noncomputable def sAsg (t e : Expr) (pos : Pos) : CS lp sc (.Assign [t] e pos) := (ask (isP (swapsWithSole [t] e pos.line (envS sc)) false)).bind fun hs => (m.e sc e).bind fun p => (look? (pureOf (swappedStores [t] e (envS sc)))).bind fun w => match w with
  | ⟨none, hw⟩ => (nst? t).bind fun hn => (cA m sc t).map fun a => ⟨.asg a.1 p.1, fun y _ => ss_asg (p.2 y) (a.2 y) hn.down (fun _ => sw_is hs.h) fun _ => st_is hw⟩
  | ⟨some xs, hw⟩ => (bind? sc xs).bind fun n => Alg.at (α := fun t => isP (swapsWithSole [t] e pos.line (envS sc)) false = true → pureOf (swappedStores [t] e (envS sc)) = some (some xs) → CS lp sc (.Assign [t] e pos))
      { oth := fun _ _ _ => none, tup := fun _ _ _ h1 h2 => some ⟨.asg (.locs true n.1) p.1, fun y _ => ss_asgR (p.2 y) n.2 (fun _ => sw_is h1) fun _ => st_is h2⟩ } t hs.h hw
noncomputable def sCpr (y : Str) (py spos : Pos) (e : Expr) (gs : List Comprehension) (scope : Scope) (pos : Pos) : CS lp sc (.Assign [.Name y py] (.ListComp e gs scope pos) spos) := (one? gs).bind fun o => match o with
  | .mk tg iter ifs => (ask (isP (swapsWithSole [.Name y py] (.ListComp e [⟨tg, iter, ifs, 0⟩] scope pos) spos.line (envS sc)) true)).bind fun hs => (cPr m sc scope tg e iter ifs).bind fun c => (findN y sc.names).bind fun i => match i with
    | ⟨(i, .local), hi⟩ => some ⟨.asg (.loc i) (.comp c.pelt c.pt c.pi c.pifs c.cap c.nl), fun yy _ => ss_asgC (c.h yy) hi fun _ => sw_is hs.h⟩
    | _ => none
noncomputable def sCp0 (t e : Expr) (spos : Pos) : CS lp sc (.Assign [t] e spos) := Alg.at (α := fun t => CS lp sc (.Assign [t] e spos)) { oth := fun _ => none, nam := fun y py => Alg.at (α := fun e => CS lp sc (.Assign [.Name y py] e spos)) { oth := fun _ => none, cpr := fun e gs scope pos => sCpr m lp sc y py spos e gs scope pos } e } t
noncomputable def sExpr (e : Expr) (pos : Pos) : CS lp sc (.Expr e pos) := (ask (negB (interactive (envS sc)))).bind fun hi => (ask (isP (swapsWith e none pos.line (envS sc)) false)).bind fun hs => (m.e sc e).map fun p => ⟨.expr p.1, fun y _ => ss_expr (p.2 y) (fun _ he => by
  have h := hi.h
  rw [inter_env he]
  cases q : interactive (envS sc) with
  | false => rfl
  | true => rw [q] at h; exact absurd h nofun) fun _ he => (swap0_env he).trans (isP_ok hs.h)⟩
noncomputable def sWhl (t : Expr) (b : List Stmt) (pos : Pos) : ∀ lp, CS lp sc (.While t b [] pos)
  | true => (m.t sc t).bind fun p => (m.ss false sc b).map fun q => ⟨.whl p.1 q.1, fun y h => ss_whl (h rfl) (p.2 y.in) (q.2 y.in nofun)⟩
  | false => none
noncomputable def sRai (x : Str) (np cpos pos : Pos) (e : Expr) : CS lp sc (.Raise (some (.Call (.Name x np) [e] [] cpos)) none pos) := (ref? sc x).bind fun a => match a with
  | ⟨52, h⟩ => (m.e sc e).map fun p => ⟨.raise p.1, fun y _ => ss_raise T h.1 h.2 (p.2 y)⟩
  | _ => none
noncomputable def sRa1 (x : Str) (np cpos pos : Pos) : ∀ es ks, CS lp sc (.Raise (some (.Call (.Name x np) es ks cpos)) none pos)
  | [e], [] => sRai m lp sc T x np cpos pos e
  | _, _ => none
noncomputable def sRa2 (pos : Pos) (e : Expr) : CS lp sc (.Raise (some e) none pos) := Alg.at (α := fun e => CS lp sc (.Raise (some e) none pos)) { oth := fun _ => none, cal := fun f es ks cpos => Alg.at (α := fun f => CS lp sc (.Raise (some (.Call f es ks cpos)) none pos)) { oth := fun _ => none, nam := fun x np => sRa1 m lp sc T x np cpos pos es ks } f } e
noncomputable abbrev CH (e : Expr) : Type := Option {p : PE // SH sc e p}
inductive Ln : Expr → Type where
  | mk (z : Str) (zp p : Pos) (i : Nat) (x : Str) (xp : Pos) (b : BltIs X sc z (.builtin "len")) (h : ∃ kd, sc.names[i]? = some (x, kd)) : Ln (.Call (.Name z zp) [.Name x xp] [] p)
noncomputable def ln0 (z : Str) (zp p : Pos) : ∀ es ks, Option (Ln sc (.Call (.Name z zp) es ks p))
  | [e], [] => Alg.at (α := fun e => Option (Ln sc (.Call (.Name z zp) [e] [] p))) { oth := fun _ => none, nam := fun x xp => (blt? sc .len z).bind fun b => (findN x sc.names).map fun i => .mk z zp p i.1.1 x xp b.down ⟨_, i.2⟩ } e
  | _, _ => none
noncomputable def len? : ∀ e, Option (Ln sc e) := Alg.at (α := fun e => Option (Ln sc e)) { oth := fun _ => none, cal := fun g es ks p => Alg.at (α := fun g => Option (Ln sc (.Call g es ks p))) { oth := fun _ => none, nam := fun z zp => ln0 sc z zp p es ks } g }
noncomputable def hCm2 (l r : Expr) (pos : Pos) (p : Ln sc l) (q : Ln sc r) : CH sc (.Compare l [.NotEq] [r] pos) := match l, p with
  | _, .mk _ _ _ i _ _ b h => match r, q with
    | _, .mk _ _ _ j _ _ b2 h2 => some ⟨.cmp .NotEq (.bi .len (.cons (.loc i) .nil)) (.bi .len (.cons (.loc j) .nil)), h.elim fun _ h => h2.elim fun _ h2 => sh_lens b b2 h h2⟩
noncomputable def hCmp (l : Expr) (pos : Pos) : ∀ ops rs, CH sc (.Compare l ops rs pos)
  | [.NotEq], [r] => (len? sc l).bind fun p => (len? sc r).bind fun q => hCm2 sc l r pos p q
  | _, _ => none
noncomputable def cH : ∀ e, CH sc e := Alg.at (α := CH sc) { oth := fun _ => none, cmp := fun l ops rs pos => hCmp sc l pos ops rs, con := fun c _ _ => match c with
  | .str x => some ⟨.cst (.str x.cps.toList), sh_str⟩
  | _ => none }
noncomputable def sTry (b : List Stmt) (t : Expr) (he : Expr) (rp hp pos : Pos) : CS lp sc (.Try b [.ExceptHandler (some t) none [.Return (some he) rp] hp] [] [] pos) := Alg.at (α := fun t => CS lp sc (.Try b [.ExceptHandler (some t) none [.Return (some he) rp] hp] [] [] pos)) { oth := fun _ => none, nam := fun x np => (ref? sc x).bind fun a => match a with
  | ⟨52, h⟩ => (m.ss lp sc b).bind fun p => (cH sc he).map fun q => ⟨.tryS p.1 q.1, fun y hl => ss_try tfIs h.1 (p.2 y hl) q.2⟩
  | _ => none } t
noncomputable def stepS : ∀ s, CS lp sc s
  | .Assign [t] e pos => (sAsg m lp sc t e pos).orElse fun _ => sCp0 m lp sc t e pos
  | .Expr e pos => sExpr m lp sc e pos
  | .If t a b _ => (m.t sc t).bind fun p => (m.ss lp sc a).bind fun q => (m.ss lp sc b).map fun r => ⟨.ife p.1 q.1 r.1, fun y h => ss_if (p.2 y) (q.2 y h) (r.2 y h)⟩
  | .While t b [] pos => sWhl m sc t b pos lp
  | .For tg it b [] _ => (cG true sc tg).bind fun g => (cI (m.e sc) tg g.2.tgt it).bind fun p => (m.ss lp sc b).bind fun q => (fold? it).map fun hs => ⟨.forS g.1 p.1 q.1, fun y h => ss_for g.2 (p.2 y) (q.2 y h) hs.down⟩
  | .Return (some e) _ => (m.e sc e).map fun p => ⟨.ret p.1, fun y _ => ss_ret (p.2 y)⟩
  | .Break _ => some ⟨.brk, fun _ _ => ss_brk⟩
  | .Continue _ => some ⟨.cont, fun _ _ => ss_cont⟩
  | .Raise (some e) none pos => sRa2 m lp sc T pos e
  | .Try b [.ExceptHandler (some t) none [.Return (some he) rp] hp] [] [] pos => sTry m lp sc b t he rp hp pos
  | _ => none
noncomputable def stepSs : ∀ ss, CSs lp sc ss
  | [] => some ⟨.nil, fun _ _ => sss_nil⟩
  | s :: r => (stepS m lp sc T s).bind fun p => (stepSs r).map fun q => ⟨.cons p.1 q.1, fun y h => sss_cons (p.2 y h) (q.2 y h)⟩
end
noncomputable def rd (T : TfFn X 36) : Nat → Cm
  | 0 => ⟨fun _ _ => none, fun _ _ => none, fun _ _ _ => none⟩
  | n + 1 => ⟨fun sc => stepE (rd T n) sc, fun sc => stepT (rd T n) sc, fun lp sc => stepSs (rd T n) lp sc T⟩
end Mine
namespace Mine
open PySem PySem.W PyProof.Rows PySem.Calls PySem.Spec
noncomputable def funO : Obj → FuncData
  | ⟨_, _, .func F, _⟩ => F
  | _ => default
noncomputable def fdP (P : Params) (f : Addr) : FuncData := ((KK P).lookup f).elim default funO
noncomputable def isFunO : Obj → Bool
  | ⟨_, _, .func _, _⟩ => true
  | _ => false
noncomputable def stmtsOf : FuncBody → List Stmt
  | .stmts b => b
  | _ => []
noncomputable def isSt : FuncBody → Bool
  | .stmts _ => true
  | _ => false
noncomputable def isX (F : FuncData) : Bool := isSt F.body && (F.closure.isEmpty && (Nat.beq F.globals mainGlobals && Nat.beq F.builtins builtinsNs))
theorem isX_ok {F : FuncData} (h : isX F = true) : F = fnX F.name F.qualname F.params (stmtsOf F.body) F.scope [] F.defaults F.kwdefaults F.doc F.pyModule F.annotations F.code F.closureTuple := by
  unfold isX at h
  rw [Bool.and_eq_true, Bool.and_eq_true, Bool.and_eq_true] at h
  obtain ⟨h1, h2, h3, h4⟩ := h
  obtain ⟨name, q, ps, b, sc, g, cl, dV, kV, doc, pm, an, cd, ct, bl⟩ := F
  cases List.isEmpty_iff.mp h2
  cases Nat.eq_of_beq_eq_true h3
  cases Nat.eq_of_beq_eq_true h4
  cases b <;> first | rfl | exact absurd h1 nofun
noncomputable def dvT : Addr → List (Int × Tok)
  | 277 => [(0, 597)]
  | 36 => [(0, 208)]
  | _ => []
noncomputable def dvV (l : List (Int × Tok)) : List Value := l.map fun p => .int p.1 p.2
noncomputable def dvD (l : List (Int × Tok)) : List D := l.map fun p => .int p.1
theorem dv_reps {P : Params} {src : Option Addr} {F : Vw} : ∀ l : List (Int × Tok), DReps P src F (dvV l) (dvD l)
  | [] => rfl
  | p :: r => .cons ⟨p.2, rfl⟩ (dv_reps r)
noncomputable def xsOf (F : FuncData) : List Str := F.params.args.map (·.arg)
noncomputable def nOf (f : Addr) (F : FuncData) : Nat := (xsOf F).length - (dvT f).length
noncomputable def tabF : List Addr := [36, 61, 68, 75, 82, 89, 96, 101, 108, 113, 118, 125, 132, 146, 153, 158, 165, 172, 177, 191, 196, 203, 208, 213, 220, 234, 255, 277, 299, 320, 327, 334, 341, 348, 353, 358, 365, 372, 377, 384, 389, 396, 401, 408]
theorem bnd_all (P : Params) (S : Setting) (a b c d e f g h i : Value) : tabF.map (fun x => peek (KK P) S (bindArgs (fdP P x) ⟨[a, b, c, d, e, f, g, h, i].take (nOf x (fdP P x)), []⟩)) =
    tabF.map fun x => some ((xsOf (fdP P x)).zip ([a, b, c, d, e, f, g, h, i].take (nOf x (fdP P x)) ++ dvV (dvT x))) := by kernel_rfl
noncomputable def scB (sc : Scope) : Bool := fnB sc && (sc.names.all (fun p => !kdB p.2 .free) && (!sc.isCoroutine && !sc.isGenerator))
theorem scB_ok {sc : Scope} (h : scB sc = true) : ScOk sc ∧ sc.isCoroutine = false ∧ sc.isGenerator = false := by
  unfold scB at h
  rw [Bool.and_eq_true, Bool.and_eq_true, Bool.and_eq_true, Bool.not_eq_true', Bool.not_eq_true'] at h
  obtain ⟨h1, h2, h3⟩ := fnB_ok h.1
  refine ⟨⟨h1, h2, h3, fun p hp e => ?_⟩, h.2.2⟩
  have := List.all_eq_true.mp h.2.1 p hp
  rw [e] at this; exact absurd this nofun
theorem few_is {α : Type} (z : α) : ∀ (vs : List α), vs.length ≤ 9 → vs = [vs.getD 0 z, vs.getD 1 z, vs.getD 2 z, vs.getD 3 z, vs.getD 4 z, vs.getD 5 z, vs.getD 6 z, vs.getD 7 z, vs.getD 8 z].take vs.length
  | [], _ => rfl
  | [_], _ => rfl
  | [_, _], _ => rfl
  | [_, _, _], _ => rfl
  | [_, _, _, _], _ => rfl
  | [_, _, _, _, _], _ => rfl
  | [_, _, _, _, _, _], _ => rfl
  | [_, _, _, _, _, _, _], _ => rfl
  | [_, _, _, _, _, _, _, _], _ => rfl
  | [_, _, _, _, _, _, _, _, _], _ => rfl
  | _ :: _ :: _ :: _ :: _ :: _ :: _ :: _ :: _ :: _ :: _, h => absurd h (by simp)
noncomputable def fnOk (P : Params) (f : Addr) : Bool := ((KK P).lookup f).elim false isFunO && (isX (fdP P f) && (codeIn (KK P) (fdP P f).code (fdP P f).qualname && (scB (fdP P f).scope && (Nat.beq (xsOf (fdP P f)).length (nOf f (fdP P f) + (dvT f).length) && Nat.ble (nOf f (fdP P f)) 9))))
theorem fn_all (P : Params) : tabF.all (fnOk P) = true := by kernel_rfl
theorem fn_is {f : Addr} {is : List Nat} (hf : f ∈ tabF) (hb : BindsAt (fdP X.w.params f).scope (xsOf (fdP X.w.params f)) is) :
    FnIs X f (fdP X.w.params f).scope (stmtsOf (fdP X.w.params f).body) (xsOf (fdP X.w.params f)) is (nOf f (fdP X.w.params f)) (dvV (dvT f)) (dvD (dvT f)) := by
  have h := List.all_eq_true.mp (fn_all X.w.params) f hf
  unfold fnOk at h
  rw [Bool.and_eq_true, Bool.and_eq_true, Bool.and_eq_true, Bool.and_eq_true, Bool.and_eq_true] at h
  obtain ⟨h1, h2, h3, h4, h5, h6⟩ := h
  obtain ⟨s1, s2, s3⟩ := scB_ok h4
  have hlen := Nat.eq_of_beq_eq_true h5
  refine ⟨?_, s1, s2, s3, hb, by rw [hlen]; exact congrArg _ (List.length_map ..).symm, fun src => dv_reps _⟩
  cases e : (KK X.w.params).lookup f with
  | none => rw [e] at h1; exact absurd h1 nofun
  | some o =>
    have hfd : fdP X.w.params f = funO o := by unfold fdP; rw [e]; rfl
    have hd : o.data = .func (fdP X.w.params f) := by
      rw [e] at h1
      rw [hfd]
      obtain ⟨c, d, dt, sl⟩ := o
      cases dt <;> first | rfl | exact absurd h1 nofun
    refine ⟨o, _, _, _, _, _, _, _, _, _, _, by rw [X.eK]; exact e, by rw [hd]; exact congrArg _ (isX_ok h2), by rw [X.eK]; exact h3, fun s vs K hl => ?_⟩
    rw [← isX_ok h2]
    refine kp_binds (K := KK X.w.params) (X.eK ▸ K) fun S => ?_
    have hv := few_is .none vs (hl ▸ Nat.le_of_ble_eq_true h6)
    rw [hl] at hv
    have hall := List.map_inj_left.mp (bnd_all X.w.params S (vs.getD 0 .none) (vs.getD 1 .none) (vs.getD 2 .none) (vs.getD 3 .none) (vs.getD 4 .none) (vs.getD 5 .none) (vs.getD 6 .none) (vs.getD 7 .none) (vs.getD 8 .none)) f hf
    rw [← hv] at hall
    exact hall
end Mine
namespace Mine
open PySem PySem.W PyProof.Rows PySem.Calls PySem.Spec
theorem tf_look : ∃ (sc : Scope) (p1 p2 p3 p4 p5 p6 p7 p8 p9 p10 p11 p12 p13 p14 : Pos), ∀ P, (fdP P 36).scope = sc ∧ sc.names = initNames ∧ stmtsOf (fdP P 36).body = initBody p1 p2 p3 p4 p5 p6 p7 p8 p9 p10 p11 p12 p13 p14 ∧ xsOf (fdP P 36) = (["self", "message", "spot"] : List Str) ∧ nOf 36 (fdP P 36) = 2 ∧ (p2.endLine == p5.line) = true :=
  ⟨_, _, _, _, _, _, _, _, _, _, _, _, _, _, _, fun _ => ⟨rfl, rfl, rfl, rfl, rfl, rfl⟩⟩
theorem tfFn : TfFn X 36 := by
  obtain ⟨sc, p1, p2, p3, p4, p5, p6, p7, p8, p9, p10, p11, p12, p13, p14, h⟩ := tf_look
  obtain ⟨h1, h2, h3, h4, h5, h6⟩ := h X.w.params
  have F := fn_is (f := 36) (is := [0, 1, 2]) (.head _) (by rw [h1, h4]; exact ⟨_, .local, _, rfl, by rw [h2]; rfl, .inl rfl, _, .local, _, rfl, by rw [h2]; rfl, .inl rfl, _, .local, _, rfl, by rw [h2]; rfl, .inl rfl, rfl⟩)
  rw [h1, h3, h4, h5] at F
  exact ⟨sc, p1, p2, p3, p4, p5, p6, p7, p8, p9, p10, p11, p12, p13, p14, 208, _, h2, F, fun env => Dot.met ⟨fun _ _ _ => rfl, fun _ _ _ => rfl⟩ (fun _ => rfl) rfl h6⟩
noncomputable abbrev RD : Cm := rd tfFn 30
structure Fn where
  is : List Nat
  nl : Nat
  dds : List D
  keep : Bool
  p : PSs
def FOk (f : Addr) (e : Fn) : Prop := ∃ sc body xs n dvs, FnIs X f sc body xs e.is n dvs e.dds ∧ sc.names.length = e.nl ∧
  ∀ {P P0 : Gp} {d : Nat}, GpOk d P → GpOk d P0 → (∀ t b st Q E, P.whl t b st Q E → WhlOk P0 d t b st Q) → SSs ⟨P, d, sc⟩ body e.p
noncomputable def inits : List Addr := [146, 234, 255, 277, 299]
noncomputable def rdF (f : Addr) : Option {e : Fn // FOk f e} := (ask (tabF.any (Nat.beq f))).bind fun h => (bind? (fdP X.w.params f).scope (xsOf (fdP X.w.params f))).bind fun n => (RD.ss true (fdP X.w.params f).scope (stmtsOf (fdP X.w.params f).body)).map fun p =>
  ⟨⟨n.1, (fdP X.w.params f).scope.names.length, dvD (dvT f), inits.any (Nat.beq f), p.1⟩, _, _, _, _, _, fn_is (by obtain ⟨g, hg, e⟩ := List.any_eq_true.mp h.h; rw [Nat.eq_of_beq_eq_true e]; exact hg) n.2, rfl, fun {P P0 d} h1 h2 h3 => p.2 ⟨P, P0, d, h1, h2⟩ fun _ => h3⟩
end Mine
namespace Mine
open PySem PySem.W PyProof.Rows PySem.Calls
noncomputable abbrev K.A : List Nat := [65]
noncomputable abbrev K.B : List Nat := [66]
noncomputable abbrev K.Copy : List Nat := [67, 111, 112, 121]
noncomputable abbrev K.Drop : List Nat := [68, 114, 111, 112]
noncomputable abbrev K.I : List Nat := [73]
noncomputable abbrev K.P : List Nat := [80]
noncomputable abbrev K.S : List Nat := [83]
noncomputable abbrev K.Self : List Nat := [83, 101, 108, 102]
noncomputable abbrev K.T : List Nat := [84]
noncomputable abbrev K.U : List Nat := [85]
noncomputable abbrev K.V : List Nat := [86]
noncomputable abbrev K.W : List Nat := [87]
noncomputable abbrev K.X : List Nat := [88]
noncomputable abbrev K.Y : List Nat := [89]
noncomputable abbrev K.Z : List Nat := [90]
noncomputable abbrev K.adt : List Nat := [97, 100, 116]
noncomputable abbrev K.adts : List Nat := [97, 100, 116, 115]
noncomputable abbrev K.answer_of : List Nat := [97, 110, 115, 119, 101, 114, 95, 111, 102]
noncomputable abbrev K.array : List Nat := [97, 114, 114, 97, 121]
noncomputable abbrev K.asked : List Nat := [97, 115, 107, 101, 100]
noncomputable abbrev K.bodies : List Nat := [98, 111, 100, 105, 101, 115]
noncomputable abbrev K.bool : List Nat := [98, 111, 111, 108]
noncomputable abbrev K.bound : List Nat := [98, 111, 117, 110, 100]
noncomputable abbrev K.bound_of : List Nat := [98, 111, 117, 110, 100, 95, 111, 102]
noncomputable abbrev K.bounds : List Nat := [98, 111, 117, 110, 100, 115]
noncomputable abbrev K.box : List Nat := [98, 111, 120]
noncomputable abbrev K.c : List Nat := []
noncomputable abbrev K.c109_117_116_32 : List Nat := [109, 117, 116, 32]
noncomputable abbrev K.c110_111_32_105_109_112_108_32_111_102_32 : List Nat := [110, 111, 32, 105, 109, 112, 108, 32, 111, 102, 32]
noncomputable abbrev K.c116_104_101_32_105_109_112_108_32_111_102_32 : List Nat := [116, 104, 101, 32, 105, 109, 112, 108, 32, 111, 102, 32]
noncomputable abbrev K.c116_119_111_32_105_109_112_108_115_32_111_102_32 : List Nat := [116, 119, 111, 32, 105, 109, 112, 108, 115, 32, 111, 102, 32]
noncomputable abbrev K.c32 : List Nat := [32]
noncomputable abbrev K.c32_102_111_114_32 : List Nat := [32, 102, 111, 114, 32]
noncomputable abbrev K.c32_104_97_115_32_110_111_32 : List Nat := [32, 104, 97, 115, 32, 110, 111, 32]
noncomputable abbrev K.c32_104_97_115_32_97_32_112_97_114_97_109_101_116_101_114_32_116_104_97_116_32_110_111_116_104_105_110_103_32_116_101_108_108_115 : List Nat := [32, 104, 97, 115, 32, 97, 32, 112, 97, 114, 97, 109, 101, 116, 101, 114, 32, 116, 104, 97, 116, 32, 110, 111, 116, 104, 105, 110, 103, 32, 116, 101, 108, 108, 115]
noncomputable abbrev K.c32_97_114_101_32_108_101_102_116 : List Nat := [32, 97, 114, 101, 32, 108, 101, 102, 116]
noncomputable abbrev K.c33 : List Nat := [33]
noncomputable abbrev K.c38 : List Nat := [38]
noncomputable abbrev K.c39 : List Nat := [39]
noncomputable abbrev K.c39_97 : List Nat := [39, 97]
noncomputable abbrev K.c40 : List Nat := [40]
noncomputable abbrev K.c41 : List Nat := [41]
noncomputable abbrev K.c44_32 : List Nat := [44, 32]
noncomputable abbrev K.c44_41 : List Nat := [44, 41]
noncomputable abbrev K.c58_58_100_114_111_112 : List Nat := [58, 58, 100, 114, 111, 112]
noncomputable abbrev K.c58_58_109 : List Nat := [58, 58, 109]
noncomputable abbrev K.c58_58_110 : List Nat := [58, 58, 110]
noncomputable abbrev K.c59_32 : List Nat := [59, 32]
noncomputable abbrev K.c60 : List Nat := [60]
noncomputable abbrev K.c62 : List Nat := [62]
noncomputable abbrev K.c65_58_58_109 : List Nat := [65, 58, 58, 109]
noncomputable abbrev K.c65_58_58_110 : List Nat := [65, 58, 58, 110]
noncomputable abbrev K.c66_111_120_60 : List Nat := [66, 111, 120, 60]
noncomputable abbrev K.c73_58_58_109 : List Nat := [73, 58, 58, 109]
noncomputable abbrev K.c83_58_58_100_114_111_112 : List Nat := [83, 58, 58, 100, 114, 111, 112]
noncomputable abbrev K.c87_58_58_100_114_111_112 : List Nat := [87, 58, 58, 100, 114, 111, 112]
noncomputable abbrev K.c91 : List Nat := [91]
noncomputable abbrev K.c93 : List Nat := [93]
noncomputable abbrev K.c97_110_32_105_109_112_108_32_111_102_32 : List Nat := [97, 110, 32, 105, 109, 112, 108, 32, 111, 102, 32]
noncomputable abbrev K.c97_115_32_109_97_110_121_32_116_121_112_101_115_32_97_115_32_112_97_114_97_109_101_116_101_114_115_32_97_114_101_32_119_97_110_116_101_100_32_102_111_114_32 : List Nat := [97, 115, 32, 109, 97, 110, 121, 32, 116, 121, 112, 101, 115, 32, 97, 115, 32, 112, 97, 114, 97, 109, 101, 116, 101, 114, 115, 32, 97, 114, 101, 32, 119, 97, 110, 116, 101, 100, 32, 102, 111, 114, 32]
noncomputable abbrev K.c97_32_116_121_112_101_32_109_117_115_116_32_98_101_32_107_110_111_119_110_32_98_121_32_104_101_114_101_44_32_102_111_114_32 : List Nat := [97, 32, 116, 121, 112, 101, 32, 109, 117, 115, 116, 32, 98, 101, 32, 107, 110, 111, 119, 110, 32, 98, 121, 32, 104, 101, 114, 101, 44, 32, 102, 111, 114, 32]
noncomputable abbrev K.c98_111_117_110_100_115_32_108_101_97_100_32_116_111_111_32_100_101_101_112_58_32 : List Nat := [98, 111, 117, 110, 100, 115, 32, 108, 101, 97, 100, 32, 116, 111, 111, 32, 100, 101, 101, 112, 58, 32]
noncomputable abbrev K.candidates : List Nat := [99, 97, 110, 100, 105, 100, 97, 116, 101, 115]
noncomputable abbrev K.consts : List Nat := [99, 111, 110, 115, 116, 115]
noncomputable abbrev K.defaults : List Nat := [100, 101, 102, 97, 117, 108, 116, 115]
noncomputable abbrev K.drop : List Nat := [100, 114, 111, 112]
noncomputable abbrev K.f : List Nat := [102]
noncomputable abbrev K.fault : List Nat := [102, 97, 117, 108, 116]
noncomputable abbrev K.fn : List Nat := [102, 110]
noncomputable abbrev K.g : List Nat := [103]
noncomputable abbrev K.has_body : List Nat := [104, 97, 115, 95, 98, 111, 100, 121]
noncomputable abbrev K.i8 : List Nat := [105, 56]
noncomputable abbrev K.impl : List Nat := [105, 109, 112, 108]
noncomputable abbrev K.impls : List Nat := [105, 109, 112, 108, 115]
noncomputable abbrev K.inputs : List Nat := [105, 110, 112, 117, 116, 115]
noncomputable abbrev K.int : List Nat := [105, 110, 116]
noncomputable abbrev K.intvar : List Nat := [105, 110, 116, 118, 97, 114]
noncomputable abbrev K.known : List Nat := [107, 110, 111, 119, 110]
noncomputable abbrev K.m : List Nat := [109]
noncomputable abbrev K.maybe : List Nat := [109, 97, 121, 98, 101]
noncomputable abbrev K.method : List Nat := [109, 101, 116, 104, 111, 100]
noncomputable abbrev K.methods : List Nat := [109, 101, 116, 104, 111, 100, 115]
noncomputable abbrev K.modules : List Nat := [109, 111, 100, 117, 108, 101, 115]
noncomputable abbrev K.n : List Nat := [110]
noncomputable abbrev K.needs_of : List Nat := [110, 101, 101, 100, 115, 95, 111, 102]
noncomputable abbrev K.never : List Nat := [110, 101, 118, 101, 114]
noncomputable abbrev K.no : List Nat := [110, 111]
noncomputable abbrev K.number : List Nat := [110, 117, 109, 98, 101, 114]
noncomputable abbrev K.o : List Nat := [111]
noncomputable abbrev K.output : List Nat := [111, 117, 116, 112, 117, 116]
noncomputable abbrev K.own : List Nat := [111, 119, 110]
noncomputable abbrev K.param : List Nat := [112, 97, 114, 97, 109]
noncomputable abbrev K.params : List Nat := [112, 97, 114, 97, 109, 115]
noncomputable abbrev K.path : List Nat := [112, 97, 116, 104]
noncomputable abbrev K.plain : List Nat := [112, 108, 97, 105, 110]
noncomputable abbrev K.ref : List Nat := [114, 101, 102]
noncomputable abbrev K.regions : List Nat := [114, 101, 103, 105, 111, 110, 115]
noncomputable abbrev K.self_kind : List Nat := [115, 101, 108, 102, 95, 107, 105, 110, 100]
noncomputable abbrev K.self_type : List Nat := [115, 101, 108, 102, 95, 116, 121, 112, 101]
noncomputable abbrev K.sigs : List Nat := [115, 105, 103, 115]
noncomputable abbrev K.spot : List Nat := [115, 112, 111, 116]
noncomputable abbrev K.trait : List Nat := [116, 114, 97, 105, 116]
noncomputable abbrev K.trait_args : List Nat := [116, 114, 97, 105, 116, 95, 97, 114, 103, 115]
noncomputable abbrev K.traits : List Nat := [116, 114, 97, 105, 116, 115]
noncomputable abbrev K.tuple : List Nat := [116, 117, 112, 108, 101]
noncomputable abbrev K.u8 : List Nat := [117, 56]
noncomputable abbrev K.var : List Nat := [118, 97, 114]
noncomputable abbrev K.variants : List Nat := [118, 97, 114, 105, 97, 110, 116, 115]
noncomputable abbrev K.world : List Nat := [119, 111, 114, 108, 100]
noncomputable abbrev K.x__ : List Nat := [95]
noncomputable abbrev K.yes : List Nat := [121, 101, 115]
/- head_pairs: 0=one 1=other 2=kind 3=alike -/
noncomputable def e61 : Fn := ⟨[0, 1], 7, [], false, (.cons (.ife (.cmp .NotEq (.sub (.loc 0) (.cst (.int 0))) (.sub (.loc 1) (.cst (.int 0)))) (.cons (.ret (.cst .none)) .nil) .nil) (.cons (.asg (.loc 2) (.sub (.loc 0) (.cst (.int 0)))) (.cons (.ife (.cmp .In (.loc 2) (.tup (.cons (.cst (.str K.int)) (.cons (.cst (.str K.param)) (.cons (.cst (.str K.var)) (.cons (.cst (.str K.intvar)) .nil)))))) (.cons (.ret (.ite (.cmp .Eq (.sub (.loc 0) (.cst (.int 1))) (.sub (.loc 1) (.cst (.int 1)))) (.lst .nil) (.cst .none))) .nil) .nil) (.cons (.ife (.cmp .Eq (.loc 2) (.cst (.str K.tuple))) (.cons (.ret (.ite (.cmp .Eq (.bi .len (.cons (.sub (.loc 0) (.cst (.int 1))) .nil)) (.bi .len (.cons (.sub (.loc 1) (.cst (.int 1))) .nil))) (.lzip (.sub (.loc 0) (.cst (.int 1))) (.sub (.loc 1) (.cst (.int 1)))) (.cst .none))) .nil) .nil) (.cons (.ife (.cmp .Eq (.loc 2) (.cst (.str K.ref))) (.cons (.ret (.ite (.cmp .Eq (.sub (.loc 0) (.cst (.int 2))) (.sub (.loc 1) (.cst (.int 2)))) (.lst (.cons (.tup (.cons (.sub (.loc 0) (.cst (.int 3))) (.cons (.sub (.loc 1) (.cst (.int 3))) .nil))) .nil)) (.cst .none))) .nil) .nil) (.cons (.ife (.cmp .Eq (.loc 2) (.cst (.str K.box))) (.cons (.ret (.lst (.cons (.tup (.cons (.sub (.loc 0) (.cst (.int 1))) (.cons (.sub (.loc 1) (.cst (.int 1))) .nil))) .nil))) .nil) .nil) (.cons (.ife (.cmp .Eq (.loc 2) (.cst (.str K.array))) (.cons (.ret (.ite (.cmp .Eq (.sub (.loc 0) (.cst (.int 2))) (.sub (.loc 1) (.cst (.int 2)))) (.lst (.cons (.tup (.cons (.sub (.loc 0) (.cst (.int 1))) (.cons (.sub (.loc 1) (.cst (.int 1))) .nil))) .nil)) (.cst .none))) .nil) .nil) (.cons (.ife (.cmp .Eq (.loc 2) (.cst (.str K.adt))) (.cons (.asg (.loc 3) (.bop true (.cons (.cmp .Eq (.sub (.loc 0) (.cst (.int 1))) (.sub (.loc 1) (.cst (.int 1)))) (.cons (.cmp .Eq (.bi .len (.cons (.sub (.loc 0) (.cst (.int 3))) .nil)) (.bi .len (.cons (.sub (.loc 1) (.cst (.int 3))) .nil))) .nil)))) (.cons (.ret (.ite (.val (.loc 3)) (.lzip (.sub (.loc 0) (.cst (.int 3))) (.sub (.loc 1) (.cst (.int 3)))) (.cst .none))) .nil)) .nil) (.cons (.ret (.lst .nil)) .nil)))))))))⟩
/- could_be: 0=one 1=other 2=answer 3=left 4=here 5=there 6=kinds 7=pairs -/
noncomputable def e68 : Fn := ⟨[0, 1], 9, [], false, (.cons (.asg (.loc 2) (.cst (.str K.yes))) (.cons (.asg (.loc 3) (.lst (.cons (.tup (.cons (.loc 0) (.cons (.loc 1) .nil))) .nil))) (.cons (.whl (.cmp .NotEq (.loc 3) (.lst .nil)) (.cons (.asg (.locs false [4, 5]) (.meth (.loc 3) .pop .nil)) (.cons (.asg (.loc 6) (.tup (.cons (.sub (.loc 4) (.cst (.int 0))) (.cons (.sub (.loc 5) (.cst (.int 0))) .nil)))) (.cons (.ife (.cmp .Eq (.loc 4) (.loc 5)) (.cons .cont .nil) .nil) (.cons (.ife (.cmp .In (.cst (.str K.var)) (.loc 6)) (.cons (.asg (.loc 2) (.cst (.str K.maybe))) .nil) (.cons (.ife (.cmp .In (.cst (.str K.intvar)) (.loc 6)) (.cons (.ife (.bop false (.cons (.cmp .NotIn (.sub (.loc 6) (.cst (.int 0))) (.tup (.cons (.cst (.str K.int)) (.cons (.cst (.str K.intvar)) .nil)))) (.cons (.cmp .NotIn (.sub (.loc 6) (.cst (.int 1))) (.tup (.cons (.cst (.str K.int)) (.cons (.cst (.str K.intvar)) .nil)))) .nil))) (.cons (.ret (.cst (.str K.no))) .nil) .nil) (.cons (.asg (.loc 2) (.cst (.str K.maybe))) .nil)) (.cons (.asg (.loc 7) (.call 61 (.cons (.loc 4) (.cons (.loc 5) .nil)))) (.cons (.ife (.cmp .Is (.loc 7) (.cst .none)) (.cons (.ret (.cst (.str K.no))) .nil) .nil) (.cons (.expr (.meth (.loc 3) .extend (.cons (.loc 7) .nil))) .nil)))) .nil)) .nil))))) (.cons (.ret (.loc 2)) .nil))))⟩
/- match_type: 0=pattern 1=subject 2=names 3=found 4=answer 5=left 6=here 7=there 8=told 9=pairs -/
noncomputable def e75 : Fn := ⟨[0, 1, 2, 3], 12, [], false, (.cons (.asg (.loc 4) (.cst (.str K.yes))) (.cons (.asg (.loc 5) (.lst (.cons (.tup (.cons (.loc 0) (.cons (.loc 1) .nil))) .nil))) (.cons (.whl (.cmp .NotEq (.loc 5) (.lst .nil)) (.cons (.asg (.locs false [6, 7]) (.meth (.loc 5) .pop .nil)) (.cons (.ife (.bop true (.cons (.cmp .Eq (.sub (.loc 6) (.cst (.int 0))) (.cst (.str K.param))) (.cons (.cmp .In (.sub (.loc 6) (.cst (.int 1))) (.loc 2)) .nil))) (.cons (.asg (.loc 8) (.cst (.str K.yes))) (.cons (.ife (.cmp .In (.sub (.loc 6) (.cst (.int 1))) (.loc 3)) (.cons (.asg (.loc 8) (.call 68 (.cons (.sub (.loc 3) (.sub (.loc 6) (.cst (.int 1)))) (.cons (.loc 7) .nil)))) .nil) (.cons (.asg (.sub (.loc 3) (.sub (.loc 6) (.cst (.int 1)))) (.loc 7)) .nil)) .nil)) (.cons (.ife (.cmp .In (.sub (.loc 7) (.cst (.int 0))) (.tup (.cons (.cst (.str K.var)) (.cons (.cst (.str K.intvar)) .nil)))) (.cons (.asg (.loc 8) (.call 68 (.cons (.loc 6) (.cons (.loc 7) .nil)))) .nil) (.cons (.asg (.loc 9) (.call 61 (.cons (.loc 6) (.cons (.loc 7) .nil)))) (.cons (.asg (.loc 8) (.ite (.cmp .Is (.loc 9) (.cst .none)) (.cst (.str K.no)) (.cst (.str K.yes)))) (.cons (.expr (.meth (.loc 5) .extend (.cons (.bop false (.cons (.loc 9) (.cons (.lst .nil) .nil))) .nil))) .nil)))) .nil)) (.cons (.ife (.cmp .Eq (.loc 8) (.cst (.str K.no))) (.cons (.ret (.cst (.str K.no))) .nil) .nil) (.cons (.asg (.loc 4) (.ite (.cmp .Eq (.loc 8) (.cst (.str K.maybe))) (.cst (.str K.maybe)) (.loc 4))) .nil))))) (.cons (.ret (.loc 4)) .nil))))⟩
/- match_all: 0=patterns 1=subjects 2=names 3=found 4=answer 5=pattern 6=subject 7=told -/
noncomputable def e82 : Fn := ⟨[0, 1, 2, 3], 11, [], false, (.cons (.ife (.cmp .NotEq (.bi .len (.cons (.loc 0) .nil)) (.bi .len (.cons (.loc 1) .nil))) (.cons (.ret (.cst (.str K.no))) .nil) .nil) (.cons (.asg (.loc 4) (.cst (.str K.yes))) (.cons (.forS (.many [5, 6]) (.zip (.loc 0) (.loc 1)) (.cons (.asg (.loc 7) (.call 75 (.cons (.loc 5) (.cons (.loc 6) (.cons (.loc 2) (.cons (.loc 3) .nil)))))) (.cons (.ife (.cmp .Eq (.loc 7) (.cst (.str K.no))) (.cons (.ret (.cst (.str K.no))) .nil) .nil) (.cons (.asg (.loc 4) (.ite (.cmp .Eq (.loc 7) (.cst (.str K.maybe))) (.cst (.str K.maybe)) (.loc 4))) .nil)))) (.cons (.ret (.loc 4)) .nil))))⟩
/- parts_of: 0=told 1=kind -/
noncomputable def e89 : Fn := ⟨[0], 2, [], false, (.cons (.asg (.loc 1) (.sub (.loc 0) (.cst (.int 0)))) (.cons (.ife (.cmp .Eq (.loc 1) (.cst (.str K.ref))) (.cons (.ret (.tup (.cons (.sub (.loc 0) (.cst (.int 3))) .nil))) .nil) .nil) (.cons (.ife (.bop false (.cons (.cmp .Eq (.loc 1) (.cst (.str K.box))) (.cons (.cmp .Eq (.loc 1) (.cst (.str K.array))) .nil))) (.cons (.ret (.tup (.cons (.sub (.loc 0) (.cst (.int 1))) .nil))) .nil) .nil) (.cons (.ife (.cmp .Eq (.loc 1) (.cst (.str K.tuple))) (.cons (.ret (.sub (.loc 0) (.cst (.int 1)))) .nil) .nil) (.cons (.ret (.ite (.cmp .Eq (.loc 1) (.cst (.str K.adt))) (.sub (.loc 0) (.cst (.int 3))) (.tup .nil))) .nil)))))⟩
/- rebuilt: 0=told 1=parts 2=kind -/
noncomputable def e96 : Fn := ⟨[0, 1], 4, [], false, (.cons (.asg (.loc 2) (.sub (.loc 0) (.cst (.int 0)))) (.cons (.ife (.cmp .Eq (.loc 2) (.cst (.str K.ref))) (.cons (.ret (.tup (.cons (.cst (.str K.ref)) (.cons (.sub (.loc 0) (.cst (.int 1))) (.cons (.sub (.loc 0) (.cst (.int 2))) (.cons (.sub (.loc 1) (.cst (.int 0))) .nil)))))) .nil) .nil) (.cons (.ife (.cmp .Eq (.loc 2) (.cst (.str K.box))) (.cons (.ret (.tup (.cons (.cst (.str K.box)) (.cons (.sub (.loc 1) (.cst (.int 0))) .nil)))) .nil) .nil) (.cons (.ife (.cmp .Eq (.loc 2) (.cst (.str K.array))) (.cons (.ret (.tup (.cons (.cst (.str K.array)) (.cons (.sub (.loc 1) (.cst (.int 0))) (.cons (.sub (.loc 0) (.cst (.int 2))) .nil))))) .nil) .nil) (.cons (.ife (.cmp .Eq (.loc 2) (.cst (.str K.tuple))) (.cons (.ret (.tup (.cons (.cst (.str K.tuple)) (.cons (.ty .tuple (.cons (.loc 1) .nil)) .nil)))) .nil) .nil) (.cons (.ret (.ite (.cmp .Eq (.loc 2) (.cst (.str K.adt))) (.tup (.cons (.cst (.str K.adt)) (.cons (.sub (.loc 0) (.cst (.int 1))) (.cons (.sub (.loc 0) (.cst (.int 2))) (.cons (.ty .tuple (.cons (.loc 1) .nil)) .nil))))) (.loc 0))) .nil))))))⟩
/- substituted: 0=told 1=table -/
noncomputable def e101 : Fn := ⟨[0, 1], 4, [], false, (.cons (.ife (.cmp .Eq (.sub (.loc 0) (.cst (.int 0))) (.cst (.str K.param))) (.cons (.ret (.meth (.loc 1) .get (.cons (.sub (.loc 0) (.cst (.int 1))) (.cons (.loc 0) .nil)))) .nil) .nil) (.cons (.ret (.call 96 (.cons (.loc 0) (.cons (.comp (.call 101 (.cons (.loc 1) (.cons (.loc 3) .nil))) (.one 1) (.seq (.call 89 (.cons (.loc 0) .nil))) .nil [(3, 1)] 4) .nil)))) .nil))⟩
/- region_text: 0=region -/
noncomputable def e108 : Fn := ⟨[0], 3, [], false, (.cons (.ife (.cmp .Is (.loc 0) (.cst .none)) (.cons (.ret (.cst (.str K.c))) .nil) .nil) (.cons (.ret (.ite (.val (.bi .isstr (.cons (.loc 0) .nil))) (.loc 0) (.bin .Add (.cst (.str K.c39)) (.ty .str (.cons (.loc 0) .nil))))) .nil))⟩
/- type_text: 0=told 1=kind 2=inner 3=region -/
noncomputable def e113 : Fn := ⟨[0], 8, [], false, (.cons (.asg (.loc 1) (.sub (.loc 0) (.cst (.int 0)))) (.cons (.ife (.bop false (.cons (.cmp .Eq (.loc 1) (.cst (.str K.int))) (.cons (.cmp .Eq (.loc 1) (.cst (.str K.param))) .nil))) (.cons (.ret (.sub (.loc 0) (.cst (.int 1)))) .nil) .nil) (.cons (.ife (.cmp .Eq (.loc 1) (.cst (.str K.bool))) (.cons (.ret (.cst (.str K.bool))) .nil) .nil) (.cons (.ife (.cmp .Eq (.loc 1) (.cst (.str K.never))) (.cons (.ret (.cst (.str K.c33))) .nil) .nil) (.cons (.ife (.bop false (.cons (.cmp .Eq (.loc 1) (.cst (.str K.var))) (.cons (.cmp .Eq (.loc 1) (.cst (.str K.intvar))) .nil))) (.cons (.ret (.cst (.str K.x__))) .nil) .nil) (.cons (.asg (.loc 2) (.comp (.call 113 (.cons (.loc 1) .nil)) (.one 1) (.seq (.call 89 (.cons (.loc 0) .nil))) .nil [] 3)) (.cons (.ife (.cmp .Eq (.loc 1) (.cst (.str K.ref))) (.cons (.asg (.loc 3) (.call 108 (.cons (.sub (.loc 0) (.cst (.int 1))) .nil))) (.cons (.ret (.bin .Add (.bin .Add (.bin .Add (.cst (.str K.c38)) (.ite (.cmp .NotEq (.loc 3) (.cst (.str K.c))) (.bin .Add (.loc 3) (.cst (.str K.c32))) (.cst (.str K.c)))) (.ite (.val (.sub (.loc 0) (.cst (.int 2)))) (.cst (.str K.c109_117_116_32)) (.cst (.str K.c)))) (.sub (.loc 2) (.cst (.int 0))))) .nil)) .nil) (.cons (.ife (.cmp .Eq (.loc 1) (.cst (.str K.box))) (.cons (.ret (.bin .Add (.bin .Add (.cst (.str K.c66_111_120_60)) (.sub (.loc 2) (.cst (.int 0)))) (.cst (.str K.c62)))) .nil) .nil) (.cons (.ife (.cmp .Eq (.loc 1) (.cst (.str K.array))) (.cons (.ret (.bin .Add (.bin .Add (.bin .Add (.bin .Add (.cst (.str K.c91)) (.sub (.loc 2) (.cst (.int 0)))) (.cst (.str K.c59_32))) (.ty .str (.cons (.sub (.loc 0) (.cst (.int 2))) .nil))) (.cst (.str K.c93)))) .nil) .nil) (.cons (.ife (.cmp .Eq (.loc 1) (.cst (.str K.tuple))) (.cons (.ret (.ite (.cmp .Eq (.bi .len (.cons (.loc 2) .nil)) (.cst (.int 1))) (.bin .Add (.bin .Add (.cst (.str K.c40)) (.sub (.loc 2) (.cst (.int 0)))) (.cst (.str K.c44_41))) (.bin .Add (.bin .Add (.cst (.str K.c40)) (.meth (.cst (.str K.c44_32)) .join (.cons (.loc 2) .nil))) (.cst (.str K.c41))))) .nil) .nil) (.cons (.asg (.loc 2) (.bin .Add (.comp (.call 108 (.cons (.loc 1) .nil)) (.one 1) (.seq (.sub (.loc 0) (.cst (.int 2)))) (.cons (.cmp .IsNot (.loc 1) (.cst .none)) .nil) [] 3) (.loc 2))) (.cons (.ret (.bin .Add (.sub (.loc 0) (.cst (.int 1))) (.ite (.cmp .NotEq (.loc 2) (.lst .nil)) (.bin .Add (.bin .Add (.cst (.str K.c60)) (.meth (.cst (.str K.c44_32)) .join (.cons (.loc 2) .nil))) (.cst (.str K.c62))) (.cst (.str K.c))))) .nil))))))))))))⟩
/- names_of: 0=impl -/
noncomputable def e118 : Fn := ⟨[0], 1, [], false, (.cons (.ret (.comp (.loc 1) (.many [1, 2]) (.seq (.att (.loc 0) K.params)) .nil [] 3)) .nil)⟩
/- matches_impl: 0=impl 1=trait_args 2=T 3=found 4=patterns -/
noncomputable def e125 : Fn := ⟨[0, 1, 2], 9, [], false, (.cons (.asg (.loc 3) (.dct [] .nil)) (.cons (.asg (.loc 4) (.tup (.cons (.att (.loc 0) K.self_type) .nil))) (.cons (.ife (.cmp .Gt (.bi .len (.cons (.loc 1) .nil)) (.cst (.int 0))) (.cons (.asg (.loc 4) (.bin .Add (.ty .tuple (.cons (.att (.loc 0) K.trait_args) .nil)) (.loc 4))) .nil) .nil) (.cons (.ret (.tup (.cons (.call 82 (.cons (.loc 4) (.cons (.bin .Add (.ty .tuple (.cons (.loc 1) .nil)) (.tup (.cons (.loc 2) .nil))) (.cons (.call 118 (.cons (.loc 0) .nil)) (.cons (.loc 3) .nil))))) (.cons (.loc 3) .nil)))) .nil))))⟩
/- Selection.__init__: 0=self 1=world 2=bounds -/
noncomputable def e146 : Fn := ⟨[0, 1, 2], 3, [], true, (.cons (.asg (.att (.loc 0) K.world) (.loc 1)) (.cons (.asg (.att (.loc 0) K.bounds) (.loc 2)) (.cons (.asg (.att (.loc 0) K.known) (.dct [] .nil)) .nil)))⟩
/- Selection.bound_of: 0=self 1=trait 2=T -/
noncomputable def e153 : Fn := ⟨[0, 1, 2], 3, [], false, (.cons (.ife (.bop true (.cons (.cmp .Eq (.sub (.loc 2) (.cst (.int 0))) (.cst (.str K.param))) (.cons (.cmp .In (.loc 1) (.meth (.att (.loc 0) K.bounds) .get (.cons (.sub (.loc 2) (.cst (.int 1))) (.cons (.tup .nil) .nil)))) .nil))) (.cons (.ret (.tup (.cons (.cst (.str K.bound)) (.cons (.sub (.loc 2) (.cst (.int 1))) .nil)))) .nil) .nil) (.cons (.ret (.cst .none)) .nil))⟩
/- Selection.needs_of: 0=self 1=impl 2=found 3=needs 4=name 5=traits -/
noncomputable def e158 : Fn := ⟨[0, 1, 2], 6, [], false, (.cons (.asg (.loc 3) (.lst .nil)) (.cons (.forS (.many [4, 5]) (.seq (.att (.loc 1) K.params)) (.cons (.ife (.cmp .In (.loc 4) (.loc 2)) (.cons (.expr (.meth (.loc 3) .extend (.cons (.comp (.tup (.cons (.loc 1) (.cons (.sub (.loc 2) (.loc 3)) .nil))) (.one 1) (.seq (.loc 5)) .nil [(2, 2), (3, 4)] 4) .nil))) .nil) .nil) .nil)) (.cons (.ret (.loc 3)) .nil)))⟩
/- Selection.candidates: 0=self 1=trait 2=args 3=T 4=deep 5=rows 6=impl 7=answer 8=found 9=other 10=part 11=told -/
noncomputable def e165 : Fn := ⟨[0, 1, 2, 3, 4], 13, [], false, (.cons (.asg (.loc 5) (.lst .nil)) (.cons (.forS (.one 6) (.seq (.att (.att (.loc 0) K.world) K.impls)) (.cons (.ife (.cmp .Eq (.att (.loc 6) K.trait) (.loc 1)) (.cons (.asg (.locs false [7, 8]) (.call 125 (.cons (.loc 6) (.cons (.loc 2) (.cons (.loc 3) .nil))))) (.cons (.forS (.many [9, 10]) (.seq (.ite (.cmp .NotEq (.loc 7) (.cst (.str K.no))) (.methf (.loc 0) K.needs_of 180 158 (.cons (.loc 6) (.cons (.loc 8) .nil))) (.lst .nil))) (.cons (.asg (.loc 11) (.methf (.loc 0) K.asked 180 172 (.cons (.loc 9) (.cons (.tup .nil) (.cons (.loc 10) (.cons (.bin .Add (.loc 4) (.cst (.int 1))) .nil)))))) (.cons (.asg (.loc 7) (.ite (.cmp .Eq (.loc 11) (.cst (.str K.no))) (.cst (.str K.no)) (.ite (.bop true (.cons (.cmp .Eq (.loc 11) (.cst (.str K.maybe))) (.cons (.cmp .Eq (.loc 7) (.cst (.str K.yes))) .nil))) (.cst (.str K.maybe)) (.loc 7)))) (.cons (.ife (.cmp .Eq (.loc 7) (.cst (.str K.no))) (.cons .brk .nil) .nil) .nil)))) (.cons (.ife (.cmp .NotEq (.loc 7) (.cst (.str K.no))) (.cons (.expr (.meth (.loc 5) .append (.cons (.tup (.cons (.loc 7) (.cons (.att (.loc 6) K.number) (.cons (.loc 8) .nil)))) .nil))) .nil) .nil) .nil))) .nil) .nil)) (.cons (.ret (.loc 5)) .nil)))⟩
/- Selection.asked: 0=self 1=trait 2=args 3=T 4=deep -/
noncomputable def e172 : Fn := ⟨[0, 1, 2, 3, 4], 7, [], false, (.cons (.ife (.cmp .Gt (.loc 4) (.cst (.int 60))) (.cons (.raise (.bin .Add (.cst (.str K.c98_111_117_110_100_115_32_108_101_97_100_32_116_111_111_32_100_101_101_112_58_32)) (.loc 1))) .nil) .nil) (.cons (.ife (.cmp .NotIn (.tup (.cons (.loc 1) (.cons (.loc 2) (.cons (.loc 3) .nil)))) (.att (.loc 0) K.known)) (.cons (.asg (.sub (.att (.loc 0) K.known) (.tup (.cons (.loc 1) (.cons (.loc 2) (.cons (.loc 3) .nil))))) (.methf (.loc 0) K.answer_of 180 177 (.cons (.loc 1) (.cons (.loc 2) (.cons (.loc 3) (.cons (.loc 4) .nil)))))) .nil) .nil) (.cons (.ret (.sub (.att (.loc 0) K.known) (.tup (.cons (.loc 1) (.cons (.loc 2) (.cons (.loc 3) .nil)))))) .nil)))⟩
/- Selection.answer_of: 0=self 1=trait 2=args 3=T 4=deep 5=parts 6=answers 7=rows -/
noncomputable def e177 : Fn := ⟨[0, 1, 2, 3, 4], 10, [], false, (.cons (.ife (.cmp .IsNot (.methf (.loc 0) K.bound_of 180 153 (.cons (.loc 1) (.cons (.loc 3) .nil))) (.cst .none)) (.cons (.ret (.cst (.str K.yes))) .nil) .nil) (.cons (.ife (.cmp .Eq (.sub (.loc 3) (.cst (.int 0))) (.cst (.str K.var))) (.cons (.ret (.cst (.str K.maybe))) .nil) .nil) (.cons (.asg (.loc 5) (.ite (.cmp .Eq (.loc 1) (.cst (.str K.Copy))) (.call 132 (.cons (.loc 3) .nil)) (.cst .none))) (.cons (.ife (.cmp .IsNot (.loc 5) (.cst .none)) (.cons (.asg (.loc 6) (.comp (.methf (.loc 3) K.asked 180 172 (.cons (.loc 4) (.cons (.tup .nil) (.cons (.loc 1) (.cons (.bin .Add (.loc 2) (.cst (.int 1))) .nil))))) (.one 1) (.seq (.loc 5)) .nil [(2, 4), (3, 0), (4, 1)] 5)) (.cons (.ret (.ite (.cmp .In (.cst (.str K.no)) (.loc 6)) (.cst (.str K.no)) (.ite (.cmp .In (.cst (.str K.maybe)) (.loc 6)) (.cst (.str K.maybe)) (.cst (.str K.yes))))) .nil)) .nil) (.cons (.asg (.loc 7) (.methf (.loc 0) K.candidates 180 165 (.cons (.loc 1) (.cons (.loc 2) (.cons (.loc 3) (.cons (.loc 4) .nil)))))) (.cons (.ife (.cmp .Eq (.loc 7) (.lst .nil)) (.cons (.ret (.cst (.str K.no))) .nil) .nil) (.cons (.ret (.ite (.cmp .In (.cst (.str K.yes)) (.comp (.loc 1) (.many [1, 2, 3]) (.seq (.loc 7)) .nil [] 4)) (.cst (.str K.yes)) (.cst (.str K.maybe)))) .nil)))))))⟩
/- select: 0=world 1=trait 2=args 3=T 4=bounds 5=selection 6=found 7=rows -/
noncomputable def e191 : Fn := ⟨[0, 1, 2, 3, 4], 13, [], false, (.cons (.asg (.loc 5) (.new 180 146 false (.cons (.loc 0) (.cons (.loc 4) .nil)))) (.cons (.ife (.cmp .Eq (.sub (.loc 3) (.cst (.int 0))) (.cst (.str K.var))) (.cons (.raise (.bin .Add (.cst (.str K.c97_32_116_121_112_101_32_109_117_115_116_32_98_101_32_107_110_111_119_110_32_98_121_32_104_101_114_101_44_32_102_111_114_32)) (.loc 1))) .nil) .nil) (.cons (.asg (.loc 6) (.methf (.loc 5) K.bound_of 180 153 (.cons (.loc 1) (.cons (.loc 3) .nil)))) (.cons (.ife (.cmp .IsNot (.loc 6) (.cst .none)) (.cons (.ret (.loc 6)) .nil) .nil) (.cons (.ife (.bop true (.cons (.cmp .Eq (.loc 1) (.cst (.str K.Copy))) (.cons (.cmp .IsNot (.call 132 (.cons (.loc 3) .nil)) (.cst .none)) .nil))) (.cons (.ret (.ite (.cmp .Eq (.methf (.loc 5) K.asked 180 172 (.cons (.loc 1) (.cons (.loc 2) (.cons (.loc 3) (.cons (.cst (.int 0)) .nil))))) (.cst (.str K.yes))) (.tup (.cons (.cst (.str K.plain)) .nil)) (.cst .none))) .nil) .nil) (.cons (.asg (.loc 7) (.methf (.loc 5) K.candidates 180 165 (.cons (.loc 1) (.cons (.loc 2) (.cons (.loc 3) (.cons (.cst (.int 0)) .nil)))))) (.cons (.ife (.cmp .Gt (.bi .len (.cons (.loc 7) .nil)) (.cst (.int 1))) (.cons (.raise (.bin .Add (.bin .Add (.cst (.str K.c116_119_111_32_105_109_112_108_115_32_111_102_32)) (.loc 1)) (.cst (.str K.c32_97_114_101_32_108_101_102_116)))) .nil) .nil) (.cons (.ret (.ite (.cmp .NotEq (.loc 7) (.lst .nil)) (.tup (.cons (.cst (.str K.impl)) (.cons (.sub (.sub (.loc 7) (.cst (.int 0))) (.cst (.int 1))) (.cons (.sub (.sub (.loc 7) (.cst (.int 0))) (.cst (.int 2))) .nil)))) (.cst .none))) .nil))))))))⟩
/- param_names: 0=world 1=path -/
noncomputable def e196 : Fn := ⟨[0, 1], 2, [], false, (.cons (.ret (.comp (.loc 1) (.many [1, 2]) (.seq (.att (.sub (.att (.loc 0) K.sigs) (.loc 1)) K.params)) .nil [] 3)) .nil)⟩
/- substitution_of: 0=world 1=path 2=types 3=names -/
noncomputable def e203 : Fn := ⟨[0, 1, 2], 9, [], false, (.cons (.asg (.loc 3) (.call 196 (.cons (.loc 0) (.cons (.loc 1) .nil)))) (.cons (.ife (.cmp .NotEq (.bi .len (.cons (.loc 3) .nil)) (.bi .len (.cons (.loc 2) .nil))) (.cons (.raise (.bin .Add (.cst (.str K.c97_115_32_109_97_110_121_32_116_121_112_101_115_32_97_115_32_112_97_114_97_109_101_116_101_114_115_32_97_114_101_32_119_97_110_116_101_100_32_102_111_114_32)) (.loc 1))) .nil) .nil) (.cons (.ret (.dzip (.loc 3) (.loc 2))) .nil)))⟩
/- closed_ref: 0=reference 1=table 2=types -/
noncomputable def e208 : Fn := ⟨[0, 1], 5, [], false, (.cons (.asg (.loc 2) (.ty .tuple (.cons (.comp (.call 101 (.cons (.loc 1) (.cons (.loc 3) .nil))) (.one 1) (.seq (.sub (.loc 0) (.neg (.cst (.int 1))))) .nil [(3, 1)] 4) .nil))) (.cons (.ife (.cmp .Eq (.sub (.loc 0) (.cst (.int 0))) (.cst (.str K.fn))) (.cons (.ret (.tup (.cons (.cst (.str K.fn)) (.cons (.sub (.loc 0) (.cst (.int 1))) (.cons (.loc 2) .nil))))) .nil) .nil) (.cons (.ret (.tup (.cons (.cst (.str K.method)) (.cons (.sub (.loc 0) (.cst (.int 1))) (.cons (.sub (.loc 0) (.cst (.int 2))) (.cons (.call 101 (.cons (.sub (.loc 0) (.cst (.int 3))) (.cons (.loc 1) .nil))) (.cons (.loc 2) .nil))))))) .nil)))⟩
/- resolved_ref: 0=world 1=reference 2=kind 3=trait 4=name 5=own 6=types 7=row 8=args 9=more 10=found 11=impl 12=table -/
noncomputable def e213 : Fn := ⟨[0, 1], 18, [], false, (.cons (.ife (.cmp .Eq (.sub (.loc 1) (.cst (.int 0))) (.cst (.str K.fn))) (.cons (.ret (.loc 1)) .nil) .nil) (.cons (.asg (.locs false [2, 3, 4, 5, 6]) (.loc 1)) (.cons (.asg (.loc 7) (.sub (.att (.loc 0) K.traits) (.loc 3))) (.cons (.asg (.locs true [8, 9]) (.tup (.cons (.slTo (.loc 6) (.bi .len (.cons (.att (.loc 7) K.params) .nil))) (.cons (.slFrom (.loc 6) (.bi .len (.cons (.att (.loc 7) K.params) .nil))) .nil)))) (.cons (.asg (.loc 10) (.call 191 (.cons (.loc 0) (.cons (.loc 3) (.cons (.loc 8) (.cons (.loc 5) (.cons (.dct [] .nil) .nil))))))) (.cons (.ife (.bop false (.cons (.cmp .Is (.loc 10) (.cst .none)) (.cons (.cmp .NotEq (.sub (.loc 10) (.cst (.int 0))) (.cst (.str K.impl))) .nil))) (.cons (.raise (.bin .Add (.bin .Add (.bin .Add (.cst (.str K.c110_111_32_105_109_112_108_32_111_102_32)) (.loc 3)) (.cst (.str K.c32_102_111_114_32))) (.call 113 (.cons (.loc 5) .nil)))) .nil) .nil) (.cons (.asg (.locs false [11, 12]) (.tup (.cons (.sub (.att (.loc 0) K.impls) (.sub (.loc 10) (.cst (.int 1)))) (.cons (.sub (.loc 10) (.cst (.int 2))) .nil)))) (.cons (.ife (.cmp .NotEq (.comp (.loc 1) (.many [1, 2]) (.seq (.att (.loc 11) K.params)) (.cons (.cmp .NotIn (.loc 1) (.loc 3)) .nil) [(3, 12)] 4) (.lst .nil)) (.cons (.raise (.bin .Add (.bin .Add (.cst (.str K.c97_110_32_105_109_112_108_32_111_102_32)) (.loc 3)) (.cst (.str K.c32_104_97_115_32_97_32_112_97_114_97_109_101_116_101_114_32_116_104_97_116_32_110_111_116_104_105_110_103_32_116_101_108_108_115)))) .nil) .nil) (.cons (.ife (.cmp .In (.loc 4) (.att (.loc 11) K.methods)) (.cons (.ret (.tup (.cons (.cst (.str K.fn)) (.cons (.sub (.att (.loc 11) K.methods) (.loc 4)) (.cons (.bin .Add (.ty .tuple (.cons (.comp (.sub (.loc 3) (.loc 1)) (.many [1, 2]) (.seq (.att (.loc 11) K.params)) .nil [(3, 12)] 4) .nil)) (.ty .tuple (.cons (.loc 9) .nil))) .nil))))) .nil) .nil) (.cons (.ife (.cmp .NotIn (.loc 4) (.att (.loc 7) K.defaults)) (.cons (.raise (.bin .Add (.bin .Add (.bin .Add (.bin .Add (.bin .Add (.cst (.str K.c116_104_101_32_105_109_112_108_32_111_102_32)) (.loc 3)) (.cst (.str K.c32_102_111_114_32))) (.call 113 (.cons (.loc 5) .nil))) (.cst (.str K.c32_104_97_115_32_110_111_32))) (.loc 4))) .nil) .nil) (.cons (.ret (.tup (.cons (.cst (.str K.fn)) (.cons (.sub (.att (.loc 7) K.defaults) (.loc 4)) (.cons (.bin .Add (.bin .Add (.tup (.cons (.loc 5) .nil)) (.ty .tuple (.cons (.loc 8) .nil))) (.ty .tuple (.cons (.loc 9) .nil))) .nil))))) .nil)))))))))))⟩
/- drop_impl: 0=world 1=T 2=found -/
noncomputable def e220 : Fn := ⟨[0, 1], 6, [], false, (.cons (.ife (.bop false (.cons (.cmp .NotEq (.sub (.loc 1) (.cst (.int 0))) (.cst (.str K.adt))) (.cons (.cmp .NotIn (.cst (.str K.Drop)) (.att (.loc 0) K.traits)) .nil))) (.cons (.ret (.cst .none)) .nil) .nil) (.cons (.asg (.loc 2) (.call 191 (.cons (.loc 0) (.cons (.cst (.str K.Drop)) (.cons (.tup .nil) (.cons (.loc 1) (.cons (.dct [] .nil) .nil))))))) (.cons (.ife (.bop false (.cons (.cmp .Is (.loc 2) (.cst .none)) (.cons (.cmp .NotEq (.sub (.loc 2) (.cst (.int 0))) (.cst (.str K.impl))) .nil))) (.cons (.ret (.cst .none)) .nil) .nil) (.cons (.ret (.call 213 (.cons (.loc 0) (.cons (.tup (.cons (.cst (.str K.method)) (.cons (.cst (.str K.Drop)) (.cons (.cst (.str K.drop)) (.cons (.loc 1) (.cons (.tup .nil) .nil)))))) .nil)))) .nil))))⟩
/- Sig.__init__: 0=self 1=path 2=regions 3=params 4=own 5=inputs 6=output 7=self_kind 8=has_body -/
noncomputable def e234 : Fn := ⟨[0, 1, 2, 3, 4, 5, 6, 7, 8], 9, [], true, (.cons (.asg (.att (.loc 0) K.path) (.loc 1)) (.cons (.asg (.att (.loc 0) K.regions) (.loc 2)) (.cons (.asg (.att (.loc 0) K.params) (.loc 3)) (.cons (.asg (.att (.loc 0) K.own) (.loc 4)) (.cons (.asg (.att (.loc 0) K.inputs) (.loc 5)) (.cons (.asg (.att (.loc 0) K.output) (.loc 6)) (.cons (.asg (.att (.loc 0) K.self_kind) (.loc 7)) (.cons (.asg (.att (.loc 0) K.has_body) (.loc 8)) .nil))))))))⟩
/- TraitRow.__init__: 0=self 1=path 2=params 3=methods 4=defaults -/
noncomputable def e255 : Fn := ⟨[0, 1, 2, 3, 4], 5, [], true, (.cons (.asg (.att (.loc 0) K.path) (.loc 1)) (.cons (.asg (.att (.loc 0) K.params) (.loc 2)) (.cons (.asg (.att (.loc 0) K.methods) (.loc 3)) (.cons (.asg (.att (.loc 0) K.defaults) (.loc 4)) .nil))))⟩
/- ImplRow.__init__: 0=self 1=number 2=regions 3=params 4=trait 5=trait_args 6=self_type 7=methods 8=spot -/
noncomputable def e277 : Fn := ⟨[0, 1, 2, 3, 4, 5, 6, 7, 8], 9, [.int 0], true, (.cons (.asg (.att (.loc 0) K.number) (.loc 1)) (.cons (.asg (.att (.loc 0) K.regions) (.loc 2)) (.cons (.asg (.att (.loc 0) K.params) (.loc 3)) (.cons (.asg (.att (.loc 0) K.trait) (.loc 4)) (.cons (.asg (.att (.loc 0) K.trait_args) (.loc 5)) (.cons (.asg (.att (.loc 0) K.self_type) (.loc 6)) (.cons (.asg (.att (.loc 0) K.methods) (.loc 7)) (.cons (.asg (.att (.loc 0) K.spot) (.loc 8)) .nil))))))))⟩
/- World.__init__: 0=self 1=modules -/
noncomputable def e299 : Fn := ⟨[0, 1], 2, [], true, (.cons (.asg (.att (.loc 0) K.modules) (.loc 1)) (.cons (.asg (.att (.loc 0) K.adts) (.dct [] .nil)) (.cons (.asg (.att (.loc 0) K.variants) (.dct [] .nil)) (.cons (.asg (.att (.loc 0) K.sigs) (.dct [] .nil)) (.cons (.asg (.att (.loc 0) K.traits) (.dct [] .nil)) (.cons (.asg (.att (.loc 0) K.impls) (.lst .nil)) (.cons (.asg (.att (.loc 0) K.consts) (.dct [] .nil)) (.cons (.asg (.att (.loc 0) K.bodies) (.dct [] .nil)) .nil))))))))⟩
/- _law_pool: 0=script 1=k 2=cell 3=big 4=mixed -/
noncomputable def e320 : Fn := ⟨[0, 1], 8, [], false, (.cons (.asg (.loc 2) (.ite (.cmp .Lt (.loc 1) (.bi .len (.cons (.loc 0) .nil))) (.sub (.loc 0) (.loc 1)) (.cst (.int 0)))) (.cons (.asg (.loc 3) (.bi .max (.cons (.ty .int (.cons (.loc 2) .nil)) (.cons (.ty .int (.cons (.bin .Sub (.neg (.cst (.int 1))) (.loc 2)) .nil)) .nil)))) (.cons (.asg (.loc 4) (.bin .Mod (.ty .int (.cons (.bin .Mult (.bin .Add (.bin .Add (.bin .Add (.bin .Mod (.ty .int (.cons (.loc 3) .nil)) (.cst (.int 2147483629))) (.bin .Mult (.bin .Mult (.cst (.int 7919)) (.loc 1)) (.loc 1))) (.bin .Mult (.cst (.int 31)) (.loc 1))) (.cst (.int 17))) (.cst (.int 48271))) .nil)) (.cst (.int 2147483647)))) (.cons (.ret (.lst (.cons (.bin .Mult (.loc 3) (.ty .int (.cons (.cmp .GtE (.loc 3) (.bin .Pow (.cst (.int 10)) (.cst (.int 18)))) .nil))) (.cons (.loc 4) .nil)))) .nil))))⟩
/- _law_take: 0=source 1=top 2=drawn -/
noncomputable def e327 : Fn := ⟨[0, 1], 4, [], false, (.cons (.ife (.cmp .Gt (.sub (.loc 0) (.cst (.int 0))) (.cst (.int 0))) (.cons (.asg (.loc 2) (.bin .Mod (.ty .int (.cons (.sub (.loc 0) (.cst (.int 0))) .nil)) (.loc 1))) (.cons (.asg (.sub (.loc 0) (.cst (.int 0))) (.bin .FloorDiv (.sub (.loc 0) (.cst (.int 0))) (.loc 1))) (.cons (.ret (.loc 2)) .nil))) .nil) (.cons (.asg (.sub (.loc 0) (.cst (.int 1))) (.bin .Mod (.ty .int (.cons (.bin .Add (.bin .Mult (.sub (.loc 0) (.cst (.int 1))) (.cst (.int 39373))) (.cst (.int 7))) .nil)) (.cst (.int 2147483647)))) (.cons (.ret (.bin .Mod (.ty .int (.cons (.bin .FloorDiv (.bin .Mod (.ty .int (.cons (.bin .Mult (.sub (.loc 0) (.cst (.int 1))) (.sub (.loc 0) (.cst (.int 1)))) .nil)) (.cst (.int 2147483629))) (.cst (.int 32))) .nil)) (.loc 1))) .nil)))⟩
/- _law_one: 0=source 1=things -/
noncomputable def e334 : Fn := ⟨[0, 1], 4, [], false, (.cons (.ret (.sub (.loc 1) (.call 327 (.cons (.loc 0) (.cons (.bi .len (.cons (.loc 1) .nil)) .nil))))) .nil)⟩
/- _law_twins: 0=source 1=leaves 2=deep 3=way 4=one 5=two 6=many 7=more 8=last -/
noncomputable def e341 : Fn := ⟨[0, 1, 2], 12, [], false, (.cons (.asg (.loc 3) (.ite (.cmp .Gt (.loc 2) (.cst (.int 0))) (.call 327 (.cons (.loc 0) (.cons (.cst (.int 7)) .nil))) (.cst (.int 0)))) (.cons (.ife (.cmp .Lt (.loc 3) (.cst (.int 3))) (.cons (.ret (.call 334 (.cons (.loc 0) (.cons (.loc 1) .nil)))) .nil) .nil) (.cons (.asg (.locs false [4, 5]) (.call 341 (.cons (.loc 0) (.cons (.loc 1) (.cons (.bin .Sub (.loc 2) (.cst (.int 1))) .nil))))) (.cons (.ife (.cmp .Eq (.loc 3) (.cst (.int 3))) (.cons (.ret (.tup (.cons (.tup (.cons (.cst (.str K.box)) (.cons (.loc 4) .nil))) (.cons (.tup (.cons (.cst (.str K.box)) (.cons (.loc 5) .nil))) .nil)))) .nil) .nil) (.cons (.ife (.cmp .Eq (.loc 3) (.cst (.int 4))) (.cons (.asg (.loc 6) (.bin .Add (.cst (.int 1)) (.call 327 (.cons (.loc 0) (.cons (.cst (.int 3)) .nil))))) (.cons (.ret (.tup (.cons (.tup (.cons (.cst (.str K.array)) (.cons (.loc 4) (.cons (.loc 6) .nil)))) (.cons (.tup (.cons (.cst (.str K.array)) (.cons (.loc 5) (.cons (.loc 6) .nil)))) .nil)))) .nil)) .nil) (.cons (.ife (.cmp .Eq (.loc 3) (.cst (.int 5))) (.cons (.ret (.tup (.cons (.tup (.cons (.cst (.str K.ref)) (.cons (.cst (.str K.c39_97)) (.cons (.cst (.bool false)) (.cons (.loc 4) .nil))))) (.cons (.tup (.cons (.cst (.str K.ref)) (.cons (.cst (.str K.c39_97)) (.cons (.cst (.bool false)) (.cons (.loc 5) .nil))))) .nil)))) .nil) .nil) (.cons (.asg (.locs false [7, 8]) (.call 341 (.cons (.loc 0) (.cons (.loc 1) (.cons (.bin .Sub (.loc 2) (.cst (.int 1))) .nil))))) (.cons (.ret (.tup (.cons (.tup (.cons (.cst (.str K.adt)) (.cons (.cst (.str K.W)) (.cons (.tup .nil) (.cons (.tup (.cons (.loc 4) (.cons (.loc 7) .nil))) .nil))))) (.cons (.tup (.cons (.cst (.str K.adt)) (.cons (.cst (.str K.W)) (.cons (.tup .nil) (.cons (.tup (.cons (.loc 5) (.cons (.loc 8) .nil))) .nil))))) .nil)))) .nil))))))))⟩
/- _law_closed: 0=source -/
noncomputable def e348 : Fn := ⟨[0], 2, [], false, (.cons (.ret (.sub (.call 341 (.cons (.loc 0) (.cons (.lst (.cons (.tup (.cons (.tup (.cons (.cst (.str K.int)) (.cons (.cst (.str K.u8)) .nil))) (.cons (.tup (.cons (.cst (.str K.int)) (.cons (.cst (.str K.u8)) .nil))) .nil))) (.cons (.tup (.cons (.tup (.cons (.cst (.str K.bool)) .nil)) (.cons (.tup (.cons (.cst (.str K.bool)) .nil)) .nil))) .nil))) (.cons (.cst (.int 1)) .nil)))) (.cst (.int 0)))) .nil)⟩
/- _law_refs_right: 0=source 1=some 2=rows 3=own 4=last 5=table 6=types 7=due -/
noncomputable def e353 : Fn := ⟨[0], 14, [], false, (.cons (.asg (.loc 1) (.lst (.cons (.tup (.cons (.tup (.cons (.cst (.str K.param)) (.cons (.cst (.str K.X)) .nil))) (.cons (.call 348 (.cons (.loc 0) .nil)) .nil))) (.cons (.tup (.cons (.tup (.cons (.cst (.str K.param)) (.cons (.cst (.str K.Y)) .nil))) (.cons (.tup (.cons (.cst (.str K.param)) (.cons (.cst (.str K.Y)) .nil))) .nil))) (.cons (.tup (.cons (.tup (.cons (.cst (.str K.bool)) .nil)) (.cons (.tup (.cons (.cst (.str K.bool)) .nil)) .nil))) .nil))))) (.cons (.asg (.loc 2) (.comp (.call 341 (.cons (.loc 4) (.cons (.loc 3) (.cons (.cst (.int 2)) .nil)))) (.one 1) (.range (.call 327 (.cons (.loc 0) (.cons (.cst (.int 3)) .nil)))) .nil [(3, 1), (4, 0)] 5)) (.cons (.asg (.locs false [3, 4]) (.call 341 (.cons (.loc 0) (.cons (.loc 1) (.cons (.cst (.int 2)) .nil))))) (.cons (.asg (.loc 5) (.dct [.str K.X, .str K.Z] (.cons (.sub (.sub (.loc 1) (.cst (.int 0))) (.cst (.int 1))) (.cons (.tup (.cons (.cst (.str K.never)) .nil)) .nil)))) (.cons (.asg (.locs true [6, 7]) (.tup (.cons (.ty .tuple (.cons (.comp (.sub (.loc 1) (.cst (.int 0))) (.one 1) (.seq (.loc 2)) .nil [] 2) .nil)) (.cons (.ty .tuple (.cons (.comp (.sub (.loc 1) (.cst (.int 1))) (.one 1) (.seq (.loc 2)) .nil [] 2) .nil)) .nil)))) (.cons (.ife (.cmp .NotEq (.call 208 (.cons (.tup (.cons (.cst (.str K.fn)) (.cons (.cst (.str K.f)) (.cons (.loc 6) .nil)))) (.cons (.loc 5) .nil))) (.tup (.cons (.cst (.str K.fn)) (.cons (.cst (.str K.f)) (.cons (.loc 7) .nil))))) (.cons (.ret (.cst (.bool false))) .nil) .nil) (.cons (.ret (.cmp .Eq (.call 208 (.cons (.tup (.cons (.cst (.str K.method)) (.cons (.cst (.str K.A)) (.cons (.cst (.str K.X)) (.cons (.loc 3) (.cons (.loc 6) .nil)))))) (.cons (.loc 5) .nil))) (.tup (.cons (.cst (.str K.method)) (.cons (.cst (.str K.A)) (.cons (.cst (.str K.X)) (.cons (.loc 4) (.cons (.loc 7) .nil)))))))) .nil)))))))⟩
/- _law_names_right: 0=source 1=names 2=types 3=turn 4=world 5=told -/
noncomputable def e358 : Fn := ⟨[0], 18, [], false, (.cons (.asg (.locs true [1, 2]) (.tup (.cons (.slTo (.lst (.cons (.cst (.str K.X)) (.cons (.cst (.str K.T)) (.cons (.cst (.str K.Self)) .nil)))) (.call 327 (.cons (.loc 0) (.cons (.cst (.int 4)) .nil)))) (.cons (.lst .nil) .nil)))) (.cons (.forS (.one 3) (.range (.bi .max (.cons (.cst (.int 0)) (.cons (.bin .Add (.bi .len (.cons (.loc 1) .nil)) (.call 334 (.cons (.loc 0) (.cons (.lst (.cons (.cst (.int 0)) (.cons (.cst (.int 0)) (.cons (.cst (.int 1)) (.cons (.neg (.cst (.int 1))) .nil))))) .nil)))) .nil)))) (.cons (.expr (.meth (.loc 2) .append (.cons (.call 348 (.cons (.loc 0) .nil)) .nil))) .nil)) (.cons (.asg (.loc 4) (.new 309 299 true (.cons (.cst .none) .nil))) (.cons (.asg (.sub (.att (.loc 4) K.sigs) (.cst (.str K.g))) (.new 237 234 false (.cons (.cst (.str K.g)) (.cons (.tup .nil) (.cons (.comp (.tup (.cons (.loc 1) (.cons (.tup (.cons (.cst (.str K.B)) .nil)) .nil))) (.one 1) (.seq (.loc 1)) .nil [] 2) (.cons (.tup .nil) (.cons (.tup .nil) (.cons (.tup (.cons (.cst (.str K.tuple)) (.cons (.tup .nil) .nil))) (.cons (.cst .none) (.cons (.cst (.bool true)) .nil)))))))))) (.cons (.tryS (.cons (.asg (.loc 5) (.call 203 (.cons (.loc 4) (.cons (.cst (.str K.g)) (.cons (.ty .tuple (.cons (.loc 2) .nil)) .nil))))) .nil) (.cmp .NotEq (.bi .len (.cons (.loc 1) .nil)) (.bi .len (.cons (.loc 2) .nil)))) (.cons (.ret (.bop true (.cons (.cmp .Eq (.bi .len (.cons (.loc 1) .nil)) (.bi .len (.cons (.loc 2) .nil))) (.cons (.cmp .Eq (.srt (.loc 5)) (.srt (.loc 1))) (.cons (.cmp .Eq (.comp (.sub (.loc 2) (.loc 1)) (.one 1) (.seq (.loc 1)) .nil [(2, 5)] 3) (.loc 2)) .nil))))) .nil))))))⟩
/- _law_impl: 0=source 1=number 2=many 3=kind 4=asks 5=T 6=U 7=Z 8=head 9=names 10=args 11=methods -/
noncomputable def e365 : Fn := ⟨[0, 1, 2], 16, [], false, (.cons (.asg (.locs true [3, 4]) (.tup (.cons (.call 327 (.cons (.loc 0) (.cons (.cst (.int 4)) .nil))) (.cons (.call 334 (.cons (.loc 0) (.cons (.lst (.cons (.tup .nil) (.cons (.tup (.cons (.cst (.str K.B)) .nil)) .nil))) .nil))) .nil)))) (.cons (.asg (.locs false [5, 6, 7]) (.tup (.cons (.tup (.cons (.cst (.str K.param)) (.cons (.cst (.str K.T)) .nil))) (.cons (.tup (.cons (.cst (.str K.param)) (.cons (.cst (.str K.U)) .nil))) (.cons (.tup (.cons (.cst (.str K.param)) (.cons (.cst (.str K.Z)) .nil))) .nil))))) (.cons (.asg (.loc 8) (.sub (.lst (.cons (.tup (.cons (.cst (.str K.int)) (.cons (.cst (.str K.u8)) .nil))) (.cons (.tup (.cons (.cst (.str K.bool)) .nil)) (.cons (.tup (.cons (.cst (.str K.box)) (.cons (.loc 5) .nil))) (.cons (.tup (.cons (.cst (.str K.adt)) (.cons (.cst (.str K.W)) (.cons (.tup .nil) (.cons (.tup (.cons (.loc 5) (.cons (.loc 6) .nil))) .nil))))) .nil))))) (.loc 3))) (.cons (.asg (.loc 9) (.sub (.lst (.cons (.lst .nil) (.cons (.lst (.cons (.tup (.cons (.cst (.str K.Z)) (.cons (.tup .nil) .nil))) .nil)) (.cons (.lst (.cons (.tup (.cons (.cst (.str K.T)) (.cons (.loc 4) .nil))) .nil)) (.cons (.lst (.cons (.tup (.cons (.cst (.str K.U)) (.cons (.tup .nil) .nil))) (.cons (.tup (.cons (.cst (.str K.T)) (.cons (.tup .nil) .nil))) .nil))) .nil))))) (.loc 3))) (.cons (.asg (.loc 10) (.slTo (.tup (.cons (.call 334 (.cons (.loc 0) (.cons (.lst (.cons (.tup (.cons (.cst (.str K.bool)) .nil)) (.cons (.sub (.lst (.cons (.tup (.cons (.cst (.str K.bool)) .nil)) (.cons (.loc 7) (.cons (.loc 5) (.cons (.loc 6) .nil))))) (.loc 3)) .nil))) .nil))) .nil)) (.loc 2))) (.cons (.asg (.loc 11) (.dct [] .nil)) (.cons (.ife (.cmp .Gt (.call 327 (.cons (.loc 0) (.cons (.cst (.int 4)) .nil))) (.cst (.int 0))) (.cons (.asg (.sub (.loc 11) (.cst (.str K.m))) (.bin .Add (.bin .Add (.cst (.str K.I)) (.ty .str (.cons (.loc 1) .nil))) (.cst (.str K.c58_58_109)))) .nil) .nil) (.cons (.ife (.cmp .Eq (.call 327 (.cons (.loc 0) (.cons (.cst (.int 3)) .nil))) (.cst (.int 0))) (.cons (.asg (.sub (.loc 11) (.cst (.str K.n))) (.bin .Add (.bin .Add (.cst (.str K.I)) (.ty .str (.cons (.loc 1) .nil))) (.cst (.str K.c58_58_110)))) .nil) .nil) (.cons (.ret (.new 280 277 false (.cons (.loc 1) (.cons (.tup .nil) (.cons (.loc 9) (.cons (.cst (.str K.A)) (.cons (.loc 10) (.cons (.loc 8) (.cons (.loc 11) .nil))))))))) .nil)))))))))⟩
/- _law_table: 0=impl 1=own 2=args 3=head 4=table 5=told 6=arg -/
noncomputable def e372 : Fn := ⟨[0, 1, 2], 8, [], false, (.cons (.asg (.locs true [3, 4]) (.tup (.cons (.att (.loc 0) K.self_type) (.cons (.dct [] .nil) .nil)))) (.cons (.ife (.bop false (.cons (.cmp .NotEq (.sub (.loc 3) (.cst (.int 0))) (.sub (.loc 1) (.cst (.int 0)))) (.cons (.bop true (.cons (.cmp .In (.sub (.loc 3) (.cst (.int 0))) (.tup (.cons (.cst (.str K.int)) (.cons (.cst (.str K.adt)) .nil)))) (.cons (.cmp .NotEq (.sub (.loc 3) (.cst (.int 1))) (.sub (.loc 1) (.cst (.int 1)))) .nil))) .nil))) (.cons (.ret (.cst .none)) .nil) .nil) (.cons (.ife (.cmp .Eq (.sub (.loc 3) (.cst (.int 0))) (.cst (.str K.box))) (.cons (.asg (.sub (.loc 4) (.cst (.str K.T))) (.sub (.loc 1) (.cst (.int 1)))) .nil) .nil) (.cons (.ife (.cmp .Eq (.sub (.loc 3) (.cst (.int 0))) (.cst (.str K.adt))) (.cons (.asg (.subs2 (.loc 4) (.cst (.str K.T)) (.loc 4) (.cst (.str K.U))) (.sub (.loc 1) (.cst (.int 3)))) .nil) .nil) (.cons (.forS (.many [5, 6]) (.zip (.att (.loc 0) K.trait_args) (.loc 2)) (.cons (.ife (.cmp .Eq (.loc 5) (.tup (.cons (.cst (.str K.param)) (.cons (.cst (.str K.Z)) .nil)))) (.cons (.asg (.sub (.loc 4) (.cst (.str K.Z))) (.loc 6)) .nil) (.cons (.ife (.cmp .NotEq (.ite (.cmp .Eq (.sub (.loc 5) (.cst (.int 0))) (.cst (.str K.param))) (.sub (.loc 4) (.sub (.loc 5) (.cst (.int 1)))) (.loc 5)) (.loc 6)) (.cons (.ret (.cst .none)) .nil) .nil) .nil)) .nil)) (.cons (.ife (.bop true (.cons (.cmp .Eq (.sub (.loc 3) (.cst (.int 0))) (.cst (.str K.box))) (.cons (.cmp .Eq (.sub (.sub (.att (.loc 0) K.params) (.cst (.int 0))) (.cst (.int 1))) (.tup (.cons (.cst (.str K.B)) .nil))) (.cons (.cmp .NotEq (.sub (.loc 1) (.cst (.int 1))) (.tup (.cons (.cst (.str K.bool)) .nil))) .nil)))) (.cons (.ret (.cst .none)) .nil) .nil) (.cons (.ret (.loc 4)) .nil)))))))⟩
/- _law_due: 0=world 1=many 2=name 3=own 4=types 5=args 6=some 7=impl 8=table 9=methods 10=order 11=defaults -/
noncomputable def e377 : Fn := ⟨[0, 1, 2, 3, 4], 15, [], false, (.cons (.asg (.locs true [5, 6]) (.tup (.cons (.slTo (.loc 4) (.loc 1)) (.cons (.lst .nil) .nil)))) (.cons (.forS (.one 7) (.seq (.att (.loc 0) K.impls)) (.cons (.asg (.loc 8) (.ite (.cmp .Eq (.att (.loc 7) K.trait) (.cst (.str K.A))) (.call 372 (.cons (.loc 7) (.cons (.loc 3) (.cons (.loc 5) .nil)))) (.cst .none))) (.cons (.ife (.cmp .IsNot (.loc 8) (.cst .none)) (.cons (.expr (.meth (.loc 6) .append (.cons (.tup (.cons (.att (.loc 7) K.methods) (.cons (.loc 8) .nil))) .nil))) .nil) .nil) .nil))) (.cons (.ife (.cmp .NotEq (.bi .len (.cons (.loc 6) .nil)) (.cst (.int 1))) (.cons (.ret (.cst (.str K.fault))) .nil) .nil) (.cons (.asg (.locs false [9, 8]) (.sub (.loc 6) (.cst (.int 0)))) (.cons (.asg (.loc 10) (.sub (.dct [.str K.int, .str K.bool, .str K.box, .str K.adt] (.cons (.lst .nil) (.cons (.lst (.cons (.cst (.str K.Z)) .nil)) (.cons (.lst (.cons (.cst (.str K.T)) .nil)) (.cons (.lst (.cons (.cst (.str K.U)) (.cons (.cst (.str K.T)) .nil))) .nil))))) (.sub (.loc 3) (.cst (.int 0))))) (.cons (.ife (.bop true (.cons (.cmp .Eq (.loc 10) (.lst (.cons (.cst (.str K.Z)) .nil))) (.cons (.cmp .NotIn (.cst (.str K.Z)) (.loc 8)) .nil))) (.cons (.ret (.cst (.str K.fault))) .nil) .nil) (.cons (.ife (.cmp .In (.loc 2) (.loc 9)) (.cons (.ret (.tup (.cons (.cst (.str K.fn)) (.cons (.sub (.loc 9) (.loc 2)) (.cons (.bin .Add (.ty .tuple (.cons (.comp (.sub (.loc 2) (.loc 1)) (.one 1) (.seq (.loc 10)) .nil [(2, 8)] 3) .nil)) (.slFrom (.loc 4) (.loc 1))) .nil))))) .nil) .nil) (.cons (.asg (.loc 11) (.att (.sub (.att (.loc 0) K.traits) (.cst (.str K.A))) K.defaults)) (.cons (.ret (.ite (.cmp .In (.loc 2) (.loc 11)) (.tup (.cons (.cst (.str K.fn)) (.cons (.sub (.loc 11) (.loc 2)) (.cons (.bin .Add (.tup (.cons (.loc 3) .nil)) (.loc 4)) .nil)))) (.cst (.str K.fault)))) .nil)))))))))⟩
/- _law_meant: 0=world 1=reference -/
noncomputable def e384 : Fn := ⟨[0, 1], 4, [], false, (.cons (.tryS (.cons (.ret (.call 213 (.cons (.loc 0) (.cons (.loc 1) .nil)))) .nil) (.cst (.str K.fault))) .nil)⟩
/- _law_world: 0=source 1=many 2=world 3=defaults -/
noncomputable def e389 : Fn := ⟨[0, 1], 11, [], false, (.cons (.asg (.loc 2) (.new 309 299 true (.cons (.cst .none) .nil))) (.cons (.asg (.loc 3) (.call 334 (.cons (.loc 0) (.cons (.lst (.cons (.dct [] .nil) (.cons (.dct [.str K.n] (.cons (.cst (.str K.c65_58_58_110)) .nil)) (.cons (.dct [.str K.n, .str K.m] (.cons (.cst (.str K.c65_58_58_110)) (.cons (.cst (.str K.c65_58_58_109)) .nil))) .nil)))) .nil)))) (.cons (.asg (.sub (.att (.loc 2) K.traits) (.cst (.str K.A))) (.new 258 255 false (.cons (.cst (.str K.A)) (.cons (.slTo (.tup (.cons (.cst (.str K.P)) .nil)) (.loc 1)) (.cons (.dct [] .nil) (.cons (.loc 3) .nil)))))) (.cons (.asg (.att (.loc 2) K.impls) (.comp (.call 365 (.cons (.loc 4) (.cons (.loc 1) (.cons (.loc 3) .nil)))) (.one 1) (.range (.bin .Add (.cst (.int 1)) (.call 327 (.cons (.loc 0) (.cons (.cst (.int 4)) .nil))))) .nil [(3, 1), (4, 0)] 5)) (.cons (.expr (.meth (.att (.loc 2) K.impls) .append (.cons (.new 280 277 false (.cons (.bi .len (.cons (.att (.loc 2) K.impls) .nil)) (.cons (.tup .nil) (.cons (.lst .nil) (.cons (.cst (.str K.B)) (.cons (.tup .nil) (.cons (.tup (.cons (.cst (.str K.bool)) .nil)) (.cons (.dct [] .nil) .nil)))))))) .nil))) (.cons (.ret (.loc 2)) .nil))))))⟩
/- _law_meant_right: 0=source 1=many 2=world 3=turn 4=part 5=other 6=some 7=own 8=told 9=types 10=name -/
noncomputable def e396 : Fn := ⟨[0], 18, [], false, (.cons (.asg (.loc 1) (.call 327 (.cons (.loc 0) (.cons (.cst (.int 2)) .nil)))) (.cons (.asg (.loc 2) (.call 389 (.cons (.loc 0) (.cons (.loc 1) .nil)))) (.cons (.forS (.one 3) (.range (.cst (.int 3))) (.cons (.asg (.locs true [4, 5]) (.tup (.cons (.call 348 (.cons (.loc 0) .nil)) (.cons (.call 348 (.cons (.loc 0) .nil)) .nil)))) (.cons (.asg (.loc 6) (.lst (.cons (.tup (.cons (.cst (.str K.int)) (.cons (.cst (.str K.u8)) .nil))) (.cons (.tup (.cons (.cst (.str K.bool)) .nil)) (.cons (.tup (.cons (.cst (.str K.box)) (.cons (.loc 4) .nil))) (.cons (.tup (.cons (.cst (.str K.adt)) (.cons (.cst (.str K.W)) (.cons (.tup .nil) (.cons (.tup (.cons (.loc 4) (.cons (.loc 5) .nil))) .nil))))) (.cons (.tup (.cons (.cst (.str K.adt)) (.cons (.cst (.str K.S)) (.cons (.tup .nil) (.cons (.tup .nil) .nil))))) .nil))))))) (.cons (.asg (.loc 7) (.call 334 (.cons (.loc 0) (.cons (.bin .Add (.loc 6) (.lst (.cons (.tup (.cons (.cst (.str K.box)) (.cons (.tup (.cons (.cst (.str K.bool)) .nil)) .nil))) (.cons (.tup (.cons (.cst (.str K.int)) (.cons (.cst (.str K.i8)) .nil))) .nil)))) .nil)))) (.cons (.asg (.loc 8) (.call 334 (.cons (.loc 0) (.cons (.lst (.cons (.tup (.cons (.cst (.str K.bool)) .nil)) (.cons (.tup (.cons (.cst (.str K.bool)) .nil)) (.cons (.loc 4) (.cons (.loc 5) .nil))))) .nil)))) (.cons (.asg (.loc 9) (.bin .Add (.slTo (.tup (.cons (.loc 8) .nil)) (.loc 1)) (.slTo (.tup (.cons (.loc 4) (.cons (.loc 5) .nil))) (.call 327 (.cons (.loc 0) (.cons (.cst (.int 3)) .nil)))))) (.cons (.asg (.loc 10) (.call 334 (.cons (.loc 0) (.cons (.lst (.cons (.cst (.str K.m)) (.cons (.cst (.str K.m)) (.cons (.cst (.str K.n)) (.cons (.cst (.str K.o)) .nil))))) .nil)))) (.cons (.ife (.cmp .NotEq (.call 384 (.cons (.loc 2) (.cons (.tup (.cons (.cst (.str K.method)) (.cons (.cst (.str K.A)) (.cons (.loc 10) (.cons (.loc 7) (.cons (.loc 9) .nil)))))) .nil))) (.call 377 (.cons (.loc 2) (.cons (.loc 1) (.cons (.loc 10) (.cons (.loc 7) (.cons (.loc 9) .nil))))))) (.cons (.ret (.cst (.bool false))) .nil) .nil) (.cons (.ife (.cmp .NotEq (.call 384 (.cons (.loc 2) (.cons (.tup (.cons (.cst (.str K.fn)) (.cons (.loc 10) (.cons (.loc 9) .nil)))) .nil))) (.tup (.cons (.cst (.str K.fn)) (.cons (.loc 10) (.cons (.loc 9) .nil))))) (.cons (.ret (.cst (.bool false))) .nil) .nil) .nil))))))))) (.cons (.ret (.cst (.bool true))) .nil))))⟩
/- _law_drops_right: 0=source 1=world 2=has_trait 3=has 4=pairs 5=some 6=path 7=names 8=head 9=one 10=two 11=pair 12=other -/
noncomputable def e401 : Fn := ⟨[0], 21, [], false, (.cons (.asg (.locs true [1, 2, 3]) (.tup (.cons (.new 309 299 true (.cons (.cst .none) .nil)) (.cons (.cmp .Gt (.call 327 (.cons (.loc 0) (.cons (.cst (.int 4)) .nil))) (.cst (.int 0))) (.cons (.lst (.cons (.cmp .Gt (.call 327 (.cons (.loc 0) (.cons (.cst (.int 3)) .nil))) (.cst (.int 0))) (.cons (.cmp .Eq (.call 327 (.cons (.loc 0) (.cons (.cst (.int 2)) .nil))) (.cst (.int 0))) .nil))) .nil))))) (.cons (.ife (.val (.loc 2)) (.cons (.asg (.sub (.att (.loc 1) K.traits) (.cst (.str K.Drop))) (.new 258 255 false (.cons (.cst (.str K.Drop)) (.cons (.tup .nil) (.cons (.dct [] .nil) (.cons (.dct [] .nil) .nil)))))) .nil) .nil) (.cons (.asg (.loc 4) (.tup (.cons (.cst (.str K.adt)) (.cons (.cst (.str K.W)) (.cons (.tup .nil) (.cons (.tup (.cons (.tup (.cons (.cst (.str K.param)) (.cons (.cst (.str K.T)) .nil))) (.cons (.tup (.cons (.cst (.str K.param)) (.cons (.cst (.str K.U)) .nil))) .nil))) .nil)))))) (.cons (.asg (.loc 5) (.lst (.cons (.tup (.cons (.cst (.str K.W)) (.cons (.lst (.cons (.tup (.cons (.cst (.str K.U)) (.cons (.tup .nil) .nil))) (.cons (.tup (.cons (.cst (.str K.T)) (.cons (.tup .nil) .nil))) .nil))) (.cons (.loc 4) .nil)))) (.cons (.tup (.cons (.cst (.str K.S)) (.cons (.lst .nil) (.cons (.tup (.cons (.cst (.str K.adt)) (.cons (.cst (.str K.S)) (.cons (.tup .nil) (.cons (.tup .nil) .nil))))) .nil)))) .nil)))) (.cons (.forS (.many [6, 7, 8]) (.seq (.comp (.loc 1) (.many [1, 2]) (.zip (.loc 5) (.loc 3)) (.cons (.val (.loc 2)) .nil) [] 3)) (.cons (.expr (.meth (.att (.loc 1) K.impls) .append (.cons (.new 280 277 false (.cons (.bi .len (.cons (.att (.loc 1) K.impls) .nil)) (.cons (.tup .nil) (.cons (.loc 7) (.cons (.cst (.str K.Drop)) (.cons (.tup .nil) (.cons (.loc 8) (.cons (.dct [.str K.drop] (.cons (.bin .Add (.loc 6) (.cst (.str K.c58_58_100_114_111_112))) .nil)) .nil)))))))) .nil))) .nil)) (.cons (.asg (.locs true [9, 10]) (.tup (.cons (.call 348 (.cons (.loc 0) .nil)) (.cons (.call 348 (.cons (.loc 0) .nil)) .nil)))) (.cons (.asg (.loc 11) (.ite (.bop true (.cons (.val (.loc 2)) (.cons (.val (.sub (.loc 3) (.cst (.int 0)))) .nil))) (.tup (.cons (.cst (.str K.fn)) (.cons (.cst (.str K.c87_58_58_100_114_111_112)) (.cons (.tup (.cons (.loc 10) (.cons (.loc 9) .nil))) .nil)))) (.cst .none))) (.cons (.ife (.cmp .NotEq (.call 220 (.cons (.loc 1) (.cons (.tup (.cons (.cst (.str K.adt)) (.cons (.cst (.str K.W)) (.cons (.tup .nil) (.cons (.tup (.cons (.loc 9) (.cons (.loc 10) .nil))) .nil))))) .nil))) (.loc 11)) (.cons (.ret (.cst (.bool false))) .nil) .nil) (.cons (.forS (.one 12) (.seq (.tup (.cons (.tup (.cons (.cst (.str K.box)) (.cons (.tup (.cons (.cst (.str K.adt)) (.cons (.cst (.str K.S)) (.cons (.tup .nil) (.cons (.tup .nil) .nil))))) .nil))) (.cons (.tup (.cons (.cst (.str K.adt)) (.cons (.cst (.str K.V)) (.cons (.tup .nil) (.cons (.tup .nil) .nil))))) (.cons (.tup (.cons (.cst (.str K.tuple)) (.cons (.tup (.cons (.loc 9) .nil)) .nil))) (.cons (.tup (.cons (.cst (.str K.int)) (.cons (.cst (.str K.u8)) .nil))) .nil)))))) (.cons (.ife (.cmp .IsNot (.call 220 (.cons (.loc 1) (.cons (.loc 12) .nil))) (.cst .none)) (.cons (.ret (.cst (.bool false))) .nil) .nil) .nil)) (.cons (.ret (.cmp .Eq (.call 220 (.cons (.loc 1) (.cons (.tup (.cons (.cst (.str K.adt)) (.cons (.cst (.str K.S)) (.cons (.tup .nil) (.cons (.tup .nil) .nil))))) .nil))) (.ite (.bop true (.cons (.val (.loc 2)) (.cons (.val (.sub (.loc 3) (.cst (.int 1)))) .nil))) (.tup (.cons (.cst (.str K.fn)) (.cons (.cst (.str K.c83_58_58_100_114_111_112)) (.cons (.tup .nil) .nil)))) (.cst .none)))) .nil))))))))))⟩
/- law: 0=script 1=source 2=world 3=due -/
noncomputable def e408 : Fn := ⟨[0], 13, [], false, (.cons (.asg (.loc 1) (.call 320 (.cons (.loc 0) (.cons (.cst (.int 0)) .nil)))) (.cons (.ife (.bop false (.cons (.nt (.val (.call 353 (.cons (.loc 1) .nil)))) (.cons (.nt (.val (.call 358 (.cons (.loc 1) .nil)))) .nil))) (.cons (.ret (.cst (.bool false))) .nil) .nil) (.cons (.ife (.bop false (.cons (.nt (.val (.call 396 (.cons (.loc 1) .nil)))) (.cons (.nt (.val (.call 401 (.cons (.loc 1) .nil)))) .nil))) (.cons (.ret (.cst (.bool false))) .nil) .nil) (.cons (.asg (.loc 2) (.new 309 299 true (.cons (.cst .none) .nil))) (.cons (.asg (.sub (.att (.loc 2) K.traits) (.cst (.str K.A))) (.new 258 255 false (.cons (.cst (.str K.A)) (.cons (.tup .nil) (.cons (.dct [] .nil) (.cons (.dct [] .nil) .nil)))))) (.cons (.asg (.att (.loc 2) K.impls) (.lst (.cons (.new 280 277 false (.cons (.cst (.int 0)) (.cons (.tup .nil) (.cons (.lst (.cons (.tup (.cons (.cst (.str K.T)) (.cons (.tup .nil) .nil))) .nil)) (.cons (.cst (.str K.A)) (.cons (.tup .nil) (.cons (.tup (.cons (.cst (.str K.box)) (.cons (.tup (.cons (.cst (.str K.param)) (.cons (.cst (.str K.T)) .nil))) .nil))) (.cons (.dct [.str K.m] (.cons (.cst (.str K.c73_58_58_109)) .nil)) .nil)))))))) .nil))) (.cons (.asg (.loc 3) (.tup (.cons (.cst (.str K.fn)) (.cons (.cst (.str K.c73_58_58_109)) (.cons (.tup (.cons (.tup (.cons (.cst (.str K.bool)) .nil)) (.cons (.tup (.cons (.cst (.str K.int)) (.cons (.cst (.str K.u8)) .nil))) .nil))) .nil))))) (.cons (.ret (.cmp .Eq (.call 213 (.cons (.loc 2) (.cons (.tup (.cons (.cst (.str K.method)) (.cons (.cst (.str K.A)) (.cons (.cst (.str K.m)) (.cons (.tup (.cons (.cst (.str K.box)) (.cons (.tup (.cons (.cst (.str K.bool)) .nil)) .nil))) (.cons (.tup (.cons (.tup (.cons (.cst (.str K.int)) (.cons (.cst (.str K.u8)) .nil))) .nil)) .nil)))))) .nil))) (.loc 3))) .nil))))))))⟩
noncomputable def TB : List (Addr × Fn) := [(61, e61), (68, e68), (75, e75), (82, e82), (89, e89), (96, e96), (101, e101), (108, e108), (113, e113), (118, e118), (125, e125), (146, e146), (153, e153), (158, e158), (165, e165), (172, e172), (177, e177), (191, e191), (196, e196), (203, e203), (208, e208), (213, e213), (220, e220), (234, e234), (255, e255), (277, e277), (299, e299), (320, e320), (327, e327), (334, e334), (341, e341), (348, e348), (353, e353), (358, e358), (365, e365), (372, e372), (377, e377), (384, e384), (389, e389), (396, e396), (401, e401), (408, e408)]
theorem tb_ok : TB.map (fun p => (rdF p.1).map (·.1)) = TB.map fun p => some p.2 := by kernel_rfl
end Mine
namespace Mine
open PySem PySem.W PyProof.Rows PySem.Calls PySem.Spec
section
variable {P0 : Gp} {d : Nat} {t : PT1} {b : PSs}
theorem whl_turn {st : St} {Q : AFlow → St → Prop} {N : St → Prop} (hN : ∀ st2, N st2 → WhlOk P0 d t b st2 Q)
    (h : gT P0 t st (fun c st1 => branch c (gSs P0 b st1 (fun fl st2 => turnK fl st2 N Q) (fun _ _ => False)) (Q .next st1)) (fun _ _ => False)) : WhlOk P0 d t b st Q := by
  intro sc test body ht hb c ic htop hst
  subst hst
  refine while_turn (wpAny_mono (ht c ic _ _ h) ?_ fun e s' z => z.rec fun _ _ _ _ _ _ q => q.elim)
  rintro b1 s1 ⟨b2, st1, ρ1, S1, g1, r1, q1⟩
  cases (show b1 = b2 from r1)
  cases b1 with
  | false =>
    rw [if_neg (by decide)]
    exact wpAny_execs_nil ⟨.next, st1, ρ1, S1, g1, trivial, q1⟩
  | true =>
    rw [if_pos rfl]
    refine wpAny_mono (hb (c.mv ⟨s1, ρ1, st1, S1⟩) ic htop _ _ q1) ?_ fun e s' z => z.rec fun _ _ _ _ _ _ q => q.elim
    rintro fl s2 ⟨dl, st2, ρ2, S2, g2, r2, q2⟩
    have again : N st2 → codeAny (model X.prog X.w) c.A (.whileLoop test body [] c.R.env) (fun r s' => match r with | .ok f => c.postR relF Q f s' | .error _ => False) s2 := fun q => codeAny_mono (hN _ q sc test body ht hb (c.mv ⟨s2, ρ2, st2, S2⟩) ic htop rfl) fun r s' z => by
      cases r with
      | ok f => exact Post.trans (g1.trans g2) _ _ z
      | error _ => exact z
    exact flow_by (M := fun fl dl => turnK dl st2 N Q → match fl with
      | .next => codeAny (model X.prog X.w) c.A (.whileLoop test body [] c.R.env) (fun r s' => match r with | .ok f => c.postR relF Q f s' | .error _ => False) s2
      | .cont => codeAny (model X.prog X.w) c.A (.whileLoop test body [] c.R.env) (fun r s' => match r with | .ok f => c.postR relF Q f s' | .error _ => False) s2
      | .brk => c.postR relF Q .next s2
      | .ret v => c.postR relF Q (.ret v) s2) r2 again (fun q => ⟨.next, st2, ρ2, S2, g1.trans g2, trivial, q⟩) again (fun v d r q => ⟨.ret d, st2, ρ2, S2, g1.trans g2, r, q⟩) q2
end
abbrev Sp := List V → Option AObj → (V → List AObj → Option AObj → Prop) → Prop → Prop
abbrev Ov := Addr → Option Sp
noncomputable def whF (P0 : Gp) : Nat → PT1 → PSs → St → (AFlow → St → Prop) → Prop
  | 0, _, _, _, _ => False
  | k + 1, t, b, st, Q => gT P0 t st (fun c st1 => branch c (gSs P0 b st1 (fun fl st2 => turnK fl st2 (fun st2 => whF P0 k t b st2 Q) Q) (fun _ _ => False)) (Q .next st1)) (fun _ _ => False)
noncomputable def mkP (call : Addr → Sp) : Gp := ⟨call, fun t b st Q _ => whF (gp0 call) 40 t b st Q⟩
noncomputable def runF (call : Addr → Sp) (e : Fn) : Sp := fun args ext Q E => optK (setLs (nones e.nl) e.is (args ++ dats e.dds)) fun l0 => match ext with
  | none => gSs (mkP call) e.p { loc := l0, objs := [], ext := none } (finK e.keep Q) (fun _ _ => E)
  | some o => gSs (mkP call) e.p { loc := l0, objs := [], ext := some o } (finK e.keep Q) (fun _ _ => False)
theorem whF_ok {P0 : Gp} {d : Nat} {t : PT1} {b : PSs} {Q : AFlow → St → Prop} (k : Nat) : ∀ st, whF P0 k t b st Q → WhlOk P0 d t b st Q := by
  induction k with
  | zero => exact fun _ h => h.elim
  | succ k ih => exact fun _ h => whl_turn ih h
theorem dreps_len {Pp : Params} {src : Option Addr} {F : Vw} {ds : List D} {vs : List Value} (h : DReps Pp src F vs ds) : vs.length = ds.length := by
  have := (h.reps (xa := none) (ρ := [])).length
  rw [List.length_map] at this
  exact this
theorem CallOk.weak {d : Nat} {f : Addr} {args : List V} {ext : Option AObj} {Q : V → List AObj → Option AObj → Prop} {E : Prop} (h : CallOk d f args ext Q False) : CallOk d f args ext Q E := by
  intro c vs xl hd L rs
  refine codeAny_mono (h c vs xl hd L rs) fun r s' z => ?_
  cases r with
  | ok fl => cases fl <;> exact z
  | error e => exact z.rec fun _ _ _ _ _ _ q => q.2.2.elim
theorem runF_ok {d : Nat} {f : Addr} {e : Fn} (o : FOk f e) {call : Addr → Sp} (hc : ∀ f args ext Q E, call f args ext Q E → CallOk d f args ext Q E) {args : List V} {ext : Option AObj} {Q : V → List AObj → Option AObj → Prop} {E : Prop}
    (h : runF call e args ext Q E) : CallOk (d + 1) f args ext Q E := by
  obtain ⟨sc, body, xs, n, dvs, F, hl, hb⟩ := o
  obtain ⟨l0, el, h1⟩ := optK_iff h
  have hs := hb (P := mkP call) (P0 := gp0 call) (d := d) hc hc fun t b st Q E h => whF_ok 40 st h
  have hn : args.length = n := by
    have a1 := setLs_len el
    rw [List.length_append, dats_eq, List.length_map, ← F.at_.len, F.len, dreps_len (F.dv none)] at a1
    exact (Nat.add_right_cancel a1).symm
  cases ext with
  | none => exact call_fn F hs hn (by rw [hl]; exact el) leave_ok (.inl rfl) h1
  | some ob => exact CallOk.weak (call_fn F hs hn (by rw [hl]; exact el) leave_ok (.inr id) h1)
noncomputable def tbl : List (Addr × Fn) → Addr → Option Fn
  | [], _ => none
  | p :: r, f => match Nat.beq p.1 f with | true => some p.2 | false => tbl r f
theorem tbl_mem {f : Addr} {e : Fn} : ∀ {l : List (Addr × Fn)}, tbl l f = some e → (f, e) ∈ l := by
  intro l
  induction l with
  | nil => exact fun h => no h
  | cons p r ih =>
    intro h
    unfold tbl at h
    cases q : Nat.beq p.1 f with
    | true =>
      rw [q] at h
      obtain ⟨a, b⟩ := p
      cases h
      cases Nat.eq_of_beq_eq_true q
      exact .head _
    | false => rw [q] at h; exact .tail _ (ih h)
theorem tb_is {f : Addr} {e : Fn} (h : tbl TB f = some e) : FOk f e := by
  have h1 := List.map_inj_left.mp tb_ok _ (tbl_mem h)
  cases q : rdF f with
  | none => rw [q] at h1; exact no h1
  | some r => rw [q] at h1; exact (show r.1 = e from Option.some.inj h1) ▸ r.2
noncomputable def cal (ov : Ov) : Nat → Addr → Sp
  | 0 => fun _ _ _ _ _ => False
  | n + 1 => fun f args ext Q E => match ov f with
    | some s => s args ext Q E
    | none => match tbl TB f with
      | some e => runF (cal ov n) e args ext Q E
      | none => False
theorem cal_ok {ov : Ov} {m : Nat} (ho : ∀ f s, ov f = some s → ∀ d, m ≤ d → ∀ args ext Q E, s args ext Q E → CallOk d f args ext Q E) (n : Nat) :
    ∀ (f : Addr) (args : List V) (ext : Option AObj) (Q : V → List AObj → Option AObj → Prop) (E : Prop), cal ov n f args ext Q E → CallOk (m + n) f args ext Q E := by
  induction n with
  | zero => exact fun _ _ _ _ _ h => h.elim
  | succ n ih =>
    intro f args ext Q E h
    unfold cal at h
    cases e : ov f with
    | some s => rw [e] at h; exact ho f s e _ (Nat.le_add_right ..) _ _ _ _ h
    | none =>
      rw [e] at h
      cases q : tbl TB f with
      | some e => rw [q] at h; exact runF_ok (tb_is q) ih h
      | none => rw [q] at h; exact h.elim
end Mine
namespace Mine
open PySem PySem.W PyProof.Rows PySem.Calls PySem.Spec
noncomputable def conjN : Nat → (Nat → Prop) → Prop
  | 0, _ => True
  | n + 1, f => conjN n f ∧ f n
theorem conjN_iff {n : Nat} {f : Nat → Prop} : conjN n f ↔ ∀ i, i < n → f i := by
  induction n with
  | zero => exact ⟨fun _ i h => absurd h (Nat.not_lt_zero _), fun _ => trivial⟩
  | succ n ih =>
    unfold conjN
    rw [ih]
    constructor
    · intro h i hi
      rcases Nat.lt_succ_iff_lt_or_eq.mp hi with q | q
      · exact h.1 i q
      · exact q ▸ h.2
    · exact fun h => ⟨fun i hi => h i (Nat.lt_succ_of_lt hi), h n (Nat.lt_succ_self n)⟩
noncomputable def conjL {α : Type} : List α → (α → Prop) → Prop
  | [], _ => True
  | a :: r, f => f a ∧ conjL r f
theorem conjL_iff {α : Type} {l : List α} {f : α → Prop} : conjL l f ↔ ∀ a ∈ l, f a := by
  induction l with
  | nil => exact ⟨fun _ _ h => (by cases h), fun _ => trivial⟩
  | cons a r ih => unfold conjL; rw [ih]; simp
noncomputable def hdV {α : Type} (l : List α) (k : α → List α → Prop) : Prop := match l with
  | a :: r => k a r
  | [] => False
theorem hdV_iff {α : Type} {l : List α} {k : α → List α → Prop} (h : hdV l k) : ∃ a r, l = a :: r ∧ k a r := by
  cases l with
  | nil => exact h.elim
  | cons a r => exact ⟨a, r, rfl, h⟩
noncomputable def nilV {α : Type} (l : List α) (p : Prop) : Prop := match l with
  | [] => p
  | _ :: _ => False
theorem nilV_iff {α : Type} {l : List α} {p : Prop} (h : nilV l p) : l = [] ∧ p := by
  cases l with
  | nil => exact ⟨rfl, h⟩
  | cons a r => exact h.elim
noncomputable def noX (e : Option AObj) (p : Prop) : Prop := match e with
  | none => p
  | some _ => False
theorem noX_iff {e : Option AObj} {p : Prop} (h : noX e p) : e = none ∧ p := by
  cases e with
  | none => exact ⟨rfl, h⟩
  | some _ => exact h.elim
noncomputable def datV (v : V) (k : D → Prop) : Prop := optK (datOf v) k
theorem datV_iff {v : V} {k : D → Prop} (h : datV v k) : ∃ d, v = .dat d ∧ k d := (optK_iff h).imp fun _ q => ⟨dat_of q.1, q.2⟩
noncomputable def s1 (as : List V) (e : Option AObj) (k : D → Prop) : Prop := hdV as fun a r => nilV r (datV a fun a => noX e (k a))
theorem s1_iff {as : List V} {e : Option AObj} {k : D → Prop} (h : s1 as e k) : ∃ a, as = [.dat a] ∧ e = none ∧ k a := by
  replace h := hdV_iff h
  obtain ⟨_, _, rfl, h⟩ := h
  replace h := nilV_iff h
  obtain ⟨rfl, h⟩ := h
  replace h := datV_iff h
  obtain ⟨a, rfl, h⟩ := h
  replace h := noX_iff h
  obtain ⟨rfl, h⟩ := h
  exact ⟨a, rfl, rfl, h⟩
noncomputable def s2 (as : List V) (e : Option AObj) (k : D → D → Prop) : Prop := hdV as fun a r => datV a fun a => s1 r e (k a)
theorem s2_iff {as : List V} {e : Option AObj} {k : D → D → Prop} (h : s2 as e k) : ∃ a b, as = [.dat a, .dat b] ∧ e = none ∧ k a b := by
  replace h := hdV_iff h
  obtain ⟨_, _, rfl, h⟩ := h
  replace h := datV_iff h
  obtain ⟨a, rfl, h⟩ := h
  replace h := s1_iff h
  obtain ⟨b, rfl, rfl, h⟩ := h
  exact ⟨a, b, rfl, rfl, h⟩
noncomputable def s3 (as : List V) (e : Option AObj) (k : D → D → D → Prop) : Prop := hdV as fun a r => datV a fun a => s2 r e (k a)
theorem s3_iff {as : List V} {e : Option AObj} {k : D → D → D → Prop} (h : s3 as e k) : ∃ a b c, as = [.dat a, .dat b, .dat c] ∧ e = none ∧ k a b c := by
  replace h := hdV_iff h
  obtain ⟨_, _, rfl, h⟩ := h
  replace h := datV_iff h
  obtain ⟨a, rfl, h⟩ := h
  replace h := s2_iff h
  obtain ⟨b, c, rfl, rfl, h⟩ := h
  exact ⟨a, b, c, rfl, rfl, h⟩
noncomputable def s5 (as : List V) (e : Option AObj) (k : D → D → D → D → D → Prop) : Prop := hdV as fun a r => datV a fun a => hdV r fun b r => datV b fun b => s3 r e (k a b)
theorem s5_iff {as : List V} {e : Option AObj} {k : D → D → D → D → D → Prop} (h : s5 as e k) : ∃ a b c x y, as = [.dat a, .dat b, .dat c, .dat x, .dat y] ∧ e = none ∧ k a b c x y := by
  replace h := hdV_iff h
  obtain ⟨_, _, rfl, h⟩ := h
  replace h := datV_iff h
  obtain ⟨a, rfl, h⟩ := h
  replace h := hdV_iff h
  obtain ⟨_, _, rfl, h⟩ := h
  replace h := datV_iff h
  obtain ⟨b, rfl, h⟩ := h
  replace h := s3_iff h
  obtain ⟨c, x, y, rfl, rfl, h⟩ := h
  exact ⟨a, b, c, x, y, rfl, rfl, h⟩
noncomputable def dicX (e : Option AObj) (k : List (D × V) → Prop) : Prop := optK e fun o => optK (kvsX o) k
theorem dicX_iff {e : Option AObj} {k : List (D × V) → Prop} (h : dicX e k) : ∃ kv, e = some (.dict kv) ∧ k kv := by
  replace h := optK_iff h
  obtain ⟨o, rfl, h⟩ := h
  replace h := optK_iff h
  obtain ⟨kv, q, h⟩ := h
  cases o with
  | dict l => cases q; exact ⟨_, rfl, h⟩
  | _ => exact no q
noncomputable def srcK (d : D) (p : Prop) : Prop := match d with
  | .src => p
  | _ => False
theorem srcK_iff {d : D} {p : Prop} (h : srcK d p) : d = .src ∧ p := by
  cases d with
  | src => exact ⟨rfl, h⟩
  | _ => exact h.elim
noncomputable def natK (d : D) (k : Nat → Prop) : Prop := optK (natOf (.dat d)) k
theorem natK_iff {d : D} {k : Nat → Prop} (h : natK d k) : ∃ n, d = .int (.ofNat n) ∧ k n := by
  obtain ⟨n, e, h⟩ := optK_iff h
  refine ⟨n, ?_, h⟩
  cases d with
  | int i => cases i with
    | ofNat n => exact congrArg (fun n => D.int (.ofNat n)) (Option.some.inj e)
    | negSucc _ => exact no e
  | _ => exact no e
noncomputable def takeSpec : Sp := fun args ext Q _ => s2 args ext fun a n => srcK a (natK n fun n => ifT (Nat.blt 0 n) (ifT (Nat.blt n 1000) (conjN n fun i => Q (.dat (.int (.ofNat i))) [] none)))
noncomputable def takeR (t : Int) (Q : V → List AObj → Option AObj → Prop) : Prop := ∀ x : Int, 0 ≤ x → branch (iltb 0 x)
  (∀ x : Int, 0 ≤ x → t ≠ 0 ∧ ∀ x1 : Int, 0 ≤ x1 → (0 < t ∧ t < 1073741824) ∧ 0 ≤ x1.fdiv t ∧ Q (.dat (.int (x.fmod t))) [] none)
  (∀ x : Int, 0 ≤ x → x < 2147483647 → (x.natAbs < 2 ^ 64 ∨ (39373 : Int).natAbs < 2 ^ 64) ∧ (2147483647 : Int) ≠ 0 ∧ (0 ≤ (x * 39373 + 7).fmod 2147483647 ∧ (x * 39373 + 7).fmod 2147483647 < 2147483647) ∧
    ∀ x : Int, 0 ≤ x → x < 2147483647 → ∀ x1 : Int, 0 ≤ x1 → x1 < 2147483647 → (x.natAbs < 2 ^ 64 ∨ x1.natAbs < 2 ^ 64) ∧ (2147483629 : Int) ≠ 0 ∧ ((0 : Int) < 32 ∧ (32 : Int) < 1073741824) ∧ t ≠ 0 ∧
      Q (.dat (.int ((((x * x1).fmod 2147483629).fdiv 32).fmod t))) [] none)
noncomputable def noC : Addr → Sp := fun _ _ _ _ _ => False
theorem take_run (n : Nat) (Q : V → List AObj → Option AObj → Prop) (E : Prop) (e : Fn) (he : tbl TB 327 = some e) : runF noC e [.dat .src, .dat (.int (.ofNat n))] none Q E = takeR (.ofNat n) Q := by
  have : e = ⟨[0, 1], 4, [], false, e327.p⟩ := Option.some.inj (he.symm.trans (by kernel_rfl))
  subst this
  kernel_rfl
theorem take_ok (d : Nat) (args : List V) (ext : Option AObj) (Q : V → List AObj → Option AObj → Prop) (E : Prop) (h : takeSpec args ext Q E) : CallOk (d + 1) 327 args ext Q E := by
  replace h := s2_iff h
  obtain ⟨_, _, rfl, rfl, h⟩ := h
  replace h := srcK_iff h
  obtain ⟨rfl, h⟩ := h
  replace h := natK_iff h
  obtain ⟨n, rfl, h⟩ := h
  obtain ⟨h1, h⟩ := ifT_iff h
  obtain ⟨h2, h⟩ := ifT_iff h
  have h3 := conjN_iff.mp h
  have g1 : 0 < n := by simpa [Nat.blt_eq] using h1
  have g2 : n < 1000 := by simpa [Nat.blt_eq] using h2
  have hm : ∀ x : Int, Q (.dat (.int (x.fmod (Int.ofNat n)))) [] none := fun x => by
    have e1 : 0 ≤ x.fmod (n : Int) := Int.fmod_nonneg_of_pos _ (by omega)
    have e2 : x.fmod (n : Int) < n := Int.fmod_lt_of_pos _ (by omega)
    have := h3 (x.fmod (n : Int)).toNat (by omega)
    rw [show (Int.ofNat (x.fmod (n : Int)).toNat) = x.fmod (Int.ofNat n) from Int.toNat_of_nonneg e1] at this
    exact this
  have hn : (Int.ofNat n) = (n : Int) := rfl
  refine runF_ok (tb_is (f := 327) rfl) (call := noC) (fun _ _ _ _ _ h => h.elim) ?_
  rw [take_run n Q E _ rfl]
  intro x hx
  refine branch_intro (fun _ x hx => ?_) fun _ x h1 h2 => ?_
  · refine ⟨by rw [hn]; omega, fun x1 hx1 => ⟨⟨by rw [hn]; omega, by rw [hn]; omega⟩, Int.fdiv_nonneg hx1 (by rw [hn]; omega), hm x⟩⟩
  · refine ⟨.inr (by decide), by decide, ⟨Int.fmod_nonneg_of_pos _ (by decide), Int.fmod_lt_of_pos _ (by decide)⟩, fun x h1 h2 x1 h3 h4 => ⟨.inl (by omega), by decide, ⟨by decide, by decide⟩, by rw [hn]; omega, hm _⟩⟩
end Mine
namespace Mine
open PySem PySem.W PyProof.Rows PySem.Calls PySem.Spec
noncomputable def OvOk (m : Nat) (ov : Ov) : Prop := ∀ f s, ov f = some s → ∀ d, m ≤ d → ∀ args ext Q E, s args ext Q E → CallOk d f args ext Q E
noncomputable def ovN : Ov := fun _ => none
noncomputable def addO (ov : Ov) (f : Addr) (s : Sp) : Ov := fun g => match Nat.beq g f with | true => some s | false => ov g
theorem OvOk.none (m : Nat) : OvOk m ovN := fun _ _ h => by cases h
theorem OvOk.add {m k : Nat} {ov : Ov} {f : Addr} {s : Sp} (o : OvOk m ov) (hk : m ≤ k) (h : ∀ d, k ≤ d → ∀ args ext Q E, s args ext Q E → CallOk d f args ext Q E) : OvOk k (addO ov f s) := by
  intro g t e d hd args ext Q E hs
  unfold addO at e
  split at e
  · rename_i q
    cases e
    rw [Nat.eq_of_beq_eq_true q]
    exact h d hd args ext Q E hs
  · exact o g t e d (Nat.le_trans hk hd) args ext Q E hs
theorem OvOk.run {m : Nat} {ov : Ov} (o : OvOk m ov) (n : Nat) {f : Addr} {args : List V} {ext : Option AObj} {Q : V → List AObj → Option AObj → Prop} {E : Prop} {d : Nat} (hd : m + n ≤ d) (h : cal ov n f args ext Q E) : CallOk d f args ext Q E := by
  have := cal_ok (ov := ov) (m := d - n) (fun f s e d' hd' => o f s e d' (by omega)) n f args ext Q E h
  rwa [show d - n + n = d by omega] at this
noncomputable def ovT : Ov := addO ovN 327 takeSpec
theorem ovT_ok : OvOk 1 ovT := (OvOk.none 1).add (Nat.le_refl _) fun d hd args ext Q E h => by
  have := take_ok (d - 1) args ext Q E h
  rwa [show d - 1 + 1 = d by omega] at this
noncomputable def tyI (s : List Nat) : D := .tup [.str K.int, .str s]
noncomputable def tyU : D := tyI K.u8
noncomputable def tyB : D := .tup [.str K.bool]
noncomputable def tyP (s : List Nat) : D := .tup [.str K.param, .str s]
noncomputable def tyX (t : D) : D := .tup [.str K.box, t]
noncomputable def tyA (t : D) (n : Nat) : D := .tup [.str K.array, t, .int (.ofNat n)]
noncomputable def tyR (t : D) : D := .tup [.str K.ref, .str K.c39_97, .bool false, t]
noncomputable def tyD (s : List Nat) (ts : List D) : D := .tup [.str K.adt, .str s, .tup [], .tup ts]
noncomputable def lfC : Nat → D
  | 0 => tyU
  | _ => tyB
inductive Clo : D → Prop
  | leaf (i : Nat) : Clo (lfC i)
  | box (i : Nat) : Clo (tyX (lfC i))
  | arr (i n : Nat) (h : n < 3) : Clo (tyA (lfC i) (1 + n))
  | ref (i : Nat) : Clo (tyR (lfC i))
  | adt (i j : Nat) : Clo (tyD K.W [lfC i, lfC j])
noncomputable def q0 (Q : V → List AObj → Option AObj → Prop) (d : D) : Prop := Q (.dat d) [] none
noncomputable def closedR (Q : V → List AObj → Option AObj → Prop) : Prop := conjN 7 fun w => match w with
  | 0 => conjN 2 fun i => q0 Q (lfC i)
  | 1 => conjN 2 fun i => q0 Q (lfC i)
  | 2 => conjN 2 fun i => q0 Q (lfC i)
  | 3 => conjN 2 fun i => q0 Q (tyX (lfC i))
  | 4 => conjN 2 fun i => conjN 3 fun n => q0 Q (tyA (lfC i) (1 + n))
  | 5 => conjN 2 fun i => q0 Q (tyR (lfC i))
  | _ => conjN 2 fun i => conjN 2 fun j => q0 Q (tyD K.W [lfC i, lfC j])
theorem closed_run (Q : V → List AObj → Option AObj → Prop) (E : Prop) : cal ovT 6 348 [.dat .src] none Q E = closedR Q := by kernel_rfl
noncomputable def closedSpec : Sp := fun args ext Q _ => s1 args ext fun a => srcK a (∀ c, Clo c → Q (.dat c) [] none)
theorem closed_ok (d : Nat) (hd : 7 ≤ d) (args : List V) (ext : Option AObj) (Q : V → List AObj → Option AObj → Prop) (E : Prop) (h : closedSpec args ext Q E) : CallOk d 348 args ext Q E := by
  replace h := s1_iff h
  obtain ⟨_, rfl, rfl, h⟩ := h
  replace h := srcK_iff h
  obtain ⟨rfl, h⟩ := h
  refine (ovT_ok).run 6 hd ?_
  rw [closed_run]
  refine conjN_iff.mpr fun w _ => ?_
  split
  · exact conjN_iff.mpr fun i _ => h _ (.leaf i)
  · exact conjN_iff.mpr fun i _ => h _ (.leaf i)
  · exact conjN_iff.mpr fun i _ => h _ (.leaf i)
  · exact conjN_iff.mpr fun i _ => h _ (.box i)
  · exact conjN_iff.mpr fun i _ => conjN_iff.mpr fun n hn => h _ (.arr i n hn)
  · exact conjN_iff.mpr fun i _ => h _ (.ref i)
  · exact conjN_iff.mpr fun i _ => conjN_iff.mpr fun j _ => h _ (.adt i j)
end Mine
namespace Mine
open PySem PySem.W PyProof.Rows PySem.Calls PySem.Spec
theorem OvOk.body {m : Nat} {ov : Ov} (o : OvOk m ov) (n : Nat) {f : Addr} {e : Fn} (he : tbl TB f = some e) {args : List V} {ext : Option AObj} {Q : V → List AObj → Option AObj → Prop} {E : Prop} {d : Nat} (hd : m + n + 1 ≤ d)
    (h : runF (cal ov n) e args ext Q E) : CallOk d f args ext Q E := by
  have := runF_ok (d := d - 1) (tb_is he) (call := cal ov n) (fun f args ext Q E h => o.run n (by omega) h) h
  rwa [show d - 1 + 1 = d by omega] at this
noncomputable def lfA : Nat → D
  | 0 => tyP K.X
  | 1 => tyP K.Y
  | _ => tyB
noncomputable def lfB (c : D) : Nat → D
  | 0 => c
  | 1 => tyP K.Y
  | _ => tyB
noncomputable def lvs (c : D) : D := .lst [.tup [tyP K.X, c], .tup [tyP K.Y, tyP K.Y], .tup [tyB, tyB]]
inductive Tw (c : D) : Nat → D → D → Prop
  | leaf (n i : Nat) : Tw c n (lfA i) (lfB c i)
  | box {n : Nat} {a b : D} : Tw c n a b → Tw c (n + 1) (tyX a) (tyX b)
  | arr {n : Nat} {a b : D} (k : Nat) (h : k < 3) : Tw c n a b → Tw c (n + 1) (tyA a (1 + k)) (tyA b (1 + k))
  | ref {n : Nat} {a b : D} : Tw c n a b → Tw c (n + 1) (tyR a) (tyR b)
  | adt {n : Nat} {a b a' b' : D} : Tw c n a b → Tw c n a' b' → Tw c (n + 1) (tyD K.W [a, a']) (tyD K.W [b, b'])
noncomputable def twSpec (c : D) (N : Nat) : Sp := fun args ext Q _ => s3 args ext fun a L m => srcK a (natK m fun m => L = lvs c ∧ ifT (Nat.ble m N) (∀ a b, Tw c m a b → Q (.dat (.tup [a, b])) [] none))
theorem he341 : tbl TB 341 = some e341 := rfl
noncomputable def twR0 (c : D) (Q : D → Prop) : Prop := conjN 3 fun i => Q (.tup [lfA i, lfB c i])
noncomputable def twR (c : D) (n : Nat) (Q : D → Prop) : Prop := conjN 7 fun w => match w with
  | 0 => twR0 c Q
  | 1 => twR0 c Q
  | 2 => twR0 c Q
  | 3 => lvs c = lvs c ∧ ∀ a b, Tw c n a b → Q (.tup [tyX a, tyX b])
  | 4 => lvs c = lvs c ∧ ∀ a b, Tw c n a b → conjN 3 fun k => Q (.tup [tyA a (1 + k), tyA b (1 + k)])
  | 5 => lvs c = lvs c ∧ ∀ a b, Tw c n a b → Q (.tup [tyR a, tyR b])
  | _ => lvs c = lvs c ∧ ∀ a b, Tw c n a b → lvs c = lvs c ∧ ∀ a' b', Tw c n a' b' → Q (.tup [tyD K.W [a, a'], tyD K.W [b, b']])
theorem tw_run0 (c : D) (Q : V → List AObj → Option AObj → Prop) (E : Prop) : runF (cal ovT 3) e341 [.dat .src, .dat (lvs c), .dat (.int (.ofNat 0))] none Q E = twR0 c (q0 Q) := by kernel_rfl
theorem tw_run1 (c : D) (Q : V → List AObj → Option AObj → Prop) (E : Prop) : runF (cal (addO ovT 341 (twSpec c 0)) 3) e341 [.dat .src, .dat (lvs c), .dat (.int (.ofNat 1))] none Q E = twR c 0 (q0 Q) := by kernel_rfl
theorem tw_run2 (c : D) (Q : V → List AObj → Option AObj → Prop) (E : Prop) : runF (cal (addO ovT 341 (twSpec c 1)) 3) e341 [.dat .src, .dat (lvs c), .dat (.int (.ofNat 2))] none Q E = twR c 1 (q0 Q) := by kernel_rfl
theorem twR0_ok {c : D} {n : Nat} {Q : D → Prop} (h : ∀ a b, Tw c n a b → Q (.tup [a, b])) : twR0 c Q := conjN_iff.mpr fun i _ => h _ _ (.leaf n i)
theorem twR_ok {c : D} {n : Nat} {Q : D → Prop} (h : ∀ a b, Tw c (n + 1) a b → Q (.tup [a, b])) : twR c n Q := by
  refine conjN_iff.mpr fun w _ => ?_
  split
  · exact twR0_ok h
  · exact twR0_ok h
  · exact twR0_ok h
  · exact ⟨rfl, fun a b t => h _ _ (.box t)⟩
  · exact ⟨rfl, fun a b t => conjN_iff.mpr fun k hk => h _ _ (.arr k hk t)⟩
  · exact ⟨rfl, fun a b t => h _ _ (.ref t)⟩
  · exact ⟨rfl, fun a b t => ⟨rfl, fun a' b' t' => h _ _ (.adt t t')⟩⟩
theorem tw_ok (c : D) : ∀ (N : Nat), N ≤ 2 → OvOk (5 + 5 * N) (addO ovT 341 (twSpec c N)) := by
  have key : ∀ (m N : Nat) (d : Nat) (args : List V) (ext : Option AObj) (Q : V → List AObj → Option AObj → Prop) (E : Prop), twSpec c N args ext Q E →
      (∀ m, m ≤ N → ∀ Q : V → List AObj → Option AObj → Prop, (∀ a b, Tw c m a b → Q (.dat (.tup [a, b])) [] none) → CallOk d 341 [.dat .src, .dat (lvs c), .dat (.int (.ofNat m))] none Q E) → CallOk d 341 args ext Q E := by
    intro _ N d args ext Q E h k
    replace h := s3_iff h
    obtain ⟨_, L, _, rfl, rfl, h⟩ := h
    replace h := srcK_iff h
    obtain ⟨rfl, h⟩ := h
    replace h := natK_iff h
    obtain ⟨m, rfl, h⟩ := h
    obtain ⟨rfl, h⟩ := h
    obtain ⟨h1, h⟩ := ifT_iff h
    exact k _ (Nat.le_of_ble_eq_true h1) _ h
  have z : ∀ d, 5 ≤ d → ∀ (Q : V → List AObj → Option AObj → Prop) (E : Prop), (∀ a b, Tw c 0 a b → Q (.dat (.tup [a, b])) [] none) → CallOk d 341 [.dat .src, .dat (lvs c), .dat (.int (.ofNat 0))] none Q E := fun d hd Q E h => by
    refine (ovT_ok).body 3 he341 hd ?_
    rw [tw_run0]; exact twR0_ok h
  have o0 : OvOk 5 (addO ovT 341 (twSpec c 0)) := (ovT_ok).add (by omega) fun d hd args ext Q E h => key 0 0 d args ext Q E h fun m hm Q h => by
    obtain rfl : m = 0 := by omega
    exact z d hd Q E h
  have s1 : ∀ d, 10 ≤ d → ∀ (Q : V → List AObj → Option AObj → Prop) (E : Prop), (∀ a b, Tw c 1 a b → Q (.dat (.tup [a, b])) [] none) → CallOk d 341 [.dat .src, .dat (lvs c), .dat (.int (.ofNat 1))] none Q E := fun d hd Q E h => by
    refine o0.body 3 he341 (by omega) ?_
    rw [tw_run1]; exact twR_ok h
  have o1 : OvOk 10 (addO ovT 341 (twSpec c 1)) := (ovT_ok).add (by omega) fun d hd args ext Q E h => key 0 1 d args ext Q E h fun m hm Q h => by
    rcases (by omega : m = 0 ∨ m = 1) with rfl | rfl
    · exact z d (by omega) Q E h
    · exact s1 d hd Q E h
  have s2 : ∀ d, 15 ≤ d → ∀ (Q : V → List AObj → Option AObj → Prop) (E : Prop), (∀ a b, Tw c 2 a b → Q (.dat (.tup [a, b])) [] none) → CallOk d 341 [.dat .src, .dat (lvs c), .dat (.int (.ofNat 2))] none Q E := fun d hd Q E h => by
    refine o1.body 3 he341 (by omega) ?_
    rw [tw_run2]; exact twR_ok h
  intro N hN
  rcases (by omega : N = 0 ∨ N = 1 ∨ N = 2) with rfl | rfl | rfl
  · exact o0
  · exact o1
  · exact (ovT_ok).add (by omega) fun d hd args ext Q E h => key 0 2 d args ext Q E h fun m hm Q h => by
      rcases (by omega : m = 0 ∨ m = 1 ∨ m = 2) with rfl | rfl | rfl
      · exact z d (by omega) Q E h
      · exact s1 d (by omega) Q E h
      · exact s2 d (by omega) Q E h
end Mine
namespace Mine
open PySem PySem.W PyProof.Rows PySem.Calls PySem.Spec
noncomputable def tb (c : D) : D := .dct [(.str K.X, c), (.str K.Z, .tup [.str K.never])]
noncomputable def sbSpec (c : D) (N : Nat) : Sp := fun args ext Q _ => s2 args ext fun a t => t = tb c ∧ ∃ b, Tw c N a b ∧ Q (.dat b) [] none
theorem he101 : tbl TB 101 = some e101 := rfl
section
variable (c a a' : D) (n k : Nat) (Q : V → List AObj → Option AObj → Prop) (E : Prop)
theorem sb_x : runF (cal ovN 3) e101 [.dat (tyP K.X), .dat (tb c)] none Q E = q0 Q c := by kernel_rfl
theorem sb_y : runF (cal ovN 3) e101 [.dat (tyP K.Y), .dat (tb c)] none Q E = q0 Q (tyP K.Y) := by kernel_rfl
theorem sb_b : runF (cal ovN 3) e101 [.dat tyB, .dat (tb c)] none Q E = q0 Q tyB := by kernel_rfl
theorem sb_box : runF (cal (addO ovN 101 (sbSpec c n)) 3) e101 [.dat (tyX a), .dat (tb c)] none Q E = (tb c = tb c ∧ ∃ b, Tw c n a b ∧ q0 Q (tyX b)) := by kernel_rfl
theorem sb_arr : runF (cal (addO ovN 101 (sbSpec c n)) 3) e101 [.dat (tyA a k), .dat (tb c)] none Q E = (tb c = tb c ∧ ∃ b, Tw c n a b ∧ q0 Q (tyA b k)) := by kernel_rfl
theorem sb_ref : runF (cal (addO ovN 101 (sbSpec c n)) 3) e101 [.dat (tyR a), .dat (tb c)] none Q E = (tb c = tb c ∧ ∃ b, Tw c n a b ∧ q0 Q (tyR b)) := by kernel_rfl
theorem sb_adt : runF (cal (addO ovN 101 (sbSpec c n)) 3) e101 [.dat (tyD K.W [a, a']), .dat (tb c)] none Q E = (tb c = tb c ∧ ∃ b, Tw c n a b ∧ tb c = tb c ∧ ∃ b', Tw c n a' b' ∧ q0 Q (tyD K.W [b, b'])) := by kernel_rfl
end
theorem sb_leaf (c : D) (i : Nat) (d : Nat) (hd : 4 ≤ d) (Q : V → List AObj → Option AObj → Prop) (E : Prop) (h : Q (.dat (lfB c i)) [] none) : CallOk d 101 [.dat (lfA i), .dat (tb c)] none Q E := by
  refine (OvOk.none 0).body 3 he101 (by omega) ?_
  match i, h with
  | 0, h => show runF (cal ovN 3) e101 [.dat (tyP K.X), .dat (tb c)] none Q E; rw [sb_x]; exact h
  | 1, h => show runF (cal ovN 3) e101 [.dat (tyP K.Y), .dat (tb c)] none Q E; rw [sb_y]; exact h
  | i + 2, h => show runF (cal ovN 3) e101 [.dat tyB, .dat (tb c)] none Q E; rw [sb_b]; exact h
theorem sb_ok (c : D) : ∀ (N : Nat), OvOk (4 + 4 * N) (addO ovN 101 (sbSpec c N)) := by
  have key : ∀ (N m : Nat), (∀ d, m ≤ d → ∀ a b, Tw c N a b → ∀ (Q : V → List AObj → Option AObj → Prop) (E : Prop), Q (.dat b) [] none → CallOk d 101 [.dat a, .dat (tb c)] none Q E) → OvOk m (addO ovN 101 (sbSpec c N)) := by
    intro N m h
    refine (OvOk.none m).add (Nat.le_refl _) fun d hd args ext Q E hs => ?_
    replace hs := s2_iff hs
    obtain ⟨a, t, rfl, rfl, hs⟩ := hs
    obtain ⟨rfl, b, t, hq⟩ := hs
    exact h d hd _ _ t Q E hq
  intro N
  induction N with
  | zero =>
    refine key 0 _ fun d hd a b t Q E hq => ?_
    cases t with
    | leaf _ i => exact sb_leaf c i d (by omega) Q E hq
  | succ n ih =>
    refine key (n + 1) _ fun d hd a b t Q E hq => ?_
    cases t with
    | leaf _ i => exact sb_leaf c i d (by omega) Q E hq
    | box t => refine ih.body 3 he101 (by omega) ?_; rw [sb_box]; exact ⟨rfl, _, t, hq⟩
    | arr k hk t => refine ih.body 3 he101 (by omega) ?_; rw [sb_arr]; exact ⟨rfl, _, t, hq⟩
    | ref t => refine ih.body 3 he101 (by omega) ?_; rw [sb_ref]; exact ⟨rfl, _, t, hq⟩
    | adt t t' => refine ih.body 3 he101 (by omega) ?_; rw [sb_adt]; exact ⟨rfl, _, t, rfl, _, t', hq⟩
end Mine
namespace Mine
open PySem PySem.W PyProof.Rows PySem.Calls PySem.Spec
theorem lbeq_refl (a : List Nat) : lbeq a a = true := lbeq_iff.mpr rfl
mutual
theorem dbeq_refl : ∀ (n : Nat) (d : D), dOk n d = true → dbeq d d = true
  | _, .none, _ => rfl
  | _, .bool b, _ => by cases b <;> rfl
  | _, .int i, _ => by show ibeq i i = true; rw [ibeq_eq]; simp
  | _, .str s, _ => lbeq_refl s
  | 0, .tup _, h => by cases h
  | 0, .lst _, h => by cases h
  | n + 1, .tup vs, h => dbeqs_refl n vs h
  | n + 1, .lst vs, h => dbeqs_refl n vs h
  | n, .dct _, h => by cases n <;> cases h
  | n, .ins _ _, h => by cases n <;> cases h
  | n, .src, h => by cases n <;> cases h
  | n, .raw _, h => by cases n <;> cases h
theorem dbeqs_refl : ∀ (n : Nat) (l : List D), dOk.all' n l = true → dbeqs l l = true
  | _, [], _ => rfl
  | n, v :: r, h => by
    have h' : band2 (dOk n v) (dOk.all' n r) = true := h
    rw [band2_eq, Bool.and_eq_true] at h'
    show band2 (dbeq v v) (dbeqs r r) = true
    rw [dbeq_refl n v h'.1, dbeqs_refl n r h'.2]; rfl
end
noncomputable def Ok (k : Nat) (d : D) : Prop := ∀ n, k ≤ n → dOk n d = true
theorem Ok.weak {k m : Nat} {d : D} (h : Ok k d) (l : k ≤ m) : Ok m d := fun n hn => h n (Nat.le_trans l hn)
theorem Ok.tup {k : Nat} {l : List D} (h : ∀ d ∈ l, Ok k d) : Ok (k + 1) (.tup l) := by
  intro n hn
  obtain ⟨m, rfl⟩ : ∃ m, n = m + 1 := ⟨n - 1, by omega⟩
  show dOk.all' m l = true
  induction l with
  | nil => rfl
  | cons a r ih =>
    show band2 (dOk m a) (dOk.all' m r) = true
    rw [h a (List.mem_cons_self ..) m (by omega), ih fun d hd => h d (List.mem_cons_of_mem _ hd)]; rfl
theorem Ok.str {s : List Nat} (h : sOk s = true) : Ok 0 (.str s) := fun n _ => by cases n <;> exact h
theorem Ok.bool (b : Bool) : Ok 0 (.bool b) := fun n _ => by cases n <;> rfl
theorem Ok.int (b : Int) : Ok 0 (.int b) := fun n _ => by cases n <;> rfl
theorem Ok.nil {k : Nat} : ∀ d ∈ ([] : List D), Ok k d := fun _ h => by cases h
theorem Ok.cons {k : Nat} {a : D} {l : List D} (h : Ok k a) (r : ∀ d ∈ l, Ok k d) : ∀ d ∈ a :: l, Ok k d := fun d hd => by
  rcases List.mem_cons.mp hd with rfl | hd
  · exact h
  · exact r d hd
theorem ok_leaf (i : Nat) : Ok 1 (lfC i) := by
  unfold lfC
  split
  · exact .tup (.cons (.str rfl) (.cons (.str rfl) .nil))
  · exact .tup (.cons (.str rfl) .nil)
theorem okX {k : Nat} {t : D} (h : Ok k t) : Ok (k + 1) (tyX t) := .tup (.cons ((Ok.str rfl).weak (Nat.zero_le _)) (.cons h .nil))
theorem okA {k n : Nat} {t : D} (h : Ok k t) : Ok (k + 1) (tyA t n) := .tup (.cons ((Ok.str rfl).weak (Nat.zero_le _)) (.cons h (.cons ((Ok.int _).weak (Nat.zero_le _)) .nil)))
theorem okR {k : Nat} {t : D} (h : Ok k t) : Ok (k + 1) (tyR t) := .tup (.cons ((Ok.str rfl).weak (Nat.zero_le _)) (.cons ((Ok.str rfl).weak (Nat.zero_le _)) (.cons ((Ok.bool _).weak (Nat.zero_le _)) (.cons h .nil))))
theorem okW {k : Nat} {t u : D} (h : Ok k t) (g : Ok k u) : Ok (k + 2) (tyD K.W [t, u]) := .tup (.cons ((Ok.str rfl).weak (Nat.zero_le _)) (.cons ((Ok.str rfl).weak (Nat.zero_le _)) (.cons ((Ok.tup (k := 0) .nil).weak (by omega)) (.cons (.tup (.cons h (.cons g .nil))) .nil))))
theorem Clo.ok {c : D} (h : Clo c) : Ok 3 c := by
  cases h with
  | leaf i => exact (ok_leaf i).weak (by omega)
  | box i => exact (okX (ok_leaf i)).weak (by omega)
  | arr i n => exact (okA (ok_leaf i)).weak (by omega)
  | ref i => exact (okR (ok_leaf i)).weak (by omega)
  | adt i j => exact okW (ok_leaf i) (ok_leaf j)
theorem Tw.ok {c : D} (hc : Ok 3 c) : ∀ {n : Nat} {a b : D}, Tw c n a b → Ok (3 + 2 * n) b
  | _, _, _, .leaf n i => by
    match i with
    | 0 => exact hc.weak (by omega)
    | 1 => exact (Ok.tup (k := 0) (.cons (.str rfl) (.cons (.str rfl) .nil))).weak (by omega)
    | i + 2 => exact (Ok.tup (k := 0) (.cons (.str rfl) .nil)).weak (by omega)
  | _, _, _, .box t => (okX (t.ok hc)).weak (by omega)
  | _, _, _, .arr k h t => (okA (t.ok hc)).weak (by omega)
  | _, _, _, .ref t => (okR (t.ok hc)).weak (by omega)
  | _, _, _, .adt t t' => (okW (t.ok hc) (t'.ok hc)).weak (by omega)
noncomputable def eqQ (x y : D) (k : Bool → Prop) : Prop := ifT (dOk 20 x) (ifT (dOk 20 y) (k (dbeq x y)))
theorem eqQ_refl {x : D} {k : Bool → Prop} (h : Ok 20 x) (hk : k true) : eqQ x x k := by
  unfold eqQ
  rw [h 20 (Nat.le_refl _), dbeq_refl 20 x (h 20 (Nat.le_refl _))]
  exact hk
noncomputable def twSpecA : Sp := fun args ext Q _ => s3 args ext fun a L m => srcK a (natK m fun m => ∃ c, L = lvs c ∧ ifT (Nat.ble m 2) (∀ a b, Tw c m a b → Q (.dat (.tup [a, b])) [] none))
noncomputable def sbSpecA : Sp := fun args ext Q _ => s2 args ext fun a t => ∃ c, t = tb c ∧ ∃ b, Tw c 2 a b ∧ Q (.dat b) [] none
noncomputable def ovR : Ov := addO (addO (addO ovT 348 closedSpec) 341 twSpecA) 101 sbSpecA
theorem ovR_ok : OvOk 20 ovR := by
  have h1 : OvOk 20 (addO ovT 348 closedSpec) := (ovT_ok).add (by omega) fun d hd args ext Q E h => closed_ok d (by omega) args ext Q E h
  have h2 : OvOk 20 (addO (addO ovT 348 closedSpec) 341 twSpecA) := h1.add (by omega) fun d hd args ext Q E h => by
    replace h := s3_iff h
    obtain ⟨_, L, _, rfl, rfl, h⟩ := h
    replace h := srcK_iff h
    obtain ⟨rfl, h⟩ := h
    replace h := natK_iff h
    obtain ⟨m, rfl, h⟩ := h
    obtain ⟨c, rfl, h⟩ := h
    exact tw_ok c 2 (by omega) 341 (twSpec c 2) rfl d (by omega) _ _ Q E ⟨rfl, h⟩
  refine h2.add (by omega) fun d hd args ext Q E h => ?_
  replace h := s2_iff h
  obtain ⟨a, t, rfl, rfl, h⟩ := h
  obtain ⟨c, rfl, h⟩ := h
  exact sb_ok c 2 101 (sbSpec c 2) rfl d (by omega) _ _ Q E ⟨rfl, h⟩
noncomputable def twQ (c : D) (k : D → D → Prop) : Prop := ∃ c', lvs c = lvs c' ∧ ∀ a b, Tw c' 2 a b → k a b
noncomputable def sbQ (c a : D) (k : D → Prop) : Prop := ∃ c', tb c = tb c' ∧ ∃ b, Tw c' 2 a b ∧ k b
noncomputable def rfF (l : List D) : D := .tup [.str K.fn, .str K.f, .tup l]
noncomputable def rfM (o : D) (l : List D) : D := .tup [.str K.method, .str K.A, .str K.X, o, .tup l]
noncomputable def refsR (Q : D → Prop) : Prop := ∀ c, Clo c → conjN 3 fun n => match n with
  | 0 => twQ c fun o l => sbQ c o fun o' => eqQ (rfM o' []) (rfM l []) fun r => Q (.bool r)
  | 1 => twQ c fun a b => twQ c fun o l => sbQ c a fun a' => eqQ (rfF [a']) (rfF [b]) fun r => branch (negB r) (Q (.bool false)) (sbQ c a fun a' => sbQ c o fun o' => eqQ (rfM o' [a']) (rfM l [b]) fun r => Q (.bool r))
  | _ => twQ c fun a b => twQ c fun a2 b2 => twQ c fun o l => sbQ c a fun a' => sbQ c a2 fun a2' => eqQ (rfF [a', a2']) (rfF [b, b2]) fun r => branch (negB r) (Q (.bool false)) (sbQ c a fun a' => sbQ c a2 fun a2' => sbQ c o fun o' => eqQ (rfM o' [a', a2']) (rfM l [b, b2]) fun r => Q (.bool r))
theorem refs_run (Q : V → List AObj → Option AObj → Prop) (E : Prop) : cal ovR 6 353 [.dat .src] none Q E = refsR (q0 Q) := by kernel_rfl
end Mine
namespace Mine
open PySem PySem.W PyProof.Rows PySem.Calls PySem.Spec
theorem Ok.w {k : Nat} {d : D} (h : Ok k d) (m : Nat) (l : k ≤ m := by omega) : Ok m d := h.weak l
theorem rfF_ok {l : List D} (h : ∀ d ∈ l, Ok 8 d) : Ok 20 (rfF l) := (Ok.tup (k := 9) (.cons ((Ok.str rfl).w _) (.cons ((Ok.str rfl).w _) (.cons (.tup h) .nil)))).w _
theorem rfM_ok {o : D} {l : List D} (ho : Ok 8 o) (h : ∀ d ∈ l, Ok 8 d) : Ok 20 (rfM o l) := (Ok.tup (k := 9) (.cons ((Ok.str rfl).w _) (.cons ((Ok.str rfl).w _) (.cons ((Ok.str rfl).w _) (.cons (ho.w _) (.cons (.tup h) .nil)))))).w _
theorem refsR_ok {Q : D → Prop} (h : Q (.bool true)) : refsR Q := by
  intro c hc
  have tw : ∀ {k : D → D → Prop}, (∀ a b, Tw c 2 a b → Ok 8 b → k a b) → twQ c k := fun hk => ⟨c, rfl, fun a b t => hk a b t ((t.ok hc.ok).w _)⟩
  have sb : ∀ {a b : D} {k : D → Prop}, Tw c 2 a b → k b → sbQ c a k := fun t hk => ⟨c, rfl, _, t, hk⟩
  refine conjN_iff.mpr fun n _ => ?_
  split
  · exact tw fun o l t g => sb t (eqQ_refl (rfM_ok g .nil) h)
  · refine tw fun a b t g => tw fun o l t2 g2 => sb t (eqQ_refl (rfF_ok (.cons g .nil)) ?_)
    exact sb t (sb t2 (eqQ_refl (rfM_ok g2 (.cons g .nil)) h))
  · refine tw fun a b t g => tw fun a2 b2 t3 g3 => tw fun o l t2 g2 => sb t (sb t3 (eqQ_refl (rfF_ok (.cons g (.cons g3 .nil))) ?_))
    exact sb t (sb t3 (sb t2 (eqQ_refl (rfM_ok g2 (.cons g (.cons g3 .nil))) h)))
noncomputable def trueSpec : Sp := fun args ext Q _ => s1 args ext fun a => srcK a (Q (.dat (.bool true)) [] none)
theorem refs_ok (d : Nat) (hd : 26 ≤ d) (args : List V) (ext : Option AObj) (Q : V → List AObj → Option AObj → Prop) (E : Prop) (h : trueSpec args ext Q E) : CallOk d 353 args ext Q E := by
  replace h := s1_iff h
  obtain ⟨_, rfl, rfl, h⟩ := h
  replace h := srcK_iff h
  obtain ⟨rfl, h⟩ := h
  refine (ovR_ok).run 6 hd ?_
  rw [refs_run]
  exact refsR_ok h
end Mine
namespace Mine
open PySem PySem.W PyProof.Rows PySem.Calls PySem.Spec
noncomputable def ovC : Ov := addO ovT 348 closedSpec
theorem ovC_ok : OvOk 7 ovC := (ovT_ok).add (by omega) fun d hd args ext Q E h => closed_ok d hd args ext Q E h
noncomputable def clN : Nat → (List D → Prop) → Prop
  | 0, k => k []
  | n + 1, k => ∀ c, Clo c → clN n fun cs => k (c :: cs)
theorem clN_ok : ∀ {n : Nat} {k : List D → Prop}, (∀ cs, cs.length = n → (∀ c ∈ cs, Ok 3 c) → k cs) → clN n k
  | 0, _, h => h [] rfl (by simp)
  | n + 1, _, h => fun c hc => clN_ok fun cs hl ho => h (c :: cs) (by simp [hl]) (Ok.cons hc.ok ho)
noncomputable def eqLs (Q : D → Prop) : List D → Prop
  | [] => Q (.bool true)
  | c :: cs => ifT (dOk 20 (.lst (c :: cs))) (ifT (dOk 20 (.lst (c :: cs))) (Q (.bool (dbeqs (c :: cs) (c :: cs)))))
noncomputable def namesR (Q : D → Prop) : Prop := conjN 4 fun k => conjN 4 fun j => match j with
  | 0 => clN k (eqLs Q)
  | 1 => clN k (eqLs Q)
  | 2 => clN (k + 1) fun _ => Q (.bool true)
  | _ => match k with
    | 0 => Q (.bool true)
    | k + 1 => clN k fun _ => Q (.bool true)
theorem names_run (Q : V → List AObj → Option AObj → Prop) (E : Prop) : cal ovC 8 358 [.dat .src] none Q E = namesR (q0 Q) := by kernel_rfl
theorem Ok.lst {k : Nat} {l : List D} (h : ∀ d ∈ l, Ok k d) : Ok (k + 1) (.lst l) := by
  intro n hn
  obtain ⟨m, rfl⟩ : ∃ m, n = m + 1 := ⟨n - 1, by omega⟩
  exact Ok.tup h (m + 1) hn
theorem eqLs_ok {Q : D → Prop} {cs : List D} (h : ∀ c ∈ cs, Ok 3 c) (hq : Q (.bool true)) : eqLs Q cs := by
  cases cs with
  | nil => exact hq
  | cons c cs =>
    have h1 := Ok.lst h 20 (by omega)
    show ifT (dOk 20 (.lst (c :: cs))) (ifT (dOk 20 (.lst (c :: cs))) (Q (.bool (dbeqs (c :: cs) (c :: cs)))))
    rw [h1, dbeqs_refl 19 _ h1]
    exact hq
theorem namesR_ok {Q : D → Prop} (h : Q (.bool true)) : namesR Q := by
  refine conjN_iff.mpr fun k _ => conjN_iff.mpr fun j _ => ?_
  split
  · exact clN_ok fun cs _ ho => eqLs_ok ho h
  · exact clN_ok fun cs _ ho => eqLs_ok ho h
  · exact clN_ok fun _ _ _ => h
  · split
    · exact h
    · exact clN_ok fun _ _ _ => h
theorem names_ok (d : Nat) (hd : 15 ≤ d) (args : List V) (ext : Option AObj) (Q : V → List AObj → Option AObj → Prop) (E : Prop) (h : trueSpec args ext Q E) : CallOk d 358 args ext Q E := by
  replace h := s1_iff h
  obtain ⟨_, rfl, rfl, h⟩ := h
  replace h := srcK_iff h
  obtain ⟨rfl, h⟩ := h
  refine (ovC_ok).run 8 hd ?_
  rw [names_run]
  exact namesR_ok h
end Mine
namespace Mine
open PySem PySem.W PyProof.Rows PySem.Calls PySem.Spec
noncomputable def rfD (l : List D) : D := .tup [.str K.fn, .str K.c87_58_58_100_114_111_112, .tup l]
noncomputable def dropsR (Q : D → Prop) : Prop := conjN 4 fun i => conjN 3 fun j => conjN 2 fun _ => ∀ a, Clo a → ∀ b, Clo b → match i with
  | 0 => Q (.bool true)
  | _ => match j with
    | 0 => Q (.bool true)
    | _ => eqQ (rfD [b, a]) (rfD [b, a]) fun r => branch (negB r) (Q (.bool false)) (Q (.bool true))
theorem drops_run (Q : V → List AObj → Option AObj → Prop) (E : Prop) : cal ovC 30 401 [.dat .src] none Q E = dropsR (q0 Q) := by kernel_rfl
theorem dropsR_ok {Q : D → Prop} (h : Q (.bool true)) : dropsR Q := by
  refine conjN_iff.mpr fun i _ => conjN_iff.mpr fun j _ => conjN_iff.mpr fun _ _ a ha b hb => ?_
  split
  · exact h
  · split
    · exact h
    · exact eqQ_refl ((Ok.tup (k := 9) (.cons ((Ok.str rfl).w _) (.cons ((Ok.str rfl).w _) (.cons (.tup (.cons (hb.ok.w 8) (.cons (ha.ok.w 8) .nil))) .nil)))).w _) h
theorem drops_ok (d : Nat) (hd : 37 ≤ d) (args : List V) (ext : Option AObj) (Q : V → List AObj → Option AObj → Prop) (E : Prop) (h : trueSpec args ext Q E) : CallOk d 401 args ext Q E := by
  replace h := s1_iff h
  obtain ⟨_, rfl, rfl, h⟩ := h
  replace h := srcK_iff h
  obtain ⟨rfl, h⟩ := h
  refine (ovC_ok).run 30 hd ?_
  rw [drops_run]
  exact dropsR_ok h
end Mine
namespace Mine
open PySem PySem.W PyProof.Rows PySem.Calls PySem.Spec
noncomputable def imD (num : Nat) (params : List D) (trait : List Nat) (args : List D) (head : D) (methods : List (D × D)) : D :=
  .ins 280 (.dct [(.str K.number, .int (.ofNat num)), (.str K.regions, .tup []), (.str K.params, .lst params), (.str K.trait, .str trait), (.str K.trait_args, .tup args), (.str K.self_type, head), (.str K.methods, .dct methods), (.str K.spot, .int 0)])
noncomputable def wD (traits : List (D × D)) (impls : List D) : D := .ins 309 (.dct [(.str K.modules, .none), (.str K.adts, .dct []), (.str K.variants, .dct []), (.str K.sigs, .dct []), (.str K.traits, .dct traits), (.str K.impls, .lst impls), (.str K.consts, .dct []), (.str K.bodies, .dct [])])
noncomputable def trD (path : List Nat) (params : List D) (defaults : List (D × D)) : D := .ins 258 (.dct [(.str K.path, .str path), (.str K.params, .tup params), (.str K.methods, .dct []), (.str K.defaults, .dct defaults)])
noncomputable def imHead : Nat → D
  | 0 => tyU
  | 1 => tyB
  | 2 => tyX (tyP K.T)
  | _ => tyD K.W [tyP K.T, tyP K.U]
noncomputable def nmD (s : List Nat) (b : List D) : D := .tup [.str s, .tup b]
noncomputable def askL : Nat → List D
  | 0 => []
  | _ => [.str K.B]
noncomputable def imNames : Nat → Nat → List D
  | 0, _ => []
  | 1, _ => [nmD K.Z []]
  | 2, a => [nmD K.T (askL a)]
  | _, _ => [nmD K.U [], nmD K.T []]
noncomputable def imArg : Nat → Nat → D
  | _, 0 => tyB
  | 0, _ => tyB
  | 1, _ => tyP K.Z
  | 2, _ => tyP K.T
  | _, _ => tyP K.U
noncomputable def imArgs : Nat → Nat → Nat → List D
  | 0, _, _ => []
  | _, k, g => [imArg k g]
noncomputable def imMs (n : Nat) : Nat → Nat → List (D × D)
  | 0, 0 => [(.str K.n, .str ([73, 48 + n] ++ K.c58_58_110))]
  | 0, _ => []
  | _, 0 => [(.str K.m, .str ([73, 48 + n] ++ K.c58_58_109)), (.str K.n, .str ([73, 48 + n] ++ K.c58_58_110))]
  | _, _ => [(.str K.m, .str ([73, 48 + n] ++ K.c58_58_109))]
noncomputable def imF (many n k a g i j : Nat) : D := imD n (imNames k a) K.A (imArgs many k g) (imHead k) (imMs n i j)
noncomputable def implR (many n : Nat) (Q : D → Prop) : Prop := conjN 4 fun k => conjN 2 fun a => conjN 2 fun g => conjN 4 fun i => conjN 3 fun j => Q (imF many n k a g i j)
section
variable (Q : V → List AObj → Option AObj → Prop) (E : Prop)
theorem impl_run {n many : Nat} (hn : n < 4) (hm : many < 2) : cal ovT 6 365 [.dat .src, .dat (.int (.ofNat n)), .dat (.int (.ofNat many))] none Q E = implR many n (q0 Q) := match n, many, hn, hm with
  | 0, 0, _, _ => by kernel_rfl
  | 1, 0, _, _ => by kernel_rfl
  | 2, 0, _, _ => by kernel_rfl
  | 3, 0, _, _ => by kernel_rfl
  | 0, 1, _, _ => by kernel_rfl
  | 1, 1, _, _ => by kernel_rfl
  | 2, 1, _, _ => by kernel_rfl
  | 3, 1, _, _ => by kernel_rfl
end
inductive Im (many n : Nat) : D → Prop
  | mk (k a g i j : Nat) : Im many n (imF many n k a g i j)
noncomputable def implSpec : Sp := fun args ext Q _ => s3 args ext fun a n m => srcK a (natK n fun n => natK m fun many => ifT (Nat.blt n 4) (ifT (Nat.blt many 2) (∀ x, Im many n x → Q (.dat x) [] none)))
theorem impl_ok (d : Nat) (hd : 7 ≤ d) (args : List V) (ext : Option AObj) (Q : V → List AObj → Option AObj → Prop) (E : Prop) (h : implSpec args ext Q E) : CallOk d 365 args ext Q E := by
  replace h := s3_iff h
  obtain ⟨_, _, _, rfl, rfl, h⟩ := h
  replace h := srcK_iff h
  obtain ⟨rfl, h⟩ := h
  replace h := natK_iff h
  obtain ⟨n, rfl, h⟩ := h
  replace h := natK_iff h
  obtain ⟨many, rfl, h⟩ := h
  obtain ⟨h1, h⟩ := ifT_iff h
  obtain ⟨h2, h⟩ := ifT_iff h
  refine (ovT_ok).run 6 hd ?_
  rw [impl_run Q E (by simpa [Nat.blt_eq] using h1) (by simpa [Nat.blt_eq] using h2)]
  exact conjN_iff.mpr fun k _ => conjN_iff.mpr fun a _ => conjN_iff.mpr fun g _ => conjN_iff.mpr fun i _ => conjN_iff.mpr fun j _ => h _ (.mk k a g i j)
noncomputable def ovW : Ov := addO ovT 365 implSpec
theorem ovW_ok : OvOk 7 ovW := (ovT_ok).add (by omega) fun d hd args ext Q E h => impl_ok d hd args ext Q E h
noncomputable def psD : Nat → List D
  | 0 => []
  | _ => [.str K.P]
noncomputable def dfD : Nat → List (D × D)
  | 0 => []
  | 1 => [(.str K.n, .str K.c65_58_58_110)]
  | _ => [(.str K.n, .str K.c65_58_58_110), (.str K.m, .str K.c65_58_58_109)]
noncomputable def lastI (n : Nat) : D := imD n [] K.B [] tyB []
noncomputable def wF (many df : Nat) (l : List D) : D := wD [(.str K.A, trD K.A (psD many) (dfD df))] (l ++ [lastI l.length])
noncomputable def imN (many : Nat) : Nat → Nat → (List D → Prop) → Prop
  | _, 0, k => k []
  | s, n + 1, k => ∀ x, Im many s x → imN many (s + 1) n fun l => k (x :: l)
noncomputable def worldR (many : Nat) (Q : D → Prop) : Prop := conjN 3 fun df => conjN 4 fun c => imN many 0 (c + 1) fun l => Q (wF many df l)
theorem world_run0 (Q : V → List AObj → Option AObj → Prop) (E : Prop) : cal ovW 6 389 [.dat .src, .dat (.int (.ofNat 0))] none Q E = worldR 0 (q0 Q) := by kernel_rfl
theorem world_run1 (Q : V → List AObj → Option AObj → Prop) (E : Prop) : cal ovW 6 389 [.dat .src, .dat (.int (.ofNat 1))] none Q E = worldR 1 (q0 Q) := by kernel_rfl
end Mine
namespace Mine
open PySem PySem.W PyProof.Rows PySem.Calls PySem.Spec
inductive ImL (many : Nat) : Nat → List D → Prop
  | nil (s : Nat) : ImL many s []
  | cons {s : Nat} {x : D} {l : List D} : Im many s x → ImL many (s + 1) l → ImL many s (x :: l)
noncomputable def worldSpec : Sp := fun args ext Q _ => s2 args ext fun a m => srcK a (natK m fun many => ifT (Nat.blt many 2) (∀ df l, 1 ≤ l.length → l.length ≤ 4 → ImL many 0 l → Q (.dat (wF many df l)) [] none))
theorem imN_ok {many : Nat} : ∀ {n s : Nat} {k : List D → Prop}, (∀ l, l.length = n → ImL many s l → k l) → imN many s n k
  | 0, s, _, h => h [] rfl (.nil s)
  | n + 1, s, _, h => fun x hx => imN_ok fun l hl hi => h (x :: l) (by simp [hl]) (.cons hx hi)
theorem worldR_ok {many : Nat} {Q : D → Prop} (h : ∀ df l, 1 ≤ l.length → l.length ≤ 4 → ImL many 0 l → Q (wF many df l)) : worldR many Q :=
  conjN_iff.mpr fun df _ => conjN_iff.mpr fun c hc => imN_ok fun l hl hi => h df l (by omega) (by omega) hi
theorem two_of11 {n : Nat} (h : n < 2) : n = 0 ∨ n = 1 := by omega
theorem world_run {many : Nat} (hm : many < 2) (Q : V → List AObj → Option AObj → Prop) (E : Prop) : cal ovW 6 389 [.dat .src, .dat (.int (.ofNat many))] none Q E = worldR many (q0 Q) := match many, hm with
  | 0, _ => world_run0 Q E
  | 1, _ => world_run1 Q E
theorem world_go (d : Nat) (hd : 13 ≤ d) {many : Nat} (hm : many < 2) {Q : V → List AObj → Option AObj → Prop} {E : Prop} (h : ∀ df l, 1 ≤ l.length → l.length ≤ 4 → ImL many 0 l → q0 Q (wF many df l)) : CallOk d 389 [.dat .src, .dat (.int (.ofNat many))] none Q E := by
  refine OvOk.run (m := 7) (ovW_ok) 6 hd ?_
  rw [world_run hm]
  exact worldR_ok (Q := q0 Q) h
theorem world_ok (d : Nat) (hd : 13 ≤ d) (args : List V) (ext : Option AObj) (Q : V → List AObj → Option AObj → Prop) (E : Prop) (h : worldSpec args ext Q E) : CallOk d 389 args ext Q E := by
  replace h := s2_iff h
  obtain ⟨_, _, rfl, rfl, h⟩ := h
  replace h := srcK_iff h
  obtain ⟨rfl, h⟩ := h
  replace h := natK_iff h
  obtain ⟨many, rfl, h⟩ := h
  obtain ⟨h1, h⟩ := ifT_iff h
  have hm : many < 2 := Nat.le_of_ble_eq_true h1
  exact world_go d hd hm h
noncomputable def tailP : PSs → PSs
  | .cons _ r => r
  | .nil => .nil
noncomputable def ovL : Ov := addO (addO (addO (addO ovN 353 trueSpec) 358 trueSpec) 396 trueSpec) 401 trueSpec
noncomputable def mkN (ov : Ov) (n : Nat) : Gp := mkP (cal ov n)
end Mine
namespace Mine
open PySem PySem.W PyProof.Rows PySem.Calls PySem.Spec
theorem law_tail (R : AFlow → Prop) (E : Bool → St → Prop) (s : D) : gSs (mkP (cal ovL 8)) (tailP e408.p) { loc := [some (.dat s), some (.dat .src), none, none, none, none, none, none, none, none, none, none, none], objs := [.fz (.raw .none)], ext := none } (fun fl _ => R fl) E =
    R (.ret (.dat (.bool true))) := by kernel_rfl
end Mine
namespace Mine
open PySem PySem.W PyProof.Rows PySem.Calls PySem.Spec
noncomputable def clAll : List D := [tyU, tyB, tyX tyU, tyX tyB, tyA tyU 1, tyA tyU 2, tyA tyU 3, tyA tyB 1, tyA tyB 2, tyA tyB 3, tyR tyU, tyR tyB, tyD K.W [tyU, tyU], tyD K.W [tyU, tyB], tyD K.W [tyB, tyU], tyD K.W [tyB, tyB]]
noncomputable def yn (b : Bool) : List Nat := match b with | true => K.yes | false => K.no
theorem cb_all (Q : V → List AObj → Option AObj → Prop) (E : Prop) : (clAll.map fun a => clAll.map fun b => cal ovN 10 68 [.dat a, .dat b] none Q E) = (clAll.map fun a => clAll.map fun b => q0 Q (.str (yn (dbeq a b)))) := by kernel_rfl
end Mine
namespace Mine
open PySem PySem.W PyProof.Rows PySem.Calls PySem.Spec
theorem cb_run {a b : D} (ha : a ∈ clAll) (hb : b ∈ clAll) (Q : V → List AObj → Option AObj → Prop) (E : Prop) : cal ovN 10 68 [.dat a, .dat b] none Q E = q0 Q (.str (yn (dbeq a b))) :=
  List.map_inj_left.mp (List.map_inj_left.mp (cb_all Q E) a ha) b hb
theorem lfC_mem (i : Nat) : lfC i = tyU ∨ lfC i = tyB := by
  match i with
  | 0 => exact .inl rfl
  | i + 1 => exact .inr rfl
theorem Clo.mem {c : D} (h : Clo c) : c ∈ clAll := by
  cases h with
  | leaf i => rcases lfC_mem i with e | e <;> rw [e] <;> simp [clAll]
  | box i => rcases lfC_mem i with e | e <;> rw [e] <;> simp [clAll]
  | arr i n hn => rcases lfC_mem i with e | e <;> rw [e] <;> (match n, hn with | 0, _ => simp [clAll] | 1, _ => simp [clAll] | 2, _ => simp [clAll])
  | ref i => rcases lfC_mem i with e | e <;> rw [e] <;> simp [clAll]
  | adt i j => rcases lfC_mem i with e | e <;> rcases lfC_mem j with e2 | e2 <;> rw [e, e2] <;> simp [clAll]
end Mine
namespace Mine
open PySem PySem.W PyProof.Rows PySem.Calls PySem.Spec
noncomputable def cbSpec : Sp := fun args ext Q _ => s2 args ext fun a b => Clo a ∧ Clo b ∧ branch (dbeq a b) (Q (.dat (.str K.yes)) [] none) (Q (.dat (.str K.no)) [] none)
theorem cb_ok (d : Nat) (hd : 10 ≤ d) (args : List V) (ext : Option AObj) (Q : V → List AObj → Option AObj → Prop) (E : Prop) (h : cbSpec args ext Q E) : CallOk d 68 args ext Q E := by
  replace h := s2_iff h
  obtain ⟨a, b, rfl, rfl, h⟩ := h
  obtain ⟨h1, h2, h⟩ := h
  refine (OvOk.none 0).run 10 (by omega) ?_
  rw [cb_run h1.mem h2.mem]
  unfold q0 yn
  cases q : dbeq a b with
  | true => rw [q] at h; exact h
  | false => rw [q] at h; exact h
end Mine
namespace Mine
open PySem PySem.W PyProof.Rows PySem.Calls PySem.Spec
noncomputable def ovCB : Ov := addO ovN 68 cbSpec
theorem ovCB_ok : OvOk 10 ovCB := (OvOk.none 10).add (Nat.le_refl _) fun d hd args ext Q E h => cb_ok d hd args ext Q E h
inductive Hd : D → Prop
  | bool : Hd tyB
  | int (a : D) : Hd (.tup [.str K.int, a])
  | box (a : D) : Hd (.tup [.str K.box, a])
  | arr (a b : D) : Hd (.tup [.str K.array, a, b])
  | ref (a b c : D) : Hd (.tup [.str K.ref, a, b, c])
  | adt (a b c : D) : Hd (.tup [.str K.adt, a, b, c])
noncomputable def mtSp : Sp := fun args ext Q E => match args with
  | [.dat p, .dat s, ns, x] => (match dbeq p tyB with
    | true => Hd s ∧ (match ext with
      | some o => ifT (extOk (some o)) (branch (dbeq s tyB) (Q (.dat (.str K.yes)) [] (some o)) (Q (.dat (.str K.no)) [] (some o)))
      | none => False)
    | false => cal ovCB 12 75 [.dat p, .dat s, ns, x] ext Q E)
  | _ => False
theorem dbeq_tyB {p : D} (h : dbeq p tyB = true) : p = tyB := by
  cases p with
  | tup l =>
    match l, h with
    | [x], h =>
      have h2 : band2 (dbeq x (.str K.bool)) true = true := h
      rw [band2_eq, Bool.and_true] at h2
      cases x with
      | str s => rw [lbeq_iff.mp (show lbeq s K.bool = true from h2)]; rfl
      | _ => exact absurd h2 (by intro h; cases h)
    | _ :: _ :: _, h =>
      exfalso
      have h2 : band2 _ false = true := h
      rw [band2_eq] at h2
      simp at h2
    | [], h => cases h
  | _ => cases h
section
variable (Q : V → List AObj → Option AObj → Prop) (E : Prop) (ns x : V) (o : AObj) (a b c : D)
noncomputable def mtR (b : Bool) : Prop := ifT (extOk (some o)) (Q (.dat (.str (yn b))) [] (some o))
theorem mt_b : cal ovCB 12 75 [.dat tyB, .dat tyB, ns, x] (some o) Q E = mtR Q o true := by kernel_rfl
theorem mt_1 : cal ovCB 12 75 [.dat tyB, .dat (.tup [.str K.int, a]), ns, x] (some o) Q E = mtR Q o false := by kernel_rfl
theorem mt_2 : cal ovCB 12 75 [.dat tyB, .dat (.tup [.str K.box, a]), ns, x] (some o) Q E = mtR Q o false := by kernel_rfl
theorem mt_3 : cal ovCB 12 75 [.dat tyB, .dat (.tup [.str K.array, a, b]), ns, x] (some o) Q E = mtR Q o false := by kernel_rfl
theorem mt_4 : cal ovCB 12 75 [.dat tyB, .dat (.tup [.str K.ref, a, b, c]), ns, x] (some o) Q E = mtR Q o false := by kernel_rfl
theorem mt_5 : cal ovCB 12 75 [.dat tyB, .dat (.tup [.str K.adt, a, b, c]), ns, x] (some o) Q E = mtR Q o false := by kernel_rfl
end
theorem hd_ne {h : List Nat} {r : List D} (e : lbeq h K.bool = false) : dbeq (.tup (.str h :: r)) tyB = false := by
  show band2 (lbeq h K.bool) _ = false
  rw [e]; rfl
theorem mtSp_ok (d : Nat) (hd : 22 ≤ d) (args : List V) (ext : Option AObj) (Q : V → List AObj → Option AObj → Prop) (E : Prop) (h : mtSp args ext Q E) : CallOk d 75 args ext Q E := by
  unfold mtSp at h
  split at h
  · rename_i p s ns x
    split at h
    · rename_i q
      obtain rfl := dbeq_tyB q
      obtain ⟨h1, h⟩ := h
      split at h
      · rename_i o
        refine (ovCB_ok).run 12 (by omega) ?_
        obtain ⟨h2, h⟩ := ifT_iff h
        have go : ∀ b, dbeq s tyB = b → mtR Q o b := fun b e => by
          unfold mtR; rw [h2]
          rw [e] at h
          cases b <;> exact h
        cases h1 with
        | bool => rw [mt_b]; exact go true rfl
        | int a => rw [mt_1]; exact go false (hd_ne rfl)
        | box a => rw [mt_2]; exact go false (hd_ne rfl)
        | arr a b => rw [mt_3]; exact go false (hd_ne rfl)
        | ref a b c => rw [mt_4]; exact go false (hd_ne rfl)
        | adt a b c => rw [mt_5]; exact go false (hd_ne rfl)
      · exact h.elim
    · exact (ovCB_ok).run 12 (by omega) h
  · exact h.elim
noncomputable def ovM : Ov := addO ovCB 75 mtSp
theorem ovM_ok : OvOk 22 ovM := (ovCB_ok).add (by omega) fun d hd args ext Q E h => mtSp_ok d hd args ext Q E h
noncomputable def ownF : Nat → D → D → D
  | 0, _, _ => tyU
  | 1, _, _ => tyB
  | 2, c, _ => tyX c
  | 3, c, c2 => tyD K.W [c, c2]
  | 4, _, _ => tyD K.S []
  | _, _, _ => tyI K.i8
inductive T3 where
  | leaf (ok : Bool) (f : List (D × D))
  | hd (t : D) (x y : T3)
  | cb (a b : D) (x y : T3)
noncomputable def T3.R (Q : D → Prop) : T3 → Prop
  | .leaf b f => Q (.tup [.str (yn b), .dct f])
  | .hd t x y => Hd t ∧ branch (dbeq t tyB) (x.R Q) (y.R Q)
  | .cb a b x y => Clo a ∧ Clo b ∧ branch (dbeq a b) (x.R Q) (y.R Q)
noncomputable def sT : D := .str K.T
noncomputable def sU : D := .str K.U
noncomputable def sZ : D := .str K.Z
noncomputable def mm0 (k o : Nat) (c c2 : D) : T3 := match k, o with
  | 0, 0 => .leaf true []
  | 1, o => .hd (ownF o c c2) (.leaf true []) (.leaf false [])
  | 2, 2 => .leaf true [(sT, c)]
  | 3, 3 => .leaf true [(sU, c2), (sT, c)]
  | _, _ => .leaf false []
noncomputable def mm1 (k o : Nat) (t c c2 : D) : T3 := match k, o with
  | 0, _ => .hd t (mm0 0 o c c2) (.leaf false [])
  | 1, o => .hd (ownF o c c2) (.leaf true [(sZ, t)]) (.leaf false [(sZ, t)])
  | 2, 2 => .cb t c (.leaf true [(sT, t)]) (.leaf false [(sT, t)])
  | 2, _ => .leaf false [(sT, t)]
  | _, 3 => .cb t c2 (.leaf true [(sU, t), (sT, c)]) (.leaf false [(sU, t)])
  | _, _ => .leaf false [(sU, t)]
noncomputable def mm125 (many g k o : Nat) (t c c2 : D) : T3 := match many, g with
  | 0, _ => mm0 k o c c2
  | _, 0 => .hd t (mm0 k o c c2) (.leaf false [])
  | _, _ => mm1 k o t c c2
noncomputable def argF : Nat → D → List D
  | 0, _ => []
  | _, t => [t]
section
variable (Q : V → List AObj → Option AObj → Prop) (E : Prop) (n a : Nat) (ms : List (D × D)) (t c c2 : D)
noncomputable def run125 (many g k o : Nat) : Prop := cal ovM 3 125 [.dat (imD n (imNames k a) K.A (imArgs many k g) (imHead k) ms), .dat (.tup (argF many t)), .dat (ownF o c c2)] none Q E
noncomputable def alls {α : Type} (f : Nat → Nat → Nat → Nat → α) : List (List (List (List α))) := [0, 1].map fun many => [0, 1].map fun g => [0, 1, 2, 3].map fun k => [0, 1, 2, 3, 4, 5].map fun o => f many g k o
theorem run125_all : alls (run125 Q E n a ms t c c2) = alls fun many g k o => (mm125 many g k o t c c2).R (q0 Q) := by kernel_rfl
end
theorem alls_at {α : Type} {f h : Nat → Nat → Nat → Nat → α} (e : alls f = alls h) {many g k o : Nat} (h1 : many < 2) (h2 : g < 2) (h3 : k < 4) (h4 : o < 6) : f many g k o = h many g k o := by
  have m1 : many ∈ [0, 1] := by simp; omega
  have m2 : g ∈ [0, 1] := by simp; omega
  have m3 : k ∈ [0, 1, 2, 3] := by simp; omega
  have m4 : o ∈ [0, 1, 2, 3, 4, 5] := by simp; omega
  exact List.map_inj_left.mp (List.map_inj_left.mp (List.map_inj_left.mp (List.map_inj_left.mp e many m1) g m2) k m3) o m4
theorem mt125_ok (d : Nat) (hd : 25 ≤ d) {many g k o n a : Nat} (h1 : many < 2) (h2 : g < 2) (h3 : k < 4) (h4 : o < 6) {ms : List (D × D)} {t c c2 : D} {Q : V → List AObj → Option AObj → Prop} {E : Prop} (h : (mm125 many g k o t c c2).R (q0 Q)) :
    CallOk d 125 [.dat (imD n (imNames k a) K.A (imArgs many k g) (imHead k) ms), .dat (.tup (argF many t)), .dat (ownF o c c2)] none Q E := by
  refine (ovM_ok).run 3 hd ?_
  have e : run125 Q E n a ms t c c2 many g k o = _ := alls_at (run125_all Q E n a ms t c c2) h1 h2 h3 h4
  unfold run125 at e
  rw [e]; exact h
end Mine
namespace Mine
open PySem PySem.W PyProof.Rows PySem.Calls PySem.Spec
theorem eqD_ok {x y : D} {k : Bool → Prop} (hx : Ok 20 x) (hy : Ok 20 y) (h : k (dbeq x y)) : eqD x y k := by
  unfold eqD
  split
  · exact h
  · exact h
  · rw [hx 20 (Nat.le_refl _), hy 20 (Nat.le_refl _)]; exact h
inductive T4 where
  | no
  | so (t : List (D × D))
  | ne (x y : D) (p q : T4)
noncomputable def T4.R (Q : D → Prop) : T4 → Prop
  | .no => Q .none
  | .so t => Q (.dct t)
  | .ne x y p q => eqD x y fun r => branch (negB r) (p.R Q) (q.R Q)
noncomputable def fits (k o : Nat) : Bool := match k, o with
  | 0, 0 => true
  | 1, 1 => true
  | 2, 2 => true
  | 3, 3 => true
  | _, _ => false
noncomputable def tb0 (k : Nat) (c c2 : D) : List (D × D) := match k with
  | 2 => [(sT, c)]
  | 3 => [(sT, c), (sU, c2)]
  | _ => []
noncomputable def tEnd (a k : Nat) (c : D) (t : List (D × D)) : T4 := match k, a with
  | 2, 1 => .ne c tyB .no (.so t)
  | _, _ => .so t
noncomputable def t372 (a many g k o : Nat) (t c c2 : D) : T4 := match fits k o with
  | false => .no
  | true => (match many, g with
    | 0, _ => tEnd a k c (tb0 k c c2)
    | _, 0 => .ne tyB t .no (tEnd a k c (tb0 k c c2))
    | _, _ => (match k with
      | 0 => .ne tyB t .no (tEnd a k c (tb0 k c c2))
      | 1 => tEnd a k c [(sZ, t)]
      | 2 => .ne c t .no (tEnd a k c (tb0 k c c2))
      | _ => .ne c2 t .no (tEnd a k c (tb0 k c c2))))
section
variable (Q : V → List AObj → Option AObj → Prop) (E : Prop) (n : Nat) (ms : List (D × D)) (t c c2 : D)
noncomputable def run372 (a many g k o : Nat) : Prop := cal ovN 10 372 [.dat (imD n (imNames k a) K.A (imArgs many k g) (imHead k) ms), .dat (ownF o c c2), .dat (.tup (argF many t))] none Q E
theorem run372_0 : alls (run372 Q E n ms t c c2 0) = alls fun many g k o => (t372 0 many g k o t c c2).R (q0 Q) := by kernel_rfl
theorem run372_1 : alls (run372 Q E n ms t c c2 1) = alls fun many g k o => (t372 1 many g k o t c c2).R (q0 Q) := by kernel_rfl
end
theorem tb372_ok (d : Nat) (hd : 10 ≤ d) {a many g k o n : Nat} (h0 : a < 2) (h1 : many < 2) (h2 : g < 2) (h3 : k < 4) (h4 : o < 6) {ms : List (D × D)} {t c c2 : D} {Q : V → List AObj → Option AObj → Prop} {E : Prop} (h : (t372 a many g k o t c c2).R (q0 Q)) :
    CallOk d 372 [.dat (imD n (imNames k a) K.A (imArgs many k g) (imHead k) ms), .dat (ownF o c c2), .dat (.tup (argF many t))] none Q E := by
  refine (OvOk.none 0).run 10 (by omega) ?_
  have e : run372 Q E n ms t c c2 a many g k o = (t372 a many g k o t c c2).R (q0 Q) := by
    rcases two_of11 h0 with rfl | rfl
    · exact alls_at (run372_0 Q E n ms t c c2) h1 h2 h3 h4
    · exact alls_at (run372_1 Q E n ms t c c2) h1 h2 h3 h4
  unfold run372 at e
  rw [e]; exact h
noncomputable def needF (k a : Nat) (f : List (D × D)) : List D := match k, a, f with
  | 2, 1, (_, x) :: _ => [.tup [.str K.B, x]]
  | _, _, _ => []
section
variable (Q : V → List AObj → Option AObj → Prop) (E : Prop) (n many g : Nat) (ms : List (D × D)) (x y : D) (self : V) (o : AObj)
noncomputable def run158 (k a : Nat) (f : List (D × D)) : Prop := cal ovN 10 158 [self, .dat (imD n (imNames k a) K.A (imArgs many k g) (imHead k) ms), .dat (.dct f)] (some o) Q E
noncomputable def fl158 (f : Nat → Nat → List (D × D) → Prop) : List Prop := [f 0 0 [], f 0 1 [], f 1 0 [], f 1 1 [], f 1 0 [(sZ, x)], f 1 1 [(sZ, x)], f 2 0 [(sT, x)], f 2 1 [(sT, x)], f 3 0 [(sU, x), (sT, y)], f 3 1 [(sU, x), (sT, y)]]
theorem run158_all : fl158 x y (run158 Q E n many g ms self o) = fl158 x y fun k a f => ifT (extOk (some o)) (Q (.dat (.lst (needF k a f))) [] (some o)) := by kernel_rfl
end
structure Pm where
  ps : List D
  as : List D
  hd : D
  ms : List (D × D)
noncomputable def Pm.im (p : Pm) (n : Nat) : D := imD n p.ps K.A p.as p.hd p.ms
noncomputable def imL : Nat → List Pm → List D
  | _, [] => []
  | n, p :: r => p.im n :: imL (n + 1) r
noncomputable def wP (many : Nat) (dfs : List (D × D)) (l : List Pm) : D := wD [(.str K.A, trD K.A (psD many) dfs)] (imL 0 l ++ [lastI l.length])
noncomputable def selfV (w : D) : V := .ins 180 [(.str K.world, .dat w), (.str K.bounds, .dat (.dct [])), (.str K.known, .ext)]
noncomputable def keyB (c : D) : D := .tup [.str K.B, .tup [], c]
noncomputable def kvB (c : D) (b : Bool) : List (D × V) := [(keyB c, .dat (.str (yn b)))]
section
variable (Q : V → List AObj → Option AObj → Prop) (E : Prop) (ps : List D) (dfs : List (D × D)) (p0 p1 p2 p3 : Pm)
noncomputable def psD' : List D := ps
noncomputable def run172 (l : List Pm) (c : D) (kv : List (D × V)) : Prop := cal ovN 7 172 [selfV (wD [(.str K.A, trD K.A ps dfs)] (imL 0 l ++ [lastI l.length])), .dat (.str K.B), .dat (.tup []), .dat c, .dat (.int 1)] (some (.dict kv)) Q E
noncomputable def ansR (c : D) : Prop := Q (.dat (.str (yn (dbeq c tyB)))) [] (some (.dict (kvB c (dbeq c tyB))))
noncomputable def known172 (l : List Pm) : List Prop := (clAll.map fun c => run172 Q E ps dfs l c []) ++ (clAll.map fun c => run172 Q E ps dfs l c (kvB c (dbeq c tyB)))
noncomputable def know172 : List Prop := (clAll.map (ansR Q)) ++ (clAll.map (ansR Q))
theorem run172_1 : known172 Q E ps dfs [p0] = know172 Q := by kernel_rfl
theorem run172_2 : known172 Q E ps dfs [p0, p1] = know172 Q := by kernel_rfl
theorem run172_3 : known172 Q E ps dfs [p0, p1, p2] = know172 Q := by kernel_rfl
theorem run172_4 : known172 Q E ps dfs [p0, p1, p2, p3] = know172 Q := by kernel_rfl
end
theorem len14 {α : Type} {l : List α} (h1 : 1 ≤ l.length) (h2 : l.length ≤ 4) : (∃ a, l = [a]) ∨ (∃ a b, l = [a, b]) ∨ (∃ a b c, l = [a, b, c]) ∨ (∃ a b c d, l = [a, b, c, d]) := by
  match l, h1, h2 with
  | [a], _, _ => exact .inl ⟨a, rfl⟩
  | [a, b], _, _ => exact .inr (.inl ⟨a, b, rfl⟩)
  | [a, b, c], _, _ => exact .inr (.inr (.inl ⟨a, b, c, rfl⟩))
  | [a, b, c, d], _, _ => exact .inr (.inr (.inr ⟨a, b, c, d, rfl⟩))
  | _ :: _ :: _ :: _ :: _ :: _, _, h => simp at h
theorem run172_at (Q : V → List AObj → Option AObj → Prop) (E : Prop) (ps : List D) (dfs : List (D × D)) {l : List Pm} (h1 : 1 ≤ l.length) (h2 : l.length ≤ 4) {c : D} (hc : c ∈ clAll) {kv : List (D × V)} (hk : kv = [] ∨ kv = kvB c (dbeq c tyB)) :
    run172 Q E ps dfs l c kv = ansR Q c := by
  have e : known172 Q E ps dfs l = know172 Q := by
    rcases len14 h1 h2 with ⟨a, rfl⟩ | ⟨a, b, rfl⟩ | ⟨a, b, c, rfl⟩ | ⟨a, b, c, d, rfl⟩
    · exact run172_1 ..
    · exact run172_2 ..
    · exact run172_3 ..
    · exact run172_4 ..
  unfold known172 know172 at e
  obtain ⟨e1, e2⟩ := List.append_inj e (by simp)
  rcases hk with rfl | rfl
  · exact List.map_inj_left.mp e1 c hc
  · exact List.map_inj_left.mp e2 c hc
theorem ask_ok (d : Nat) (hd : 7 ≤ d) {many : Nat} {dfs : List (D × D)} {l : List Pm} (h1 : 1 ≤ l.length) (h2 : l.length ≤ 4) {c : D} (hc : Clo c) {kv : List (D × V)} (hk : kv = [] ∨ kv = kvB c (dbeq c tyB))
    {Q : V → List AObj → Option AObj → Prop} {E : Prop} (h : ansR Q c) : CallOk d 172 [selfV (wP many dfs l), .dat (.str K.B), .dat (.tup []), .dat c, .dat (.int 1)] (some (.dict kv)) Q E := by
  refine (OvOk.none 0).run 7 (by omega) ?_
  have e := run172_at Q E (psD many) dfs h1 h2 hc.mem hk
  unfold run172 at e
  unfold wP
  rw [e]; exact h
end Mine
namespace Mine
open PySem PySem.W PyProof.Rows PySem.Calls PySem.Spec
noncomputable abbrev Fnd := List (D × D)
noncomputable def optB {α : Type} (o : Option α) (k : α → Prop) (n : Prop) : Prop := match o with | some a => k a | none => n
section
variable (Vd : D → Prop) (M : D → Option Fnd) (Nd : D → Bool) (w own c : D) (args : List D) (b : Bool)
noncomputable def mSp : Sp := fun as ext Q _ => s3 as ext fun im x T => (Vd im ∧ x = .tup args ∧ T = own) ∧ optB (M im) (fun f => Q (.dat (.tup [.str K.yes, .dct f])) [] none) (∀ f : Fnd, Q (.dat (.tup [.str K.no, .dct f])) [] none)
noncomputable def nSp : Sp := fun as ext Q _ => hdV as fun _ r => hdV r fun i r => hdV r fun f r => nilV r (datV i fun im => datV f fun f => optK ext fun o => (Vd im ∧ ∃ g, M im = some g ∧ f = .dct g) ∧ ifT (extOk (some o)) (branch (Nd im) (Q (.dat (.lst [.tup [.str K.B, c]])) [] (some o)) (Q (.dat (.lst [])) [] (some o))))
noncomputable def aSp : Sp := fun as ext Q _ => hdV as fun self r => hdV r fun tr r => hdV r fun x r => hdV r fun T r => hdV r fun dp r => nilV r (datV tr fun tr => datV x fun x => datV T fun T => datV dp fun dp => dicX ext fun kv => (self = selfV w ∧ tr = .str K.B ∧ x = .tup [] ∧ T = c ∧ dp = .int 1 ∧ (kv = [] ∨ kv = kvB c b)) ∧ branch b (Q (.dat (.str K.yes)) [] (some (.dict (kvB c true)))) (Q (.dat (.str K.no)) [] (some (.dict (kvB c false)))))
noncomputable def ovS : Ov := addO (addO (addO ovN 125 (mSp Vd M own args)) 158 (nSp Vd M Nd c)) 172 (aSp w c b)
noncomputable def selR (G : List (Nat × Fnd) → Prop) : Nat → List Pm → List (Nat × Fnd) → List (D × V) → Prop
  | _, [], acc, _ => G acc
  | n, p :: l, acc, kv => (Vd (p.im n) ∧ .tup args = D.tup args ∧ own = own) ∧ optB (M (p.im n)) (fun f =>
      (Vd (p.im n) ∧ ∃ g, M (p.im n) = some g ∧ D.dct f = .dct g) ∧ branch (Nd (p.im n))
        ((selfV w = selfV w ∧ D.str K.B = .str K.B ∧ D.tup [] = .tup [] ∧ c = c ∧ D.int 1 = .int 1 ∧ (kv = [] ∨ kv = kvB c b)) ∧ branch b (selR G (n + 1) l (acc ++ [(n, f)]) (kvB c true)) (selR G (n + 1) l acc (kvB c false)))
        (selR G (n + 1) l (acc ++ [(n, f)]) kv)) (∀ _ : Fnd, selR G (n + 1) l acc kv)
noncomputable def keepF (n b : Bool) (f : Fnd) : Option Fnd := match n, b with
  | true, false => none
  | _, _ => some f
theorem keepF_t {b : Bool} {f : Fnd} (h : b = true) : keepF true b f = some f := by rw [h]; rfl
theorem keepF_f {b : Bool} {f : Fnd} (h : b = false) : keepF true b f = none := by rw [h]; rfl
noncomputable def fitM (x : D) : Option Fnd := match M x with
  | none => none
  | some f => keepF (Nd x) b f
noncomputable def fitL : Nat → List Pm → List (Nat × Fnd)
  | _, [] => []
  | n, p :: l => match fitM M Nd b (p.im n) with
    | some f => (n, f) :: fitL (n + 1) l
    | none => fitL (n + 1) l
noncomputable def VdL : Nat → List Pm → Prop
  | _, [] => True
  | n, p :: l => Vd (p.im n) ∧ VdL (n + 1) l
theorem selR_ok {G : List (Nat × Fnd) → Prop} : ∀ (l : List Pm) (n : Nat) (acc : List (Nat × Fnd)) (kv : List (D × V)), VdL Vd n l → (kv = [] ∨ kv = kvB c b) → G (acc ++ fitL M Nd b n l) → selR Vd M Nd w own c args b G n l acc kv
  | [], n, acc, kv, _, _, h => by
    have e : acc ++ fitL M Nd b n [] = acc := List.append_nil acc
    rw [e] at h; exact h
  | p :: l, n, acc, kv, hv, hk, h => by
    refine ⟨⟨hv.1, rfl, rfl⟩, ?_⟩
    unfold fitL fitM at h
    cases hM : M (p.im n) with
    | none =>
      rw [hM] at h
      exact fun _ => selR_ok l (n + 1) acc kv hv.2 hk h
    | some f =>
      rw [hM] at h
      refine ⟨⟨hv.1, f, rfl, rfl⟩, ?_⟩
      have go : ∀ kv, (kv = [] ∨ kv = kvB c b) → G (acc ++ ((n, f) :: fitL M Nd b (n + 1) l)) → selR Vd M Nd w own c args b G (n + 1) l (acc ++ [(n, f)]) kv := fun kv hk h =>
        selR_ok l (n + 1) (acc ++ [(n, f)]) kv hv.2 hk (by rw [List.append_assoc]; exact h)
      cases hN : Nd (p.im n) with
      | false =>
        rw [hN] at h
        exact go kv hk h
      | true =>
        refine ⟨⟨rfl, rfl, rfl, rfl, rfl, hk⟩, branch_intro (fun hb => ?_) fun hb => ?_⟩
        · rw [hN] at h
          dsimp only at h
          rw [keepF_t hb] at h
          exact go _ (.inr (by rw [hb])) h
        · rw [hN] at h
          dsimp only at h
          rw [keepF_f hb] at h
          exact selR_ok l (n + 1) acc _ hv.2 (.inr (by rw [hb])) h
end
noncomputable def selE (Q : D → Prop) (E : Prop) : List (Nat × Fnd) → Prop
  | [] => Q .none
  | [(n, f)] => Q (.tup [.str K.impl, .int (.ofNat n), .dct f])
  | _ => E
noncomputable def ownS : Nat → D → D → D → D
  | 0, x, _, _ => .tup [.str K.int, x]
  | 1, _, _, _ => tyB
  | 2, x, _, _ => tyX x
  | _, x, y, z => .tup [.str K.adt, x, y, z]
theorem own_S (o : Nat) (c c2 : D) : ∃ i x y z, i < 4 ∧ ownF o c c2 = ownS i x y z := by
  match o with
  | 0 => exact ⟨0, .str K.u8, c, c, by omega, rfl⟩
  | 1 => exact ⟨1, c, c, c, by omega, rfl⟩
  | 2 => exact ⟨2, c, c, c, by omega, rfl⟩
  | 3 => exact ⟨3, .str K.W, .tup [], .tup [c, c2], by omega, rfl⟩
  | 4 => exact ⟨3, .str K.S, .tup [], .tup [], by omega, rfl⟩
  | o + 5 => exact ⟨0, .str K.i8, c, c, by omega, rfl⟩
section
variable (Q : V → List AObj → Option AObj → Prop) (E : Prop) (Vd : D → Prop) (M : D → Option Fnd) (Nd : D → Bool) (x y z e : D) (as : List D) (b : Bool) (ps : List D) (dfs : List (D × D)) (p0 p1 p2 p3 : Pm)
noncomputable def run191 (l : List Pm) (own : D) : Prop := cal (ovS Vd M Nd (wD [(.str K.A, trD K.A ps dfs)] (imL 0 l ++ [lastI l.length])) own e as b) 10 191 [.dat (wD [(.str K.A, trD K.A ps dfs)] (imL 0 l ++ [lastI l.length])), .dat (.str K.A), .dat (.tup as), .dat own, .dat (.dct [])] none Q E
noncomputable def due191 (l : List Pm) (own : D) : Prop := selR Vd M Nd (wD [(.str K.A, trD K.A ps dfs)] (imL 0 l ++ [lastI l.length])) own e as b (selE (q0 Q) E) 0 l [] []
noncomputable def alls2 {α : Type} (f : D → α) : List α := [0, 1, 2, 3].map fun i => f (ownS i x y z)
theorem alls2_at {α : Type} {x y z : D} {f h : D → α} (e : alls2 x y z f = alls2 x y z h) {i : Nat} (h1 : i < 4) : f (ownS i x y z) = h (ownS i x y z) := by
  have m1 : i ∈ [0, 1, 2, 3] := by simp; omega
  exact List.map_inj_left.mp e i m1
theorem run191_1 : alls2 x y z (run191 Q E Vd M Nd e as b ps dfs [p0]) = alls2 x y z (due191 Q E Vd M Nd e as b ps dfs [p0]) := by kernel_rfl
theorem run191_2 : alls2 x y z (run191 Q E Vd M Nd e as b ps dfs [p0, p1]) = alls2 x y z (due191 Q E Vd M Nd e as b ps dfs [p0, p1]) := by kernel_rfl
theorem run191_3 : alls2 x y z (run191 Q E Vd M Nd e as b ps dfs [p0, p1, p2]) = alls2 x y z (due191 Q E Vd M Nd e as b ps dfs [p0, p1, p2]) := by kernel_rfl
theorem run191_4 : alls2 x y z (run191 Q E Vd M Nd e as b ps dfs [p0, p1, p2, p3]) = alls2 x y z (due191 Q E Vd M Nd e as b ps dfs [p0, p1, p2, p3]) := by kernel_rfl
end
theorem run191_at (Q : V → List AObj → Option AObj → Prop) (E : Prop) (Vd : D → Prop) (M : D → Option Fnd) (Nd : D → Bool) (c c2 e : D) (as : List D) (b : Bool) (ps : List D) (dfs : List (D × D)) {l : List Pm} (h1 : 1 ≤ l.length) (h2 : l.length ≤ 4) (o : Nat) :
    run191 Q E Vd M Nd e as b ps dfs l (ownF o c c2) = due191 Q E Vd M Nd e as b ps dfs l (ownF o c c2) := by
  obtain ⟨i, x, y, z, hi, q⟩ := own_S o c c2
  rw [q]
  rcases len14 h1 h2 with ⟨a, rfl⟩ | ⟨a, b, rfl⟩ | ⟨a, b, c, rfl⟩ | ⟨a, b, c, d, rfl⟩
  · exact alls2_at (run191_1 ..) hi
  · exact alls2_at (run191_2 ..) hi
  · exact alls2_at (run191_3 ..) hi
  · exact alls2_at (run191_4 ..) hi
structure ImOk (own e : D) (args : List D) (x : D) (m : Option Fnd) (nd : Bool) : Prop where
  mt : ∀ d, 25 ≤ d → ∀ Q E, optB m (fun f => Q (.dat (.tup [.str K.yes, .dct f])) [] none) (∀ f : Fnd, Q (.dat (.tup [.str K.no, .dct f])) [] none) → CallOk d 125 [.dat x, .dat (.tup args), .dat own] none Q E
  nd : ∀ d, 10 ≤ d → ∀ self o f, m = some f → ∀ Q E, ifT (extOk (some o)) (branch nd (Q (.dat (.lst [.tup [.str K.B, e]])) [] (some o)) (Q (.dat (.lst [])) [] (some o))) → CallOk d 158 [self, .dat x, .dat (.dct f)] (some o) Q E
theorem ovS_ok {Vd : D → Prop} {M : D → Option Fnd} {Nd : D → Bool} {own e : D} {args : List D} {many : Nat} {dfs : List (D × D)} {l : List Pm} (h1 : 1 ≤ l.length) (h2 : l.length ≤ 4) (he : Clo e) (hV : ∀ x, Vd x → ImOk own e args x (M x) (Nd x)) :
    OvOk 25 (ovS Vd M Nd (wP many dfs l) own e args (dbeq e tyB)) := by
  have o1 : OvOk 25 (addO ovN 125 (mSp Vd M own args)) := (OvOk.none 25).add (Nat.le_refl _) fun d hd as ext Q E h => by
    replace h := s3_iff h
    obtain ⟨im, x, T, rfl, rfl, h⟩ := h
    obtain ⟨⟨hv, rfl, rfl⟩, h⟩ := h
    exact (hV _ hv).mt d hd Q E h
  have o2 : OvOk 25 (addO (addO ovN 125 (mSp Vd M own args)) 158 (nSp Vd M Nd e)) := o1.add (Nat.le_refl _) fun d hd as ext Q E h => by
    replace h := hdV_iff h
    obtain ⟨_, _, rfl, h⟩ := h
    replace h := hdV_iff h
    obtain ⟨_, _, rfl, h⟩ := h
    replace h := hdV_iff h
    obtain ⟨_, _, rfl, h⟩ := h
    replace h := nilV_iff h
    obtain ⟨rfl, h⟩ := h
    replace h := datV_iff h
    obtain ⟨im, rfl, h⟩ := h
    replace h := datV_iff h
    obtain ⟨f, rfl, h⟩ := h
    replace h := optK_iff h
    obtain ⟨o, rfl, h⟩ := h
    obtain ⟨⟨hv, g, hg, rfl⟩, h⟩ := h
    exact (hV _ hv).nd d (by omega) _ _ g hg Q E h
  refine o2.add (Nat.le_refl _) fun d hd as ext Q E h => ?_
  replace h := hdV_iff h
  obtain ⟨self, _, rfl, h⟩ := h
  replace h := hdV_iff h
  obtain ⟨_, _, rfl, h⟩ := h
  replace h := hdV_iff h
  obtain ⟨_, _, rfl, h⟩ := h
  replace h := hdV_iff h
  obtain ⟨_, _, rfl, h⟩ := h
  replace h := hdV_iff h
  obtain ⟨_, _, rfl, h⟩ := h
  replace h := nilV_iff h
  obtain ⟨rfl, h⟩ := h
  replace h := datV_iff h
  obtain ⟨tr, rfl, h⟩ := h
  replace h := datV_iff h
  obtain ⟨x, rfl, h⟩ := h
  replace h := datV_iff h
  obtain ⟨T, rfl, h⟩ := h
  replace h := datV_iff h
  obtain ⟨dp, rfl, h⟩ := h
  replace h := dicX_iff h
  obtain ⟨kv, rfl, h⟩ := h
  obtain ⟨⟨q1, q2, q3, q4, q5, hk⟩, h⟩ := h
  rw [q1, q2, q3, q4, q5]
  refine ask_ok d (by omega) h1 h2 he hk ?_
  unfold ansR
  cases q : dbeq e tyB with
  | true => rw [q] at h; exact h
  | false => rw [q] at h; exact h
theorem sel_ok (d : Nat) (hd : 35 ≤ d) {Vd : D → Prop} {M : D → Option Fnd} {Nd : D → Bool} {c c2 e : D} {as : List D} {many o : Nat} {dfs : List (D × D)} {l : List Pm} (h1 : 1 ≤ l.length) (h2 : l.length ≤ 4) (he : Clo e)
    (hV : ∀ x, Vd x → ImOk (ownF o c c2) e as x (M x) (Nd x)) (hl : VdL Vd 0 l) {Q : V → List AObj → Option AObj → Prop} {E : Prop} (h : selE (q0 Q) E (fitL M Nd (dbeq e tyB) 0 l)) :
    CallOk d 191 [.dat (wP many dfs l), .dat (.str K.A), .dat (.tup as), .dat (ownF o c c2), .dat (.dct [])] none Q E := by
  refine (ovS_ok (many := many) (dfs := dfs) h1 h2 he hV).run 10 hd ?_
  have q := run191_at Q E Vd M Nd c c2 e as (dbeq e tyB) (psD many) dfs h1 h2 o
  unfold run191 due191 at q
  unfold wP
  rw [q]
  exact selR_ok Vd M Nd _ _ e _ _ l 0 [] [] hl (.inl rfl) h
end Mine
namespace Mine
open PySem PySem.W PyProof.Rows PySem.Calls PySem.Spec
noncomputable def dropP : Nat → PSs → PSs
  | 0, p => p
  | _ + 1, .nil => .nil
  | n + 1, .cons _ r => dropP n r
noncomputable def takeP : Nat → PSs → PSs
  | 0, _ => .nil
  | _ + 1, .nil => .nil
  | n + 1, .cons s r => .cons s (takeP n r)
theorem gSs_cut (P : Gp) : ∀ (n : Nat) (p : PSs) (st : St) (Q : AFlow → St → Prop) (E : Bool → St → Prop), gSs P p st Q E = gSs P (takeP n p) st (fun fl st1 => match fl with
    | .next => gSs P (dropP n p) st1 Q E
    | .brk => Q .brk st1
    | .cont => Q .cont st1
    | .ret v => Q (.ret v) st1) E
  | 0, _, _, _, _ => by unfold takeP dropP; rw [gSs]
  | _ + 1, .nil, _, _, _ => by unfold takeP dropP; simp only [gSs]
  | n + 1, .cons s r, st, Q, E => by
    unfold takeP dropP
    rw [gSs, gSs]
    congr 1
    funext fl st1
    cases fl with
    | next => exact gSs_cut P n r st1 Q E
    | _ => rfl
section
variable (Vd : D → Prop) (Tb : D → Option Fnd) (own : D) (as : List D)
noncomputable def tSp : Sp := fun a ext Q _ => s3 a ext fun im T x => (Vd im ∧ T = own ∧ x = .tup as) ∧ optB (Tb im) (fun t => Q (.dat (.dct t)) [] none) (Q (.dat .none) [] none)
noncomputable def ovD : Ov := addO ovN 372 (tSp Vd Tb own as)
noncomputable def dueR (G : List (Fnd × Fnd) → Prop) : Nat → List Pm → List (Fnd × Fnd) → Prop
  | _, [], acc => G acc
  | n, p :: l, acc => (Vd (p.im n) ∧ own = own ∧ D.tup as = D.tup as) ∧ optB (Tb (p.im n)) (fun t => dueR G (n + 1) l (acc ++ [(p.ms, t)])) (dueR G (n + 1) l acc)
noncomputable def tbL : Nat → List Pm → List (Fnd × Fnd)
  | _, [] => []
  | n, p :: l => match Tb (p.im n) with
    | some t => (p.ms, t) :: tbL (n + 1) l
    | none => tbL (n + 1) l
theorem dueR_ok {G : List (Fnd × Fnd) → Prop} : ∀ (l : List Pm) (n : Nat) (acc : List (Fnd × Fnd)), VdL Vd n l → G (acc ++ tbL Tb n l) → dueR Vd Tb own as G n l acc
  | [], n, acc, _, h => by
    have e : acc ++ tbL Tb n [] = acc := List.append_nil acc
    rw [e] at h; exact h
  | p :: l, n, acc, hv, h => by
    refine ⟨⟨hv.1, rfl, rfl⟩, ?_⟩
    unfold tbL at h
    cases hM : Tb (p.im n) with
    | none =>
      rw [hM] at h
      exact dueR_ok l (n + 1) acc hv.2 h
    | some t =>
      rw [hM] at h
      exact dueR_ok l (n + 1) _ hv.2 (by rw [List.append_assoc]; exact h)
end
noncomputable def moreF : Nat → D → D → List D
  | 0, _, _ => []
  | 1, x, _ => [x]
  | _, x, y => [x, y]
noncomputable def accV : List (Fnd × Fnd) → List V
  | [] => []
  | (m, t) :: r => .dat (.tup [.dct m, .dct t]) :: accV r
noncomputable def st377 (w : D) (many : Nat) (name own types args : D) (n : Nat) (acc : List (Fnd × Fnd)) : St :=
  { loc := [some (.dat w), some (.dat (.int (.ofNat many))), some (.dat name), some (.dat own), some (.dat types), some (.dat args), some (.obj 0), some (.dat (lastI n)), some (.dat .none), none, none, none, none, none, none], objs := [.list (accV acc)], ext := none }
section
variable (H : AFlow → St → Prop) (E : Prop) (Vd : D → Prop) (Tb : D → Option Fnd) (own name t x y : D) (as ps : List D) (dfs : Fnd) (p0 p1 p2 p3 : Pm)
noncomputable def run377 (l : List Pm) (many more : Nat) : Prop := gSs (mkP (cal (ovD Vd Tb own (argF many t)) 9)) (takeP 2 e377.p) { loc := [some (.dat (wD [(.str K.A, trD K.A ps dfs)] (imL 0 l ++ [lastI l.length]))), some (.dat (.int (.ofNat many))), some (.dat name), some (.dat own), some (.dat (.tup (argF many t ++ moreF more x y))), none, none, none, none, none, none, none, none, none, none], objs := [], ext := none } H (fun _ _ => E)
noncomputable def due377 (l : List Pm) (many more : Nat) : Prop := dueR Vd Tb own (argF many t) (fun acc => H .next (st377 (wD [(.str K.A, trD K.A ps dfs)] (imL 0 l ++ [lastI l.length])) many name own (.tup (argF many t ++ moreF more x y)) (.tup (argF many t)) l.length acc)) 0 l []
noncomputable def alls3 {α : Type} (f : Nat → Nat → α) : List (List α) := [0, 1].map fun many => [0, 1, 2].map fun more => f many more
theorem alls3_at {α : Type} {f h : Nat → Nat → α} (e : alls3 f = alls3 h) {many more : Nat} (h1 : many < 2) (h2 : more < 3) : f many more = h many more := by
  have m1 : many ∈ [0, 1] := by simp; omega
  have m2 : more ∈ [0, 1, 2] := by simp; omega
  exact List.map_inj_left.mp (List.map_inj_left.mp e many m1) more m2
theorem run377_1 : alls3 (run377 H E Vd Tb own name t x y ps dfs [p0]) = alls3 (due377 H Vd Tb own name t x y ps dfs [p0]) := by kernel_rfl
theorem run377_2 : alls3 (run377 H E Vd Tb own name t x y ps dfs [p0, p1]) = alls3 (due377 H Vd Tb own name t x y ps dfs [p0, p1]) := by kernel_rfl
theorem run377_3 : alls3 (run377 H E Vd Tb own name t x y ps dfs [p0, p1, p2]) = alls3 (due377 H Vd Tb own name t x y ps dfs [p0, p1, p2]) := by kernel_rfl
theorem run377_4 : alls3 (run377 H E Vd Tb own name t x y ps dfs [p0, p1, p2, p3]) = alls3 (due377 H Vd Tb own name t x y ps dfs [p0, p1, p2, p3]) := by kernel_rfl
end
theorem run377_at (H : AFlow → St → Prop) (E : Prop) (Vd : D → Prop) (Tb : D → Option Fnd) (own name t x y : D) (ps : List D) (dfs : Fnd) {l : List Pm} (h1 : 1 ≤ l.length) (h2 : l.length ≤ 4) {many more : Nat} (h3 : many < 2) (h4 : more < 3) :
    run377 H E Vd Tb own name t x y ps dfs l many more = due377 H Vd Tb own name t x y ps dfs l many more := by
  rcases len14 h1 h2 with ⟨a, rfl⟩ | ⟨a, b, rfl⟩ | ⟨a, b, c, rfl⟩ | ⟨a, b, c, d, rfl⟩
  · exact alls3_at (run377_1 ..) h3 h4
  · exact alls3_at (run377_2 ..) h3 h4
  · exact alls3_at (run377_3 ..) h3 h4
  · exact alls3_at (run377_4 ..) h3 h4
noncomputable def lkD : Fnd → D → Option D
  | [], _ => none
  | (k', v) :: r, k => match dbeq k' k with | true => some v | false => lkD r k
noncomputable def nmF : Nat → D
  | 0 => .str K.m
  | 1 => .str K.n
  | _ => .str K.o
noncomputable def msF (a b : D) : Nat → Fnd
  | 0 => [(.str K.m, a)]
  | 1 => [(.str K.m, a), (.str K.n, b)]
  | 2 => []
  | _ => [(.str K.n, b)]
noncomputable def fsF : Nat → D → D → Fnd
  | 0, _, _ => []
  | 1, _, _ => []
  | 2, x, _ => [(sZ, x)]
  | 3, x, _ => [(sT, x)]
  | _, x, y => [(sT, x), (sU, y)]
noncomputable def oS : Nat → Nat
  | 0 => 0
  | 1 => 1
  | 2 => 1
  | 3 => 2
  | _ => 3
noncomputable def vlF : Nat → D → D → Option (List D)
  | 0, _, _ => some []
  | 1, _, _ => none
  | 2, x, _ => some [x]
  | 3, x, _ => some [x]
  | _, x, y => some [y, x]
noncomputable def optE {α : Type} (o : Option α) (k : α → Prop) (n : Prop) : Prop := match o with | some a => k a | none => n
noncomputable def resF (vals : Option (List D)) (own : D) (as more : List D) (ms dfs : Fnd) (name : D) : Option D := match vals with
  | none => none
  | some vs => match lkD ms name with
    | some s => some (.tup [.str K.fn, s, .tup (vs ++ more)])
    | none => match lkD dfs name with
      | some s => some (.tup [.str K.fn, s, .tup (own :: (as ++ more))])
      | none => none
noncomputable def alls6 {α : Type} (f : Nat → Nat → Nat → Nat → Nat → Nat → α) : List (List (List (List (List (List α))))) :=
  [0, 1, 2, 3, 4].map fun s => [0, 1].map fun many => [0, 1, 2].map fun more => [0, 1, 2, 3].map fun i => [0, 1, 2].map fun j => [0, 1, 2].map fun df => f s many more i j df
theorem alls6_at {α : Type} {f h : Nat → Nat → Nat → Nat → Nat → Nat → α} (e : alls6 f = alls6 h) {s many more i j df : Nat} (h1 : s < 5) (h2 : many < 2) (h3 : more < 3) (h4 : i < 4) (h5 : j < 3) (h6 : df < 3) : f s many more i j df = h s many more i j df := by
  have m1 : s ∈ [0, 1, 2, 3, 4] := by simp; omega
  have m2 : many ∈ [0, 1] := by simp; omega
  have m3 : more ∈ [0, 1, 2] := by simp; omega
  have m4 : i ∈ [0, 1, 2, 3] := by simp; omega
  have m5 : j ∈ [0, 1, 2] := by simp; omega
  have m6 : df ∈ [0, 1, 2] := by simp; omega
  exact List.map_inj_left.mp (List.map_inj_left.mp (List.map_inj_left.mp (List.map_inj_left.mp (List.map_inj_left.mp (List.map_inj_left.mp e s m1) many m2) more m3) i m4) j m5) df m6
section
variable (Q : V → List AObj → Option AObj → Prop) (E : Prop) (ov : Ov) (own name types args t x y c c2 u v sm sn : D) (ps L : List D) (dfs : Fnd) (mn n : Nat) (q0' q1 q2 q3 : Fnd × Fnd)
noncomputable def tl377 (w : D) (many : Nat) (name own types args : D) (n : Nat) (acc : List (Fnd × Fnd)) : Prop := gSs (mkP (cal ov 9)) (dropP 2 e377.p) (st377 w many name own types args n acc) (finK false Q) (fun _ _ => E)
theorem tl377_0 : tl377 Q E ov (wD [(.str K.A, trD K.A ps dfs)] L) mn name own types args n [] = q0 Q (.str K.fault) := by kernel_rfl
theorem tl377_2 : tl377 Q E ov (wD [(.str K.A, trD K.A ps dfs)] L) mn name own types args n [q0', q1] = q0 Q (.str K.fault) := by kernel_rfl
theorem tl377_3 : tl377 Q E ov (wD [(.str K.A, trD K.A ps dfs)] L) mn name own types args n [q0', q1, q2] = q0 Q (.str K.fault) := by kernel_rfl
theorem tl377_4 : tl377 Q E ov (wD [(.str K.A, trD K.A ps dfs)] L) mn name own types args n [q0', q1, q2, q3] = q0 Q (.str K.fault) := by kernel_rfl
noncomputable def tl1 (s many more i j df : Nat) : Prop := tl377 Q E ov (wD [(.str K.A, trD K.A ps (dfD df))] L) many (nmF j) (ownF (oS s) c c2) (.tup (argF many t ++ moreF more x y)) (.tup (argF many t)) n [(msF sm sn i, fsF s u v)]
theorem tl377_1 : alls6 (tl1 Q E ov t x y c c2 u v sm sn ps L n) = alls6 fun s many more i j df => optE (resF (vlF s u v) (ownF (oS s) c c2) (argF many t) (moreF more x y) (msF sm sn i) (dfD df) (nmF j)) (q0 Q) (q0 Q (.str K.fault)) := by kernel_rfl
end
end Mine
namespace Mine
open PySem PySem.W PyProof.Rows PySem.Calls PySem.Spec
section
variable (w own : D) (as : List D) (Tt : D → Prop)
noncomputable def ttSp : Sp := fun a ext Q _ => s1 a ext fun t => Tt t ∧ ∀ s : List Nat, Nat.ble (len' s) 300 = true → Q (.dat (.str s)) [] none
noncomputable def sSp (r : List (Nat × Fnd)) : Sp := fun a ext Q E => s5 a ext fun v tr x T bs => (v = w ∧ tr = .str K.A ∧ x = .tup as ∧ T = own ∧ bs = .dct []) ∧ selE (q0 Q) E r
noncomputable def ovF (r : List (Nat × Fnd)) : Ov := addO (addO ovN 113 (ttSp Tt)) 191 (sSp w own as r)
noncomputable def okS : Prop := w = w ∧ D.str K.A = .str K.A ∧ D.tup as = .tup as ∧ own = own ∧ D.dct [] = .dct []
end
noncomputable def msg1 : List Nat := K.c110_111_32_105_109_112_108_32_111_102_32 ++ K.A ++ K.c32_102_111_114_32
noncomputable def msg2 : List Nat := K.c116_104_101_32_105_109_112_108_32_111_102_32 ++ K.A ++ K.c32_102_111_114_32
noncomputable def txtR (Tt : D → Prop) (own : D) (k : List Nat → Prop) : Prop := Tt own ∧ ∀ s : List Nat, Nat.ble (len' s) 300 = true → k s
noncomputable def nmS : Nat → List Nat
  | 0 => K.m
  | 1 => K.n
  | _ => K.o
noncomputable def noR (Tt : D → Prop) (own : D) (E : Prop) : Prop := txtR Tt own fun s => small (len' msg1 + len' s) E
noncomputable def naR (Tt : D → Prop) (own : D) (nm : List Nat) (E : Prop) : Prop := txtR Tt own fun s => small (len' msg2 + len' s) (small (len' (msg2 ++ s) + len' K.c32_104_97_115_32_110_111_32) (small (len' (msg2 ++ s ++ K.c32_104_97_115_32_110_111_32) + len' nm) E))
noncomputable def refD (name own : D) (ts : List D) : D := .tup [.str K.method, .str K.A, name, own, .tup ts]
section
variable (Q : V → List AObj → Option AObj → Prop) (E : Prop) (Tt : D → Prop) (own name t x y : D) (L : List D) (dfs : Fnd) (a b : Nat × Fnd) (r : List (Nat × Fnd))
noncomputable def run213 (r : List (Nat × Fnd)) (many more : Nat) : Prop := cal (ovF (wD [(.str K.A, trD K.A (psD many) dfs)] L) own (argF many t) Tt r) 10 213 [.dat (wD [(.str K.A, trD K.A (psD many) dfs)] L), .dat (refD name own (argF many t ++ moreF more x y))] none Q E
theorem run213_0 : alls3 (run213 Q E Tt own name t x y L dfs []) = alls3 fun many _ => okS (wD [(.str K.A, trD K.A (psD many) dfs)] L) own (argF many t) ∧ noR Tt own E := by kernel_rfl
theorem run213_2 : alls3 (run213 Q E Tt own name t x y L dfs (a :: b :: r)) = alls3 fun many _ => okS (wD [(.str K.A, trD K.A (psD many) dfs)] L) own (argF many t) ∧ E := by kernel_rfl
end
noncomputable def pAt : List Pm → Nat → Pm
  | [], _ => ⟨[], [], .none, []⟩
  | p :: _, 0 => p
  | _ :: r, n + 1 => pAt r n
noncomputable def st213 (w rf name own types row args more : D) (n : Nat) (f : Fnd) (im : D) : St :=
  { loc := [some (.dat w), some (.dat rf), some (.dat (.str K.method)), some (.dat (.str K.A)), some (.dat name), some (.dat own), some (.dat types), some (.dat row), some (.dat args), some (.dat more), some (.dat (.tup [.str K.impl, .int (.ofNat n), .dct f])), some (.dat im), some (.dat (.dct f)), none, none, none, none, none], objs := [.fz (.dct [])], ext := none }
section
variable (H : AFlow → St → Prop) (E : Prop) (Tt : D → Prop) (own name t x y : D) (dfs f : Fnd) (p0 p1 p2 p3 : Pm)
noncomputable def hd213 (l : List Pm) (n : Nat) (many more : Nat) : Prop := gSs (mkP (cal (ovF (wP many dfs l) own (argF many t) Tt [(n, f)]) 9)) (takeP 7 e213.p) { loc := [some (.dat (wP many dfs l)), some (.dat (refD name own (argF many t ++ moreF more x y))), none, none, none, none, none, none, none, none, none, none, none, none, none, none, none, none], objs := [], ext := none } H (fun _ _ => E)
noncomputable def hdR (l : List Pm) (n : Nat) (many more : Nat) : Prop := okS (wP many dfs l) own (argF many t) ∧ H .next (st213 (wP many dfs l) (refD name own (argF many t ++ moreF more x y)) name own (.tup (argF many t ++ moreF more x y)) (trD K.A (psD many) dfs) (.tup (argF many t)) (.tup (moreF more x y)) n f ((pAt l n).im n))
theorem hd213_1 : ([0].map fun n => alls3 (hd213 H E Tt own name t x y dfs f [p0] n)) = ([0].map fun n => alls3 (hdR H own name t x y dfs f [p0] n)) := by kernel_rfl
theorem hd213_2 : ([0, 1].map fun n => alls3 (hd213 H E Tt own name t x y dfs f [p0, p1] n)) = ([0, 1].map fun n => alls3 (hdR H own name t x y dfs f [p0, p1] n)) := by kernel_rfl
theorem hd213_3 : ([0, 1, 2].map fun n => alls3 (hd213 H E Tt own name t x y dfs f [p0, p1, p2] n)) = ([0, 1, 2].map fun n => alls3 (hdR H own name t x y dfs f [p0, p1, p2] n)) := by kernel_rfl
theorem hd213_4 : ([0, 1, 2, 3].map fun n => alls3 (hd213 H E Tt own name t x y dfs f [p0, p1, p2, p3] n)) = ([0, 1, 2, 3].map fun n => alls3 (hdR H own name t x y dfs f [p0, p1, p2, p3] n)) := by kernel_rfl
end
theorem hd213_at (H : AFlow → St → Prop) (E : Prop) (Tt : D → Prop) (own name t x y : D) (dfs f : Fnd) {l : List Pm} (h1 : 1 ≤ l.length) (h2 : l.length ≤ 4) {n many more : Nat} (hn : n < l.length) (h3 : many < 2) (h4 : more < 3) :
    hd213 H E Tt own name t x y dfs f l n many more = hdR H own name t x y dfs f l n many more := by
  rcases len14 h1 h2 with ⟨a, rfl⟩ | ⟨a, b, rfl⟩ | ⟨a, b, c, rfl⟩ | ⟨a, b, c, d, rfl⟩
  · exact alls3_at (List.map_inj_left.mp (hd213_1 ..) n (by simp at hn ⊢; omega)) h3 h4
  · exact alls3_at (List.map_inj_left.mp (hd213_2 ..) n (by simp at hn ⊢; omega)) h3 h4
  · exact alls3_at (List.map_inj_left.mp (hd213_3 ..) n (by simp at hn ⊢; omega)) h3 h4
  · exact alls3_at (List.map_inj_left.mp (hd213_4 ..) n (by simp at hn ⊢; omega)) h3 h4
noncomputable def ffF : Nat → D → D → Fnd
  | 0, _, _ => []
  | 1, _, _ => []
  | 2, x, _ => [(sZ, x)]
  | 3, x, _ => [(sT, x)]
  | _, x, y => [(sU, y), (sT, x)]
section
variable (Q : V → List AObj → Option AObj → Prop) (E : Prop) (Tt : D → Prop) (w wo rf own types t x y u v sm sn hd : D) (as : List D) (ns : List (Nat × Fnd)) (n m : Nat)
noncomputable def tl213 (a s many more i j df : Nat) : Prop := gSs (mkP (cal (ovF wo own (argF many t) Tt ns) 9)) (dropP 7 e213.p) (st213 w rf (nmF j) own types (trD K.A (psD many) (dfD df)) (.tup (argF many t)) (.tup (moreF more x y)) n (ffF s u v) (imD m (imNames (oS s) a) K.A as hd (msF sm sn i))) (finK false Q) (fun _ _ => E)
noncomputable def rs213 (s many more i j df : Nat) : Prop := match vlF s u v with
  | none => E
  | some vs => optE (resF (some vs) own (argF many t) (moreF more x y) (msF sm sn i) (dfD df) (nmF j)) (q0 Q) (naR Tt own (nmS j) E)
theorem tl213_0 : alls6 (tl213 Q E Tt w wo rf own types t x y u v sm sn hd as ns n m 0) = alls6 (rs213 Q E Tt own t x y u v sm sn) := by kernel_rfl
theorem tl213_1 : alls6 (tl213 Q E Tt w wo rf own types t x y u v sm sn hd as ns n m 1) = alls6 (rs213 Q E Tt own t x y u v sm sn) := by kernel_rfl
end
end Mine
namespace Mine
open PySem PySem.W PyProof.Rows PySem.Calls PySem.Spec
theorem lenE {α : Type} (l : List α) : len' l = l.length := by
  induction l with
  | nil => rfl
  | cons a r ih => show (len' r).succ = _; rw [ih]; rfl
theorem small_of {n : Nat} {x : Prop} (h : n ≤ 100000) (hx : x) : small n x := by
  unfold small
  rw [show Nat.ble n 100000 = true from Nat.ble_eq_true_of_le h]; exact hx
noncomputable def bxT (t : List Nat) : List Nat := K.c66_111_120_60 ++ t ++ K.c62
noncomputable def arT (t : List Nat) (n : Nat) : List Nat := [91] ++ t ++ [59, 32] ++ [48 + n] ++ [93]
noncomputable def rfT (t : List Nat) : List Nat := [38, 39, 97, 32] ++ t
noncomputable def wR (n : Nat) (Q : D → Prop) : Prop := ∀ t : List Nat, len' t ≤ n → small (len' K.c60 + len' t) (small (len' (K.c60 ++ t) + len' K.c62) (small (len' K.W + len' (K.c60 ++ t ++ K.c62)) (Q (.str (K.W ++ (K.c60 ++ t ++ K.c62))))))
section
variable (Q : V → List AObj → Option AObj → Prop) (E : Prop) (Tt : D → Prop) (c c2 : D)
noncomputable def jn2 (s t : List Nat) : Nat := len' s + len' K.c44_32 + (len' t + len' K.c44_32 + 0)
noncomputable def txtL (Q : D → Prop) : List Prop := ([K.u8, K.bool, bxT K.u8, bxT K.bool, arT K.u8 1, arT K.u8 2, arT K.u8 3, arT K.bool 1, arT K.bool 2, arT K.bool 3, rfT K.u8, rfT K.bool].map fun s => Q (.str s)) ++ [wR (jn2 K.u8 K.u8) Q, wR (jn2 K.u8 K.bool) Q, wR (jn2 K.bool K.u8) Q, wR (jn2 K.bool K.bool) Q]
theorem txt_all : (clAll.map fun c => cal ovN 10 113 [.dat c] none Q E) = txtL (q0 Q) := by kernel_rfl
noncomputable def ttSpN (Tt : D → Prop) (N : Nat) : Sp := fun a ext Q _ => s1 a ext fun t => Tt t ∧ ∀ s : List Nat, Nat.ble (len' s) N = true → Q (.dat (.str s)) [] none
theorem he113 : tbl TB 113 = some e113 := rfl
theorem txt_u : cal ovN 10 113 [.dat tyU] none Q E = q0 Q (.str K.u8) := by kernel_rfl
theorem txt_b : cal ovN 10 113 [.dat tyB] none Q E = q0 Q (.str K.bool) := by kernel_rfl
theorem txt_s : cal ovN 10 113 [.dat (tyD K.S [])] none Q E = q0 Q (.str K.S) := by kernel_rfl
theorem txt_i : cal ovN 10 113 [.dat (tyI K.i8)] none Q E = q0 Q (.str K.i8) := by kernel_rfl
noncomputable def txtN (Tt : D → Prop) (own : D) (k : List Nat → Prop) : Prop := Tt own ∧ ∀ s : List Nat, Nat.ble (len' s) 100 = true → k s
theorem txt_x : runF (cal (addO ovN 113 (ttSpN Tt 100)) 5) e113 [.dat (tyX c)] none Q E = txtN Tt c fun s => small (len' K.c66_111_120_60 + len' s) (small (len' (K.c66_111_120_60 ++ s) + len' K.c62) (q0 Q (.str (bxT s)))) := by kernel_rfl
theorem txt_w : runF (cal (addO ovN 113 (ttSpN Tt 100)) 5) e113 [.dat (tyD K.W [c, c2])] none Q E = txtN Tt c fun s => txtN Tt c2 fun t => small (jn2 s t) (wR (jn2 s t) (q0 Q)) := by kernel_rfl
end
theorem len_of {n : Nat} {s : List Nat} (h : Nat.ble (len' s) n = true) : s.length ≤ n := by
  have := Nat.le_of_ble_eq_true h
  rwa [lenE] at this
theorem wR_ok {n m : Nat} {Q : D → Prop} (hn : n ≤ 1000) (hm : n + 3 ≤ m) (h : ∀ s : List Nat, s.length ≤ m → Q (.str s)) : wR n Q := by
  intro t ht
  rw [lenE] at ht
  have e1 : K.c60.length = 1 := rfl
  have e2 : K.c62.length = 1 := rfl
  have e3 : K.W.length = 1 := rfl
  refine small_of (by simp only [lenE]; omega) (small_of (by simp only [lenE, List.length_append]; omega) (small_of (by simp only [lenE, List.length_append]; omega) (h _ (by simp only [List.length_append]; omega))))
theorem txt_cl {c : D} (hc : Clo c) (d : Nat) (hd : 10 ≤ d) {Q : V → List AObj → Option AObj → Prop} {E : Prop} (h : ∀ s : List Nat, s.length ≤ 100 → Q (.dat (.str s)) [] none) : CallOk d 113 [.dat c] none Q E := by
  refine (OvOk.none 0).run 10 (by omega) ?_
  have all : ∀ p ∈ txtL (q0 Q), p := by
    intro p hp
    rcases List.mem_append.mp hp with hp | hp
    · obtain ⟨s, hs, rfl⟩ := List.mem_map.mp hp
      refine h s ?_
      simp only [List.mem_cons, List.not_mem_nil, or_false] at hs
      rcases hs with rfl | rfl | rfl | rfl | rfl | rfl | rfl | rfl | rfl | rfl | rfl | rfl <;> decide
    · simp only [List.mem_cons, List.not_mem_nil, or_false] at hp
      rcases hp with rfl | rfl | rfl | rfl <;> exact wR_ok (m := 100) (by decide) (by decide) h
  have : (cal ovN 10 113 [.dat c] none Q E) ∈ txtL (q0 Q) := by
    rw [← txt_all Q E]
    exact List.mem_map.mpr ⟨c, hc.mem, rfl⟩
  exact all _ this
theorem txt1_ok : OvOk 10 (addO ovN 113 (ttSpN Clo 100)) := (OvOk.none 10).add (Nat.le_refl _) fun d hd args ext Q E h => by
  replace h := s1_iff h
  obtain ⟨t, rfl, rfl, h⟩ := h
  exact txt_cl h.1 d hd fun s hs => h.2 s (Nat.ble_eq_true_of_le (by rw [lenE]; exact hs))
noncomputable def Own (t : D) : Prop := ∃ o c c2, o < 6 ∧ Clo c ∧ Clo c2 ∧ t = ownF o c c2
theorem txt_ok (d : Nat) (hd : 20 ≤ d) (args : List V) (ext : Option AObj) (Q : V → List AObj → Option AObj → Prop) (E : Prop) (h : ttSp Own args ext Q E) : CallOk d 113 args ext Q E := by
  replace h := s1_iff h
  obtain ⟨t, rfl, rfl, h⟩ := h
  obtain ⟨⟨o, c, c2, ho, hc, hc2, rfl⟩, h⟩ := h
  have h' : ∀ s : List Nat, s.length ≤ 300 → Q (.dat (.str s)) [] none := fun s hs => h s (Nat.ble_eq_true_of_le (by rw [lenE]; exact hs))
  match o with
  | 0 => refine (OvOk.none 0).run 10 (by omega) ?_; show cal ovN 10 113 [.dat tyU] none Q E; rw [txt_u]; exact h' _ (by decide)
  | 1 => refine (OvOk.none 0).run 10 (by omega) ?_; show cal ovN 10 113 [.dat tyB] none Q E; rw [txt_b]; exact h' _ (by decide)
  | 2 =>
    refine (txt1_ok).body 5 he113 (by omega) ?_
    show runF (cal (addO ovN 113 (ttSpN Clo 100)) 5) e113 [.dat (tyX c)] none Q E
    rw [txt_x]
    refine ⟨hc, fun s hs => ?_⟩
    have := len_of hs
    have e1 : K.c62.length = 1 := rfl
    have e2 : K.c66_111_120_60.length = 4 := rfl
    exact small_of (by simp only [lenE]; omega) (small_of (by simp only [lenE, List.length_append]; omega) (h' _ (by unfold bxT; simp only [List.length_append]; omega)))
  | 3 =>
    refine (txt1_ok).body 5 he113 (by omega) ?_
    show runF (cal (addO ovN 113 (ttSpN Clo 100)) 5) e113 [.dat (tyD K.W [c, c2])] none Q E
    rw [txt_w]
    refine ⟨hc, fun s hs => ⟨hc2, fun t ht => ?_⟩⟩
    have := len_of hs
    have := len_of ht
    have e1 : K.c44_32.length = 2 := rfl
    have e : jn2 s t ≤ 204 := by unfold jn2; simp only [lenE]; omega
    exact small_of (by omega) (wR_ok (m := 300) (by omega) (by omega) h')
  | 4 => refine (OvOk.none 0).run 10 (by omega) ?_; show cal ovN 10 113 [.dat (tyD K.S [])] none Q E; rw [txt_s]; exact h' _ (by decide)
  | 5 => refine (OvOk.none 0).run 10 (by omega) ?_; show cal ovN 10 113 [.dat (tyI K.i8)] none Q E; rw [txt_i]; exact h' _ (by decide)
  | o + 6 => omega
theorem noR_ok {own : D} {E : Prop} (ho : Own own) (h : E) : noR Own own E := ⟨ho, fun s hs => by
  have := len_of hs
  have e1 : len' msg1 ≤ 100 := by decide
  exact small_of (by simp only [lenE] at e1 ⊢; omega) h⟩
theorem naR_ok {own : D} {j : Nat} {E : Prop} (ho : Own own) (h : E) : naR Own own (nmS j) E := ⟨ho, fun s hs => by
  have := len_of hs
  have e1 : len' msg2 ≤ 100 := by decide
  have e2 : K.c32_104_97_115_32_110_111_32.length ≤ 20 := by decide
  have e3 : (nmS j).length ≤ 1 := by
    match j with
    | 0 => decide
    | 1 => decide
    | j + 2 => exact Nat.le_refl 1
  exact small_of (by simp only [lenE] at e1 ⊢; omega) (small_of (by simp only [lenE, List.length_append] at e1 ⊢; omega) (small_of (by simp only [lenE, List.length_append] at e1 ⊢; omega) h))⟩
end Mine
namespace Mine
open PySem PySem.W PyProof.Rows PySem.Calls PySem.Spec
theorem clAll_ne : ∀ i : Fin 16, ∀ j : Fin 16, dbeq (clAll.get i) (clAll.get j) = Nat.beq i.1 j.1 := by decide +kernel
theorem cl_dbeq {a b : D} (ha : Clo a) (hb : Clo b) : (a = b ∧ dbeq a b = true) ∨ (dbeq a b = false ∧ dbeq b a = false) := by
  obtain ⟨i, rfl⟩ := List.mem_iff_get.mp ha.mem
  obtain ⟨j, rfl⟩ := List.mem_iff_get.mp hb.mem
  have e1 := clAll_ne i j
  have e2 := clAll_ne j i
  cases h : Nat.beq i.1 j.1 with
  | true =>
    refine .inl ⟨congrArg _ (Fin.ext (Nat.eq_of_beq_eq_true h)), e1.trans h⟩
  | false =>
    refine .inr ⟨e1.trans h, e2.trans ?_⟩
    cases q : Nat.beq j.1 i.1 with
    | false => rfl
    | true => rw [← Nat.eq_of_beq_eq_true q, show Nat.beq j.1 j.1 = true from Nat.beq_refl _] at h; cases h
theorem cl_B : Clo tyB := .leaf 1
theorem Clo.hd {c : D} (h : Clo c) : Hd c := by
  cases h with
  | leaf i => rcases lfC_mem i with e | e <;> rw [e]; exact .int _; exact .bool
  | box i => exact .box _
  | arr i n => exact .arr _ _
  | ref i => exact .ref _ _ _
  | adt i j => exact .adt _ _ _
theorem own_hd (o : Nat) (c c2 : D) : Hd (ownF o c c2) := by
  match o with
  | 0 => exact .int _
  | 1 => exact .bool
  | 2 => exact .box _
  | 3 => exact .adt _ _ _
  | 4 => exact .adt _ _ _
  | o + 5 => exact .int _
noncomputable def T3.val : T3 → Option Fnd
  | .leaf b f => match b with | true => some f | false => none
  | .hd t x y => match dbeq t tyB with | true => x.val | false => y.val
  | .cb a b x y => match dbeq a b with | true => x.val | false => y.val
noncomputable def T3.Gd : T3 → Prop
  | .leaf _ _ => True
  | .hd t x y => Hd t ∧ x.Gd ∧ y.Gd
  | .cb a b x y => (Clo a ∧ Clo b) ∧ x.Gd ∧ y.Gd
theorem T3.R_of {Q : D → Prop} : ∀ {x : T3}, x.Gd → optB x.val (fun f => Q (.tup [.str K.yes, .dct f])) (∀ f : Fnd, Q (.tup [.str K.no, .dct f])) → x.R Q
  | .leaf true f, _, h => h
  | .leaf false f, _, h => h f
  | .hd t x y, g, h => by
    refine ⟨g.1, branch_intro (fun e => x.R_of g.2.1 ?_) fun e => y.R_of g.2.2 ?_⟩ <;> (unfold T3.val at h; rw [e] at h; exact h)
  | .cb a b x y, g, h => by
    refine ⟨g.1.1, g.1.2, branch_intro (fun e => x.R_of g.2.1 ?_) fun e => y.R_of g.2.2 ?_⟩ <;> (unfold T3.val at h; rw [e] at h; exact h)
noncomputable def T4.val : T4 → Option Fnd
  | .no => none
  | .so t => some t
  | .ne x y p q => match dbeq x y with | true => q.val | false => p.val
noncomputable def T4.Gd : T4 → Prop
  | .no => True
  | .so _ => True
  | .ne x y p q => (Ok 20 x ∧ Ok 20 y) ∧ p.Gd ∧ q.Gd
theorem T4.R_of {Q : D → Prop} : ∀ {x : T4}, x.Gd → optB x.val (fun t => Q (.dct t)) (Q .none) → x.R Q
  | .no, _, h => h
  | .so t, _, h => h
  | .ne x y p q, g, h => by
    refine eqD_ok g.1.1 g.1.2 ?_
    unfold T4.val at h
    cases e : dbeq x y with
    | true => rw [e] at h; exact q.R_of g.2.2 h
    | false => rw [e] at h; exact p.R_of g.2.1 h
theorem mm0_gd (k o : Nat) (c c2 : D) : (mm0 k o c c2).Gd := by
  unfold mm0
  split <;> first | trivial | exact ⟨own_hd .., trivial, trivial⟩
theorem mm125_gd {t c c2 : D} (ht : Clo t) (hc : Clo c) (hc2 : Clo c2) (many g k o : Nat) : (mm125 many g k o t c c2).Gd := by
  unfold mm125
  split
  · exact mm0_gd ..
  · exact ⟨ht.hd, mm0_gd .., trivial⟩
  · unfold mm1
    split
    · exact ⟨ht.hd, mm0_gd .., trivial⟩
    · exact ⟨own_hd .., trivial, trivial⟩
    · exact ⟨⟨ht, hc⟩, trivial, trivial⟩
    · trivial
    · exact ⟨⟨ht, hc2⟩, trivial, trivial⟩
    · trivial
theorem tEnd_gd {c : D} (hc : Clo c) (a k : Nat) (t : Fnd) : (tEnd a k c t).Gd := by
  unfold tEnd
  split
  · exact ⟨⟨hc.ok.w _, cl_B.ok.w _⟩, trivial, trivial⟩
  · trivial
theorem t372_gd {t c c2 : D} (ht : Clo t) (hc : Clo c) (hc2 : Clo c2) (a many g k o : Nat) : (t372 a many g k o t c c2).Gd := by
  unfold t372
  split
  · trivial
  · split
    · exact tEnd_gd hc ..
    · exact ⟨⟨cl_B.ok.w _, ht.ok.w _⟩, trivial, tEnd_gd hc ..⟩
    · split
      · exact ⟨⟨cl_B.ok.w _, ht.ok.w _⟩, trivial, tEnd_gd hc ..⟩
      · exact tEnd_gd hc ..
      · exact ⟨⟨hc.ok.w _, ht.ok.w _⟩, trivial, tEnd_gd hc ..⟩
      · exact ⟨⟨hc2.ok.w _, ht.ok.w _⟩, trivial, tEnd_gd hc ..⟩
noncomputable def ndF (k a : Nat) : Bool := match k, a with
  | 2, 1 => true
  | _, _ => false
noncomputable def Agree (c : D) (o k : Nat) : Option Fnd → Option Fnd → Prop
  | none, none => True
  | some f, some t => ∃ s u v, s < 5 ∧ oS s = k ∧ oS s = o ∧ (Ok 3 u ∧ Ok 3 v ∧ (s = 3 → u = c)) ∧ f = ffF s u v ∧ t = fsF s u v
  | _, _ => False
noncomputable def fitV (m : Option Fnd) (nd b : Bool) : Option Fnd := match m with
  | none => none
  | some f => keepF nd b f
theorem own_nb {o : Nat} (h : o ≠ 1) (c c2 : D) : dbeq (ownF o c c2) tyB = false := by
  match o with
  | 0 => rfl
  | 1 => exact absurd rfl h
  | 2 => rfl
  | 3 => rfl
  | 4 => rfl
  | o + 5 => rfl
theorem four {k : Nat} (h : k < 4) : k = 0 ∨ k = 1 ∨ k = 2 ∨ k = 3 := by omega
theorem six {k : Nat} (h : k < 6) : k = 0 ∨ k = 1 ∨ k = 2 ∨ k = 3 ∨ k = 4 ∨ k = 5 := by omega
theorem fits_iff {k o : Nat} (h3 : k < 4) (h4 : o < 6) : (fits k o = true ∧ o = k) ∨ (fits k o = false ∧ o ≠ k) := by
  rcases four h3 with rfl | rfl | rfl | rfl <;> rcases six h4 with rfl | rfl | rfl | rfl | rfl | rfl <;> first | exact .inl ⟨rfl, rfl⟩ | exact .inr ⟨rfl, by decide⟩
theorem mm0_no {k o : Nat} (h3 : k < 4) (h : o ≠ k) (c c2 : D) : (mm0 k o c c2).val = none := by
  unfold mm0
  split
  · exact absurd rfl h
  · unfold T3.val; rw [own_nb h]; rfl
  · exact absurd rfl h
  · exact absurd rfl h
  · rfl
theorem mm125_no {many g k o : Nat} (h3 : k < 4) (h : o ≠ k) (t c c2 : D) : (mm125 many g k o t c c2).val = none := by
  unfold mm125
  split
  · exact mm0_no h3 h ..
  · unfold T3.val
    split
    · exact mm0_no h3 h ..
    · rfl
  · unfold mm1
    split
    · unfold T3.val
      split
      · exact mm0_no h3 h ..
      · rfl
    · unfold T3.val; rw [own_nb h]; rfl
    · exact absurd rfl h
    · rfl
    · rcases four h3 with rfl | rfl | rfl | rfl
      · rename_i q _ _; exact absurd rfl q
      · rename_i q _; exact absurd rfl q
      · rename_i q; exact absurd rfl q
      · exact absurd rfl h
    · rfl
theorem agree0 {c c2 : D} (hc : Clo c) (hc2 : Clo c2) {a k : Nat} (h0 : a < 2) (h3 : k < 4) : Agree c k k (fitV (mm0 k k c c2).val (ndF k a) (dbeq c tyB)) (tEnd a k c (tb0 k c c2)).val := by
  have ob := cl_B.ok
  rcases four h3 with rfl | rfl | rfl | rfl
  · exact ⟨0, tyB, tyB, by omega, rfl, rfl, ⟨ob, ob, nofun⟩, rfl, rfl⟩
  · exact ⟨1, tyB, tyB, by omega, rfl, rfl, ⟨ob, ob, nofun⟩, rfl, rfl⟩
  · rcases two_of11 h0 with rfl | rfl
    · exact ⟨3, c, c, by omega, rfl, rfl, ⟨hc.ok, hc.ok, fun _ => rfl⟩, rfl, rfl⟩
    · show Agree c 2 2 (keepF true (dbeq c tyB) [(sT, c)]) (T4.val (.ne c tyB .no (.so [(sT, c)])))
      unfold T4.val
      cases e : dbeq c tyB with
      | true => exact ⟨3, c, c, by omega, rfl, rfl, ⟨hc.ok, hc.ok, fun _ => rfl⟩, rfl, rfl⟩
      | false => exact trivial
  · exact ⟨4, c, c2, by omega, rfl, rfl, ⟨hc.ok, hc2.ok, nofun⟩, rfl, rfl⟩
theorem agreeB {t c : D} (ht : Clo t) {a k o : Nat} {x : T3} {y : T4} {f : Fnd} {b : Bool} (h : Agree c o k (fitV x.val (ndF k a) b) y.val) : Agree c o k (fitV (T3.val (.hd t x (.leaf false f))) (ndF k a) b) (T4.val (.ne tyB t .no y)) := by
  unfold T4.val T3.val
  rcases cl_dbeq ht cl_B with ⟨rfl, e⟩ | ⟨e1, e2⟩
  · rw [e]; exact h
  · rw [e1, e2]; exact trivial
theorem agree {t c c2 : D} (ht : Clo t) (hc : Clo c) (hc2 : Clo c2) {a many g k o : Nat} (h0 : a < 2) (h1 : many < 2) (h2 : g < 2) (h3 : k < 4) (h4 : o < 6) :
    Agree c o k (fitV (mm125 many g k o t c c2).val (ndF k a) (dbeq c tyB)) (t372 a many g k o t c c2).val := by
  rcases fits_iff h3 h4 with ⟨hf, rfl⟩ | ⟨hf, ho⟩
  · have A0 := agree0 hc hc2 h0 h3
    unfold t372
    rw [hf]
    rcases two_of11 h1 with rfl | rfl
    · exact A0
    · rcases two_of11 h2 with rfl | rfl
      · exact agreeB ht A0
      · rcases four h3 with rfl | rfl | rfl | rfl
        · exact agreeB ht A0
        · have e : tEnd a 1 c [(sZ, t)] = .so [(sZ, t)] := rfl
          show Agree c 1 1 (some [(sZ, t)]) (T4.val (tEnd a 1 c [(sZ, t)]))
          rw [e]
          exact ⟨2, t, t, by omega, rfl, rfl, ⟨ht.ok, ht.ok, nofun⟩, rfl, rfl⟩
        · show Agree c 2 2 (fitV (T3.val (.cb t c (.leaf true [(sT, t)]) (.leaf false [(sT, t)]))) (ndF 2 a) (dbeq c tyB)) (T4.val (.ne c t .no (tEnd a 2 c (tb0 2 c c2))))
          rcases cl_dbeq ht hc with ⟨rfl, e⟩ | ⟨e1, e2⟩
          · unfold T3.val T4.val; rw [e]; exact A0
          · unfold T3.val T4.val; rw [e1, e2]; exact trivial
        · show Agree c 3 3 (fitV (T3.val (.cb t c2 (.leaf true [(sU, t), (sT, c)]) (.leaf false [(sU, t)]))) (ndF 3 a) (dbeq c tyB)) (T4.val (.ne c2 t .no (tEnd a 3 c (tb0 3 c c2))))
          rcases cl_dbeq ht hc2 with ⟨rfl, e⟩ | ⟨e1, e2⟩
          · unfold T3.val T4.val; rw [e]; exact A0
          · unfold T3.val T4.val; rw [e1, e2]; exact trivial
  · rw [mm125_no h3 ho]
    unfold t372
    rw [hf]
    exact trivial
end Mine
namespace Mine
open PySem PySem.W PyProof.Rows PySem.Calls PySem.Spec
structure Cd where
  k : Nat
  a : Nat
  g : Nat
  i : Nat
  j : Nat
structure Cd.Ok (q : Cd) : Prop where
  k : q.k < 4
  a : q.a < 2
  g : q.g < 2
  i : q.i < 2
  j : q.j < 2
noncomputable def pmF (many n : Nat) (q : Cd) : Pm := ⟨imNames q.k q.a, imArgs many q.k q.g, imHead q.k, imMs n q.i q.j⟩
theorem cut_k (k : Nat) : ∃ k', k' < 4 ∧ (∀ a, imNames k a = imNames k' a) ∧ (∀ m g, imArgs m k g = imArgs m k' g) ∧ imHead k = imHead k' := by
  match k with
  | 0 => exact ⟨0, by omega, fun _ => rfl, fun _ _ => rfl, rfl⟩
  | 1 => exact ⟨1, by omega, fun _ => rfl, fun _ _ => rfl, rfl⟩
  | 2 => exact ⟨2, by omega, fun _ => rfl, fun _ _ => rfl, rfl⟩
  | k + 3 => exact ⟨3, by omega, fun _ => rfl, fun m g => by cases m <;> cases g <;> rfl, rfl⟩
theorem cut_a (a : Nat) : ∃ a', a' < 2 ∧ ∀ k, imNames k a = imNames k a' := by
  match a with
  | 0 => exact ⟨0, by omega, fun _ => rfl⟩
  | a + 1 => exact ⟨1, by omega, fun k => by unfold imNames; split <;> rfl⟩
theorem cut_g (g : Nat) : ∃ g', g' < 2 ∧ ∀ m k, imArgs m k g = imArgs m k g' := by
  match g with
  | 0 => exact ⟨0, by omega, fun _ _ => rfl⟩
  | g + 1 => exact ⟨1, by omega, fun m k => by
      cases m with
      | zero => rfl
      | succ m => exact congrArg (fun x => [x]) (by match k with | 0 => rfl | 1 => rfl | 2 => rfl | k + 3 => rfl)⟩
theorem cut_ij (i j : Nat) : ∃ i' j', i' < 2 ∧ j' < 2 ∧ ∀ n, imMs n i j = imMs n i' j' := by
  match i, j with
  | 0, 0 => exact ⟨0, 0, by omega, by omega, fun _ => rfl⟩
  | 0, j + 1 => exact ⟨0, 1, by omega, by omega, fun _ => rfl⟩
  | i + 1, 0 => exact ⟨1, 0, by omega, by omega, fun _ => rfl⟩
  | i + 1, j + 1 => exact ⟨1, 1, by omega, by omega, fun _ => rfl⟩
theorem Im.cd {many n : Nat} {x : D} (h : Im many n x) : ∃ q : Cd, q.Ok ∧ x = (pmF many n q).im n := by
  obtain ⟨k, a, g, i, j⟩ := h
  obtain ⟨k', hk, e1, e2, e3⟩ := cut_k k
  obtain ⟨a', ha, e4⟩ := cut_a a
  obtain ⟨g', hg, e5⟩ := cut_g g
  obtain ⟨i', j', hi, hj, e6⟩ := cut_ij i j
  refine ⟨⟨k', a', g', i', j'⟩, ⟨hk, ha, hg, hi, hj⟩, ?_⟩
  unfold imF pmF Pm.im
  rw [e1, e2, e3, e4, e5, e6]
noncomputable def PmL (many : Nat) : Nat → List Pm → Prop
  | _, [] => True
  | n, p :: l => (∃ q : Cd, q.Ok ∧ p = pmF many n q) ∧ PmL many (n + 1) l
theorem ImL.pm {many : Nat} : ∀ {n : Nat} {l : List D}, ImL many n l → ∃ pl, l = imL n pl ∧ pl.length = l.length ∧ PmL many n pl
  | n, _, .nil _ => ⟨[], rfl, rfl, trivial⟩
  | n, _, .cons h r => by
    obtain ⟨q, hq, rfl⟩ := h.cd
    obtain ⟨pl, rfl, hl, hp⟩ := ImL.pm r
    exact ⟨pmF many n q :: pl, rfl, by simp [hl], ⟨q, hq, rfl⟩, hp⟩
theorem im_inj {p p' : Pm} {n n' : Nat} (h : p.im n = p'.im n') : p = p' ∧ n = n' := by
  obtain ⟨a, b, c, d⟩ := p
  obtain ⟨a', b', c', d'⟩ := p'
  unfold Pm.im imD at h
  simp only [D.ins.injEq, D.dct.injEq, List.cons.injEq, Prod.mk.injEq, D.int.injEq, D.lst.injEq, D.tup.injEq, true_and, and_true] at h
  obtain ⟨h1, h2, h3, h4, h5⟩ := h
  subst h2; subst h3; subst h4; subst h5
  exact ⟨rfl, Int.ofNat.inj h1⟩
noncomputable def VdM (many : Nat) (x : D) : Prop := ∃ (q : Cd) (n : Nat), n < 4 ∧ q.Ok ∧ x = (pmF many n q).im n
theorem PmL.vd {many : Nat} : ∀ {l : List Pm} {n : Nat}, n + l.length ≤ 4 → PmL many n l → VdL (VdM many) n l
  | [], _, _, _ => trivial
  | p :: l, n, hn, ⟨⟨q, hq, e⟩, r⟩ => ⟨⟨q, n, by simp at hn; omega, hq, by rw [e]⟩, PmL.vd (by simp at hn; omega) r⟩
noncomputable def cdOf (many : Nat) (x : D) : Cd := open Classical in if h : VdM many x then h.choose else ⟨0, 0, 0, 0, 0⟩
theorem cdOf_ok {many : Nat} {x : D} (h : VdM many x) : ∃ n, n < 4 ∧ (cdOf many x).Ok ∧ x = (pmF many n (cdOf many x)).im n := by
  unfold cdOf
  rw [dif_pos h]
  exact h.choose_spec
structure Qs where
  many : Nat
  o : Nat
  t : D
  c : D
  c2 : D
structure Qs.Ok (z : Qs) : Prop where
  many : z.many < 2
  o : z.o < 6
  t : Clo z.t
  c : Clo z.c
  c2 : Clo z.c2
noncomputable def Qs.M (z : Qs) (x : D) : Option Fnd := (mm125 z.many (cdOf z.many x).g (cdOf z.many x).k z.o z.t z.c z.c2).val
noncomputable def Qs.Nd (z : Qs) (x : D) : Bool := ndF (cdOf z.many x).k (cdOf z.many x).a
noncomputable def Qs.Tb (z : Qs) (x : D) : Option Fnd := (t372 (cdOf z.many x).a z.many (cdOf z.many x).g (cdOf z.many x).k z.o z.t z.c z.c2).val
noncomputable def Qs.own (z : Qs) : D := ownF z.o z.c z.c2
noncomputable def Qs.as (z : Qs) : List D := argF z.many z.t
section
variable (Q : V → List AObj → Option AObj → Prop) (E : Prop) (n many g : Nat) (ms : List (D × D)) (x y : D) (self : V) (o : AObj)
noncomputable def run158' (s a : Nat) : Prop := cal ovN 10 158 [self, .dat (imD n (imNames (oS s) a) K.A (imArgs many (oS s) g) (imHead (oS s)) ms), .dat (.dct (ffF s x y))] (some o) Q E
noncomputable def al158 {α : Type} (f : Nat → Nat → α) : List (List α) := [0, 1, 2, 3, 4].map fun s => [0, 1].map fun a => f s a
noncomputable def need' (s a : Nat) (x : D) : List D := match s, a with
  | 3, 1 => [.tup [.str K.B, x]]
  | _, _ => []
theorem run158_at : al158 (run158' Q E n many g ms x y self o) = al158 fun s a => ifT (extOk (some o)) (Q (.dat (.lst (need' s a x))) [] (some o)) := by kernel_rfl
end
theorem ndF_0 (k : Nat) : ndF k 0 = false := by
  match k with
  | 0 => rfl
  | 1 => rfl
  | 2 => rfl
  | k + 3 => rfl
theorem imOk {z : Qs} (hz : z.Ok) {x : D} (h : VdM z.many x) : ImOk z.own z.c z.as x (z.M x) (z.Nd x) := by
  obtain ⟨n, hn, hq, e⟩ := cdOf_ok h
  constructor
  · intro d hd Q E hQ
    rw [e]
    have := mt125_ok d hd (n := n) (a := (cdOf z.many x).a) (ms := (pmF z.many n (cdOf z.many x)).ms) (Q := Q) (E := E) hz.many hq.g hq.k hz.o (T3.R_of (mm125_gd hz.t hz.c hz.c2 ..) hQ)
    exact this
  · intro d hd self o f hf Q E hQ
    have ag := agree hz.t hz.c hz.c2 (a := 0) (by omega) hz.many hq.g hq.k hz.o
    have e0 : ∀ m b, fitV m (ndF (cdOf z.many x).k 0) b = m := fun m b => by
      rw [ndF_0]
      cases m <;> rfl
    rw [e0] at ag
    unfold Qs.M at hf
    rw [hf] at ag
    have : ∃ s u v, s < 5 ∧ oS s = (cdOf z.many x).k ∧ (s = 3 → u = z.c) ∧ f = ffF s u v := by
      revert ag
      cases (t372 0 z.many (cdOf z.many x).g (cdOf z.many x).k z.o z.t z.c z.c2).val with
      | none => exact fun h => h.elim
      | some t => exact fun ⟨s, u, v, h1, h2, _, h3, h4, _⟩ => ⟨s, u, v, h1, h2, h3.2.2, h4⟩
    obtain ⟨s, u, v, h1, h2, h3, rfl⟩ := this
    refine (OvOk.none 0).run 10 (by omega) ?_
    rw [e]
    have m1 : s ∈ [0, 1, 2, 3, 4] := by simp; omega
    have m2 : (cdOf z.many x).a ∈ [0, 1] := by have := hq.a; simp; omega
    have r := List.map_inj_left.mp (List.map_inj_left.mp (run158_at Q E n z.many (cdOf z.many x).g (pmF z.many n (cdOf z.many x)).ms u v self o) s m1) _ m2
    unfold run158' at r
    rw [h2] at r
    unfold Pm.im
    rw [show (pmF z.many n (cdOf z.many x)).ps = imNames (cdOf z.many x).k (cdOf z.many x).a from rfl, show (pmF z.many n (cdOf z.many x)).as = imArgs z.many (cdOf z.many x).k (cdOf z.many x).g from rfl, show (pmF z.many n (cdOf z.many x)).hd = imHead (cdOf z.many x).k from rfl, r]
    obtain ⟨g1, g2⟩ := ifT_iff hQ
    rw [g1]
    show Q (.dat (.lst (need' s (cdOf z.many x).a u))) [] (some o)
    unfold Qs.Nd at g2
    have ha := hq.a
    rw [← h2] at g2
    match s, (cdOf z.many x).a, h1, ha, h3, g2 with
    | 0, a, _, _, _, g2 => exact g2
    | 1, a, _, _, _, g2 => exact g2
    | 2, a, _, _, _, g2 => exact g2
    | 3, 0, _, _, _, g2 => exact g2
    | 3, 1, _, _, h3, g2 => rw [h3 rfl]; exact g2
    | 4, a, _, _, _, g2 => exact g2
theorem tbOk {z : Qs} (hz : z.Ok) {x : D} (h : VdM z.many x) (d : Nat) (hd : 10 ≤ d) {Q : V → List AObj → Option AObj → Prop} {E : Prop}
    (hQ : optB (z.Tb x) (fun t => Q (.dat (.dct t)) [] none) (Q (.dat .none) [] none)) : CallOk d 372 [.dat x, .dat z.own, .dat (.tup z.as)] none Q E := by
  obtain ⟨n, hn, hq, e⟩ := cdOf_ok h
  rw [e]
  exact tb372_ok d hd (n := n) (ms := (pmF z.many n (cdOf z.many x)).ms) (Q := Q) (E := E) hq.a hz.many hq.g hq.k hz.o (T4.R_of (t372_gd hz.t hz.c hz.c2 ..) hQ)
end Mine
namespace Mine
open PySem PySem.W PyProof.Rows PySem.Calls PySem.Spec
inductive AL (S : Nat × Fnd → Fnd × Fnd → Prop) : List (Nat × Fnd) → List (Fnd × Fnd) → Prop
  | nil : AL S [] []
  | cons {a : Nat × Fnd} {b : Fnd × Fnd} {l : List (Nat × Fnd)} {m : List (Fnd × Fnd)} : S a b → AL S l m → AL S (a :: l) (b :: m)
noncomputable def Hit (z : Qs) (P : Nat → Pm) (N : Nat) (a : Nat × Fnd) (b : Fnd × Fnd) : Prop := ∃ (q : Cd) (s : Nat) (u v : D), a.1 < N ∧ q.Ok ∧ P a.1 = pmF z.many a.1 q ∧ s < 5 ∧ oS s = q.k ∧ oS s = z.o ∧ Ok 3 u ∧ Ok 3 v ∧ a.2 = ffF s u v ∧ b.2 = fsF s u v ∧ b.1 = imMs a.1 q.i q.j
theorem agreeL {z : Qs} (hz : z.Ok) {P : Nat → Pm} {N : Nat} : ∀ (l : List Pm) (n : Nat), (∀ i, i < l.length → pAt l i = P (n + i)) → n + l.length ≤ N → VdL (VdM z.many) n l → AL (Hit z P N) (fitL z.M z.Nd (dbeq z.c tyB) n l) (tbL z.Tb n l)
  | [], _, _, _, _ => .nil
  | p :: l, n, hP, hN, hv => by
    have ih := agreeL hz (P := P) (N := N) l (n + 1) (fun i hi => by
      have := hP (i + 1) (by simp; omega)
      rw [show n + (i + 1) = n + 1 + i by omega] at this
      exact this) (by simp at hN; omega) hv.2
    obtain ⟨m, hm, hq, e⟩ := cdOf_ok hv.1
    obtain ⟨e1, e2⟩ := im_inj e
    subst e2
    have ag := agree hz.t hz.c hz.c2 hq.a hz.many hq.g hq.k hz.o
    have f1 : fitM z.M z.Nd (dbeq z.c tyB) (p.im n) = fitV (mm125 z.many (cdOf z.many (p.im n)).g (cdOf z.many (p.im n)).k z.o z.t z.c z.c2).val (ndF (cdOf z.many (p.im n)).k (cdOf z.many (p.im n)).a) (dbeq z.c tyB) := rfl
    unfold fitL tbL
    rw [f1]
    unfold Qs.Tb
    revert ag
    cases fitV (mm125 z.many (cdOf z.many (p.im n)).g (cdOf z.many (p.im n)).k z.o z.t z.c z.c2).val (ndF (cdOf z.many (p.im n)).k (cdOf z.many (p.im n)).a) (dbeq z.c tyB) with
    | none =>
      cases (t372 (cdOf z.many (p.im n)).a z.many (cdOf z.many (p.im n)).g (cdOf z.many (p.im n)).k z.o z.t z.c z.c2).val with
      | none => exact fun _ => ih
      | some t => exact fun h => h.elim
    | some f =>
      cases (t372 (cdOf z.many (p.im n)).a z.many (cdOf z.many (p.im n)).g (cdOf z.many (p.im n)).k z.o z.t z.c z.c2).val with
      | none => exact fun h => h.elim
      | some t =>
        intro ⟨s, u, v, h1, h2, h3, h4, h5, h6⟩
        refine .cons ⟨cdOf z.many (p.im n), s, u, v, by simp at hN ⊢; omega, hq, ?_, h1, h2, h3, h4.1, h4.2.1, h5, h6, ?_⟩ ih
        · have := hP 0 (by simp)
          exact this.symm.trans e1
        · exact congrArg Pm.ms e1
theorem imMs_F (n : Nat) (i j : Nat) (hn : n < 4) : ∃ k sm sn, k < 4 ∧ Ok 0 sm ∧ Ok 0 sn ∧ imMs n i j = msF sm sn k := by
  have om : Ok 0 (.str ([73, 48 + n] ++ K.c58_58_109)) := .str (by match n, hn with | 0, _ => rfl | 1, _ => rfl | 2, _ => rfl | 3, _ => rfl)
  have on : Ok 0 (.str ([73, 48 + n] ++ K.c58_58_110)) := .str (by match n, hn with | 0, _ => rfl | 1, _ => rfl | 2, _ => rfl | 3, _ => rfl)
  match i, j with
  | 0, 0 => exact ⟨3, _, _, by omega, om, on, rfl⟩
  | 0, j + 1 => exact ⟨2, _, _, by omega, om, on, rfl⟩
  | i + 1, 0 => exact ⟨1, _, _, by omega, om, on, rfl⟩
  | i + 1, j + 1 => exact ⟨0, _, _, by omega, om, on, rfl⟩
theorem he377 : tbl TB 377 = some e377 := rfl
theorem he213 : tbl TB 213 = some e213 := rfl
theorem enter377 (ov : Ov) (w many name own types : D) (Q : V → List AObj → Option AObj → Prop) (E : Prop) : runF (cal ov 9) e377 [.dat w, .dat many, .dat name, .dat own, .dat types] none Q E =
    gSs (mkP (cal ov 9)) e377.p { loc := [some (.dat w), some (.dat many), some (.dat name), some (.dat own), some (.dat types), none, none, none, none, none, none, none, none, none, none], objs := [], ext := none } (finK false Q) (fun _ _ => E) := by kernel_rfl
theorem enter213 (ov : Ov) (w rf : D) (Q : V → List AObj → Option AObj → Prop) (E : Prop) : runF (cal ov 9) e213 [.dat w, .dat rf] none Q E =
    gSs (mkP (cal ov 9)) e213.p { loc := [some (.dat w), some (.dat rf), none, none, none, none, none, none, none, none, none, none, none, none, none, none, none, none], objs := [], ext := none } (finK false Q) (fun _ _ => E) := by kernel_rfl
end Mine
namespace Mine
open PySem PySem.W PyProof.Rows PySem.Calls PySem.Spec
theorem ovD_ok {z : Qs} (hz : z.Ok) : OvOk 10 (ovD (VdM z.many) z.Tb z.own z.as) := (OvOk.none 10).add (Nat.le_refl _) fun d hd as ext Q E h => by
  replace h := s3_iff h
  obtain ⟨im, T, x, rfl, rfl, h⟩ := h
  obtain ⟨⟨hv, q1, q2⟩, h⟩ := h
  rw [q1, q2]
  exact tbOk hz hv d hd h
theorem cut377 (H : AFlow → St → Prop) (E : Prop) (Vd : D → Prop) (Tb : D → Option Fnd) (own name t x y : D) (ps : List D) (dfs : Fnd) {l : List Pm} (h1 : 1 ≤ l.length) (h2 : l.length ≤ 4) {many more : Nat} (h3 : many < 2) (h4 : more < 3) :
    gSs (mkP (cal (ovD Vd Tb own (argF many t)) 9)) (takeP 2 e377.p) { loc := [some (.dat (wD [(.str K.A, trD K.A ps dfs)] (imL 0 l ++ [lastI l.length]))), some (.dat (.int (.ofNat many))), some (.dat name), some (.dat own), some (.dat (.tup (argF many t ++ moreF more x y))), none, none, none, none, none, none, none, none, none, none], objs := [], ext := none } H (fun _ _ => E)
    = dueR Vd Tb own (argF many t) (fun acc => H .next (st377 (wD [(.str K.A, trD K.A ps dfs)] (imL 0 l ++ [lastI l.length])) many name own (.tup (argF many t ++ moreF more x y)) (.tup (argF many t)) l.length acc)) 0 l [] := by
  have := run377_at H E Vd Tb own name t x y ps dfs h1 h2 h3 h4
  unfold run377 due377 at this
  exact this
theorem due_ok {z : Qs} (hz : z.Ok) {pl : List Pm} (h1 : 1 ≤ pl.length) (h2 : pl.length ≤ 4) (hv : VdL (VdM z.many) 0 pl) {more df : Nat} (h4 : more < 3) {name x y : D} (d : Nat) (hd : 20 ≤ d) {Q : V → List AObj → Option AObj → Prop} {E : Prop}
    (h : tl377 Q E (ovD (VdM z.many) z.Tb z.own z.as) (wP z.many (dfD df) pl) z.many name z.own (.tup (z.as ++ moreF more x y)) (.tup z.as) pl.length (tbL z.Tb 0 pl)) :
    CallOk d 377 [.dat (wP z.many (dfD df) pl), .dat (.int (.ofNat z.many)), .dat name, .dat z.own, .dat (.tup (z.as ++ moreF more x y))] none Q E := by
  refine (ovD_ok hz).body 9 he377 hd ?_
  rw [enter377, gSs_cut _ 2]
  unfold tl377 at h
  unfold wP Qs.as at h ⊢
  rw [cut377 _ E (VdM z.many) z.Tb z.own name z.t x y (psD z.many) (dfD df) h1 h2 hz.many h4]
  refine dueR_ok _ _ _ _ pl 0 [] hv ?_
  rw [List.nil_append]
  exact h
theorem own_Own {z : Qs} (hz : z.Ok) : Own z.own := ⟨z.o, z.c, z.c2, hz.o, hz.c, hz.c2, rfl⟩
theorem ovF_ok {z : Qs} (hz : z.Ok) {pl : List Pm} (h1 : 1 ≤ pl.length) (h2 : pl.length ≤ 4) (hv : VdL (VdM z.many) 0 pl) {df : Nat} : OvOk 35 (ovF (wP z.many (dfD df) pl) z.own z.as Own (fitL z.M z.Nd (dbeq z.c tyB) 0 pl)) := by
  have o1 : OvOk 35 (addO ovN 113 (ttSp Own)) := (OvOk.none 35).add (Nat.le_refl _) fun d hd as ext Q E h => txt_ok d (by omega) as ext Q E h
  refine o1.add (Nat.le_refl _) fun d hd as ext Q E h => ?_
  replace h := s5_iff h
  obtain ⟨v, tr, x, T, bs, rfl, rfl, h⟩ := h
  obtain ⟨⟨q1, q2, q3, q4, q5⟩, h⟩ := h
  rw [q1, q2, q3, q4, q5]
  exact sel_ok (o := z.o) (c := z.c) (c2 := z.c2) d hd h1 h2 hz.c (fun x hx => imOk hz hx) hv h
theorem res_none {z : Qs} (hz : z.Ok) {pl : List Pm} (h1 : 1 ≤ pl.length) (h2 : pl.length ≤ 4) (hv : VdL (VdM z.many) 0 pl) {more df : Nat} (h4 : more < 3) {name x y : D} (hl : (fitL z.M z.Nd (dbeq z.c tyB) 0 pl) = [] ∨ ∃ a b r, fitL z.M z.Nd (dbeq z.c tyB) 0 pl = a :: b :: r) (d : Nat) (hd : 45 ≤ d) {Q : V → List AObj → Option AObj → Prop} {E : Prop} (h : E) :
    CallOk d 213 [.dat (wP z.many (dfD df) pl), .dat (refD name z.own (z.as ++ moreF more x y))] none Q E := by
  have o := ovF_ok hz h1 h2 hv (df := df)
  refine o.run 10 hd ?_
  rcases hl with e | ⟨a, b, r, e⟩
  · rw [e]
    have q := alls3_at (run213_0 Q E Own z.own name z.t x y (imL 0 pl ++ [lastI pl.length]) (dfD df)) hz.many h4
    unfold run213 at q
    unfold wP Qs.as
    rw [q]
    exact ⟨⟨rfl, rfl, rfl, rfl, rfl⟩, noR_ok (own_Own hz) h⟩
  · rw [e]
    have q := alls3_at (run213_2 Q E Own z.own name z.t x y (imL 0 pl ++ [lastI pl.length]) (dfD df) a b r) hz.many h4
    unfold run213 at q
    unfold wP Qs.as
    rw [q]
    exact ⟨⟨rfl, rfl, rfl, rfl, rfl⟩, h⟩
theorem cut213 (H : AFlow → St → Prop) (E : Prop) (Tt : D → Prop) (own name t x y : D) (dfs f : Fnd) {l : List Pm} (h1 : 1 ≤ l.length) (h2 : l.length ≤ 4) {n many more : Nat} (hn : n < l.length) (h3 : many < 2) (h4 : more < 3) :
    gSs (mkP (cal (ovF (wP many dfs l) own (argF many t) Tt [(n, f)]) 9)) (takeP 7 e213.p) { loc := [some (.dat (wP many dfs l)), some (.dat (refD name own (argF many t ++ moreF more x y))), none, none, none, none, none, none, none, none, none, none, none, none, none, none, none, none], objs := [], ext := none } H (fun _ _ => E)
    = hdR H own name t x y dfs f l n many more := by
  have := hd213_at H E Tt own name t x y dfs f h1 h2 hn h3 h4
  unfold hd213 at this
  exact this
theorem res_one {z : Qs} (hz : z.Ok) {pl : List Pm} (h1 : 1 ≤ pl.length) (h2 : pl.length ≤ 4) (hv : VdL (VdM z.many) 0 pl) {more df j : Nat} (h4 : more < 3) {x y : D} {n s i a m : Nat} {u v sm sn hd' : D} {as' : List D} (hl : fitL z.M z.Nd (dbeq z.c tyB) 0 pl = [(n, ffF s u v)]) (hn : n < pl.length)
    (hp : (pAt pl n).im n = imD m (imNames (oS s) a) K.A as' hd' (msF sm sn i)) (hs : s < 5) (ha : a < 2) (hi : i < 4) (hj : j < 3) (hdf : df < 3) (d : Nat) (hd : 45 ≤ d) {Q : V → List AObj → Option AObj → Prop} {E : Prop}
    (h : rs213 Q E Own z.own z.t x y u v sm sn s z.many more i j df) :
    CallOk d 213 [.dat (wP z.many (dfD df) pl), .dat (refD (nmF j) z.own (z.as ++ moreF more x y))] none Q E := by
  have o := ovF_ok hz h1 h2 hv (df := df)
  rw [hl] at o
  refine o.body 9 he213 hd ?_
  rw [enter213, gSs_cut _ 7]
  unfold Qs.as
  rw [cut213 _ E Own z.own (nmF j) z.t x y (dfD df) (ffF s u v) h1 h2 hn hz.many h4]
  refine ⟨⟨rfl, rfl, rfl, rfl, rfl⟩, ?_⟩
  rw [hp]
  have q : tl213 Q E Own (wP z.many (dfD df) pl) (wP z.many (dfD df) pl) (refD (nmF j) z.own (argF z.many z.t ++ moreF more x y)) z.own (.tup (argF z.many z.t ++ moreF more x y)) z.t x y u v sm sn hd' as' [(n, ffF s u v)] n m a s z.many more i j df = rs213 Q E Own z.own z.t x y u v sm sn s z.many more i j df := by
    rcases two_of11 ha with rfl | rfl
    · exact alls6_at (tl213_0 ..) hs hz.many h4 hi hj hdf
    · exact alls6_at (tl213_1 ..) hs hz.many h4 hi hj hdf
  unfold tl213 at q
  dsimp only
  rw [q]
  exact h
end Mine
namespace Mine
open PySem PySem.W PyProof.Rows PySem.Calls PySem.Spec
theorem lkD_ok {k : Nat} : ∀ {f : Fnd} {n r : D}, (∀ p ∈ f, Ok k p.2) → lkD f n = some r → Ok k r
  | [], _, _, _, h => by cases h
  | (a, b) :: f, n, r, hf, h => by
    unfold lkD at h
    split at h
    · cases h; exact hf _ (List.mem_cons_self ..)
    · exact lkD_ok (fun p hp => hf p (List.mem_cons_of_mem _ hp)) h
theorem resF_ok {vals : Option (List D)} {own : D} {as more : List D} {ms dfs : Fnd} {name r : D} (hv : ∀ vs, vals = some vs → ∀ x ∈ vs, Ok 8 x) (ho : Ok 8 own) (ha : ∀ x ∈ as, Ok 8 x) (hm : ∀ x ∈ more, Ok 8 x) (h1 : ∀ p ∈ ms, Ok 8 p.2) (h2 : ∀ p ∈ dfs, Ok 8 p.2)
    (h : resF vals own as more ms dfs name = some r) : Ok 20 r := by
  unfold resF at h
  cases vals with
  | none => cases h
  | some vs =>
    have hvs := hv vs rfl
    dsimp only at h
    cases e : lkD ms name with
    | some s =>
      rw [e] at h
      cases h
      refine (Ok.tup (k := 9) (.cons ((Ok.str rfl).w _) (.cons ((lkD_ok h1 e).w _) (.cons (.tup fun x hx => ?_) .nil)))).w _
      rcases List.mem_append.mp hx with q | q
      · exact hvs x q
      · exact hm x q
    | none =>
      rw [e] at h
      cases e2 : lkD dfs name with
      | some s =>
        rw [e2] at h
        cases h
        refine (Ok.tup (k := 9) (.cons ((Ok.str rfl).w _) (.cons ((lkD_ok h2 e2).w _) (.cons (.tup (.cons ho fun x hx => ?_)) .nil)))).w _
        rcases List.mem_append.mp hx with q | q
        · exact ha x q
        · exact hm x q
      | none => rw [e2] at h; cases h
theorem own_ok {z : Qs} (hz : z.Ok) : Ok 8 z.own := by
  have h1 := hz.c.ok
  have h2 := hz.c2.ok
  unfold Qs.own
  match z.o with
  | 0 => exact (Ok.tup (k := 0) (.cons (.str rfl) (.cons (.str rfl) .nil))).w _
  | 1 => exact (Ok.tup (k := 0) (.cons (.str rfl) .nil)).w _
  | 2 => exact (okX h1).w _
  | 3 => exact (okW h1 h2).w _
  | 4 => exact (Ok.tup (k := 1) (.cons ((Ok.str rfl).w _) (.cons ((Ok.str rfl).w _) (.cons ((Ok.tup (k := 0) .nil).w _) (.cons ((Ok.tup (k := 0) .nil).w _) .nil))))).w _
  | o + 5 => exact (Ok.tup (k := 0) (.cons (.str rfl) (.cons (.str rfl) .nil))).w _
theorem as_ok {z : Qs} (hz : z.Ok) : ∀ x ∈ z.as, Ok 8 x := by
  have h1 := hz.t.ok
  unfold Qs.as
  match z.many with
  | 0 => exact Ok.nil
  | m + 1 => exact Ok.cons (h1.w _) Ok.nil
theorem more_ok {n : Nat} {x y : D} (hx : Clo x) (hy : Clo y) : ∀ a ∈ moreF n x y, Ok 8 a := by
  match n with
  | 0 => exact Ok.nil
  | 1 => exact Ok.cons (hx.ok.w _) Ok.nil
  | n + 2 => exact Ok.cons (hx.ok.w _) (Ok.cons (hy.ok.w _) Ok.nil)
theorem dfs_ok (n : Nat) : ∀ p ∈ dfD n, Ok 8 p.2 := by
  match n with
  | 0 => nofun
  | 1 => intro p hp; simp only [dfD, List.mem_cons, List.not_mem_nil, or_false] at hp; subst hp; exact (Ok.str rfl).w _
  | n + 2 =>
    intro p hp
    simp only [dfD, List.mem_cons, List.not_mem_nil, or_false] at hp
    rcases hp with rfl | rfl <;> exact (Ok.str rfl).w _
theorem ms_ok {a b : D} (ha : Ok 0 a) (hb : Ok 0 b) (n : Nat) : ∀ p ∈ msF a b n, Ok 8 p.2 := by
  intro p hp
  match n, hp with
  | 0, hp => simp only [msF, List.mem_cons, List.not_mem_nil, or_false] at hp; subst hp; exact ha.w _
  | 1, hp =>
    simp only [msF, List.mem_cons, List.not_mem_nil, or_false] at hp
    rcases hp with rfl | rfl
    · exact ha.w _
    · exact hb.w _
  | 2, hp => cases hp
  | n + 3, hp => simp only [msF, List.mem_cons, List.not_mem_nil, or_false] at hp; subst hp; exact hb.w _
theorem vl_ok {s : Nat} {u v : D} (hu : Ok 3 u) (hv : Ok 3 v) : ∀ vs, vlF s u v = some vs → ∀ x ∈ vs, Ok 8 x := by
  intro vs h
  match s, h with
  | 0, h => cases h; exact Ok.nil
  | 1, h => cases h
  | 2, h => cases h; exact Ok.cons (hu.w _) Ok.nil
  | 3, h => cases h; exact Ok.cons (hu.w _) Ok.nil
  | s + 4, h => cases h; exact Ok.cons (hv.w _) (Ok.cons (hu.w _) Ok.nil)
theorem both {z : Qs} (hz : z.Ok) {pl : List Pm} (h1 : 1 ≤ pl.length) (h2 : pl.length ≤ 4) (hp : PmL z.many 0 pl) {more df j : Nat} (h4 : more < 3) (hj : j < 3) (hdf : df < 3) {x y : D} (hx : Clo x) (hy : Clo y) :
    ∃ out : Option D, (∀ r, out = some r → Ok 20 r) ∧
      (∀ d, 45 ≤ d → ∀ (Q : V → List AObj → Option AObj → Prop) (E : Prop), optE out (q0 Q) E → CallOk d 213 [.dat (wP z.many (dfD df) pl), .dat (refD (nmF j) z.own (z.as ++ moreF more x y))] none Q E) ∧
      (∀ d, 20 ≤ d → ∀ (Q : V → List AObj → Option AObj → Prop) (E : Prop), optE out (q0 Q) (q0 Q (.str K.fault)) → CallOk d 377 [.dat (wP z.many (dfD df) pl), .dat (.int (.ofNat z.many)), .dat (nmF j), .dat z.own, .dat (.tup (z.as ++ moreF more x y))] none Q E) := by
  have hv : VdL (VdM z.many) 0 pl := hp.vd (by omega)
  have al := agreeL hz (P := pAt pl) (N := pl.length) pl 0 (fun i _ => by rw [Nat.zero_add]) (by omega) hv
  have due := fun (d : Nat) (hd : 20 ≤ d) (Q : V → List AObj → Option AObj → Prop) (E : Prop) h => due_ok hz h1 h2 hv (name := nmF j) (x := x) (y := y) (df := df) h4 d hd (Q := Q) (E := E) h
  have no := fun h (d : Nat) (hd : 45 ≤ d) (Q : V → List AObj → Option AObj → Prop) (E : Prop) (e : E) => res_none hz h1 h2 hv (name := nmF j) (x := x) (y := y) (df := df) h4 h d hd (Q := Q) e
  revert al
  cases e1 : fitL z.M z.Nd (dbeq z.c tyB) 0 pl with
  | nil =>
    cases e2 : tbL z.Tb 0 pl with
    | cons b m => intro al; cases al
    | nil =>
      intro _
      refine ⟨none, nofun, no (.inl e1), fun d hd Q E h => due d hd Q E ?_⟩
      rw [e2]
      unfold wP
      rw [tl377_0]; exact h
  | cons a l =>
    cases e2 : tbL z.Tb 0 pl with
    | nil => intro al; cases al
    | cons b m =>
      intro al
      cases al with
      | cons hit r =>
        cases r with
        | cons hit2 r2 =>
          refine ⟨none, nofun, no (.inr ⟨_, _, _, e1⟩), fun d hd Q E h => due d hd Q E ?_⟩
          rw [e2]
          have hlen : ∀ {n : Nat} {l : List Pm}, (tbL z.Tb n l).length ≤ l.length := by
            intro n l
            induction l generalizing n with
            | nil => exact Nat.le_refl _
            | cons p l ih =>
              unfold tbL
              split
              · simpa using ih
              · exact Nat.le_succ_of_le ih
          have hl := hlen (n := 0) (l := pl)
          rw [e2] at hl
          unfold wP
          rename_i b2 _ m2
          match m2, hl with
          | [], _ => rw [tl377_2]; exact h
          | [b3], _ => rw [tl377_3]; exact h
          | [b3, b4], _ => rw [tl377_4]; exact h
          | _ :: _ :: _ :: _, hl => simp at hl; omega
        | nil =>
          obtain ⟨n, f⟩ := a
          obtain ⟨ms, t⟩ := b
          obtain ⟨q, s, u, v, g1, g2, g3, g4, g5, g6, g7, g8, g9, g10, g11⟩ := hit
          dsimp only at g1 g3 g9 g10 g11
          obtain ⟨k, sm, sn, hk, om, on, ek⟩ := imMs_F n q.i q.j (by omega)
          subst g9
          refine ⟨resF (vlF s u v) z.own z.as (moreF more x y) (msF sm sn k) (dfD df) (nmF j), fun r hr => resF_ok (vl_ok g7 g8) (own_ok hz) (as_ok hz) (more_ok hx hy) (ms_ok om on k) (dfs_ok df) hr, fun d hd Q E h => ?_, fun d hd Q E h => due d hd Q E ?_⟩
          · refine res_one hz h1 h2 hv h4 (s := s) (i := k) (a := q.a) (m := n) (sm := sm) (sn := sn) (hd' := imHead q.k) (as' := imArgs z.many q.k q.g) e1 g1 ?_ g4 g2.a hk hj hdf d hd ?_
            · rw [g3]
              unfold pmF Pm.im
              dsimp only
              rw [ek, g5]
            · unfold rs213
              revert h
              cases vlF s u v with
              | none => exact id
              | some vs =>
                dsimp only
                unfold Qs.as
                cases resF (some vs) z.own (argF z.many z.t) (moreF more x y) (msF sm sn k) (dfD df) (nmF j) with
                | some r => exact id
                | none => exact fun h => naR_ok (own_Own hz) h
          · rw [e2, g10, g11, ek]
            have q := alls6_at (tl377_1 Q E (ovD (VdM z.many) z.Tb z.own z.as) z.t x y z.c z.c2 u v sm sn (psD z.many) (imL 0 pl ++ [lastI pl.length]) pl.length) g4 hz.many h4 hk hj hdf
            unfold tl1 at q
            rw [g6] at q
            unfold wP Qs.as Qs.own
            unfold Qs.as Qs.own at q h
            rw [q]
            exact h
end Mine
namespace Mine
open PySem PySem.W PyProof.Rows PySem.Calls PySem.Spec
noncomputable def rSp (w rf : D) (out : Option D) : Sp := fun a ext Q E => s2 a ext fun v r => (v = w ∧ r = rf) ∧ optE out (fun r => Q (.dat r) [] none) E
section
variable (Q : V → List AObj → Option AObj → Prop) (E : Prop) (w rf a b c d e f g : D) (ts : List D) (out : Option D)
theorem mn_run : cal (addO ovN 213 (rSp w rf out)) 5 384 [.dat w, .dat rf] none Q E = ((w = w ∧ rf = rf) ∧ optE out (q0 Q) (q0 Q (.str K.fault))) := by kernel_rfl
theorem mn_fn : cal ovN 5 384 [.dat w, .dat (.tup [.str K.fn, a, .tup ts])] none Q E = q0 Q (.tup [.str K.fn, a, .tup ts]) := by kernel_rfl
noncomputable def nthD (l : List D) (i : Nat) : D := match nth l i with | some d => d | none => .none
theorem one_4 : cal ovT 5 334 [.dat .src, .dat (.lst [a, b, c, d])] none Q E = conjN 4 fun i => q0 Q (nthD [a, b, c, d] i) := by kernel_rfl
theorem one_7 : cal ovT 5 334 [.dat .src, .dat (.lst [a, b, c, d, e, f, g])] none Q E = conjN 7 fun i => q0 Q (nthD [a, b, c, d, e, f, g] i) := by kernel_rfl
end
theorem nthD_mem {l : List D} {i : Nat} (h : i < l.length) : nthD l i ∈ l := by
  induction l generalizing i with
  | nil => simp at h
  | cons a r ih =>
    cases i with
    | zero => exact List.mem_cons_self ..
    | succ i => exact List.mem_cons_of_mem _ (ih (by simpa using h))
noncomputable def is47 (n : Nat) : Bool := Nat.beq n 4 || Nat.beq n 7
noncomputable def lstD : D → Option (List D)
  | .lst l => some l
  | _ => none
theorem lstD_eq {d : D} {l : List D} (h : lstD d = some l) : d = .lst l := by
  cases d with
  | lst _ => exact Option.some.inj h ▸ rfl
  | _ => exact no h
theorem len_succ {α : Type} {l : List α} {n : Nat} (h : l.length = n + 1) : ∃ a r, l = a :: r ∧ r.length = n := by
  cases l with
  | nil => exact nomatch h
  | cons a r => exact ⟨a, r, rfl, Nat.succ.inj h⟩
theorem len_4 {α : Type} {l : List α} (h : l.length = 4) : ∃ a b c d, l = [a, b, c, d] := by
  replace h := len_succ h
  obtain ⟨a, _, rfl, h⟩ := h
  replace h := len_succ h
  obtain ⟨b, _, rfl, h⟩ := h
  replace h := len_succ h
  obtain ⟨c, _, rfl, h⟩ := h
  replace h := len_succ h
  obtain ⟨d, _, rfl, h⟩ := h
  exact ⟨a, b, c, d, by rw [List.eq_nil_of_length_eq_zero h]⟩
theorem len_7 {α : Type} {l : List α} (h : l.length = 7) : ∃ a b c d e f g, l = [a, b, c, d, e, f, g] := by
  replace h := len_succ h
  obtain ⟨a, _, rfl, h⟩ := h
  replace h := len_succ h
  obtain ⟨b, _, rfl, h⟩ := h
  replace h := len_succ h
  obtain ⟨c, _, rfl, h⟩ := h
  obtain ⟨d, e, f, g, rfl⟩ := len_4 h
  exact ⟨a, b, c, d, e, f, g, rfl⟩
noncomputable def oneSp : Sp := fun as ext Q _ => s2 as ext fun a b => srcK a (optK (lstD b) fun l => ifT (is47 l.length) (∀ x, x ∈ l → Q (.dat x) [] none))
theorem one_ok (d : Nat) (hd : 6 ≤ d) (args : List V) (ext : Option AObj) (Q : V → List AObj → Option AObj → Prop) (E : Prop) (h : oneSp args ext Q E) : CallOk d 334 args ext Q E := by
  replace h := s2_iff h
  obtain ⟨_, b, rfl, rfl, h⟩ := h
  replace h := srcK_iff h
  obtain ⟨rfl, h⟩ := h
  replace h := optK_iff h
  obtain ⟨l, e, h⟩ := h
  cases lstD_eq e
  replace h := ifT_iff h
  obtain ⟨e, h⟩ := h
  refine (ovT_ok).run 5 hd ?_
  rcases (Bool.or_eq_true _ _).mp e with e | e
  · obtain ⟨a, b, c, d, rfl⟩ := len_4 (Nat.eq_of_beq_eq_true e)
    rw [one_4]
    exact conjN_iff.mpr fun i hi => h _ (nthD_mem hi)
  · obtain ⟨a, b, c, d, e, f, g, rfl⟩ := len_7 (Nat.eq_of_beq_eq_true e)
    rw [one_7]
    exact conjN_iff.mpr fun i hi => h _ (nthD_mem hi)
noncomputable def Gives (N : Nat) (f : Addr) (args : List V) (r : D) : Prop := ∀ d, N ≤ d → ∀ (Q : V → List AObj → Option AObj → Prop) (E : Prop), Q (.dat r) [] none → CallOk d f args none Q E
noncomputable def gvSp (N : Nat) (f : Addr) : Sp := fun as ext Q _ => noX ext (∃ r, Gives N f as r ∧ Q (.dat r) [] none)
theorem gv_ok {N : Nat} {f : Addr} (d : Nat) (hd : N ≤ d) (args : List V) (ext : Option AObj) (Q : V → List AObj → Option AObj → Prop) (E : Prop) (h : gvSp N f args ext Q E) : CallOk d f args ext Q E := by
  replace h := noX_iff h
  obtain ⟨rfl, h⟩ := h
  obtain ⟨r, h1, h2⟩ := h
  exact h1 d hd Q E h2
noncomputable def ovG : Ov := addO (addO (addO (addO (addO ovT 348 closedSpec) 389 worldSpec) 334 oneSp) 384 (gvSp 52 384)) 377 (gvSp 52 377)
theorem ovG_ok : OvOk 52 (ovG) := by
  have o1 : OvOk 52 (addO ovT 348 closedSpec) := (ovT_ok).add (by omega) fun d hd as ext Q E h => closed_ok d (by omega) as ext Q E h
  have o2 : OvOk 52 (addO (addO ovT 348 closedSpec) 389 worldSpec) := o1.add (by omega) fun d hd as ext Q E h => world_ok d (by omega) as ext Q E h
  have o3 : OvOk 52 (addO (addO (addO ovT 348 closedSpec) 389 worldSpec) 334 oneSp) := o2.add (by omega) fun d hd as ext Q E h => one_ok d (by omega) as ext Q E h
  exact (o3.add (by omega) fun d hd as ext Q E h => gv_ok d hd as ext Q E h).add (by omega) fun d hd as ext Q E h => gv_ok d hd as ext Q E h
noncomputable def fnD (nm : D) (ts : List D) : D := .tup [.str K.fn, nm, .tup ts]
noncomputable def turnR (many : Nat) (w : D) (Q : D → Prop) (k : Prop) : Prop := ∀ c, Clo c → ∀ c2, Clo c2 → ∀ own, own ∈ [tyU, tyB, tyX c, tyD K.W [c, c2], tyD K.S [], tyX tyB, tyI K.i8] → ∀ t, t ∈ [tyB, tyB, c, c2] → conjN 3 fun mo => ∀ nm, nm ∈ [.str K.m, .str K.m, .str K.n, .str K.o] →
  ∃ r, Gives 52 384 [.dat w, .dat (refD nm own (argF many t ++ moreF mo c c2))] r ∧ ∃ r', Gives 52 377 [.dat w, .dat (.int (.ofNat many)), .dat nm, .dat own, .dat (.tup (argF many t ++ moreF mo c c2))] r' ∧ eqD r r' fun b => branch (negB b) (Q (.bool false))
    (∃ r, Gives 52 384 [.dat w, .dat (fnD nm (argF many t ++ moreF mo c c2))] r ∧ eqD r (fnD nm (argF many t ++ moreF mo c c2)) fun b => branch (negB b) (Q (.bool false)) k)
noncomputable def meantR (Q : D → Prop) : Prop := conjN 2 fun many => ∀ df l, 1 ≤ l.length → l.length ≤ 4 → ImL many 0 l → turnR many (wF many df l) Q (turnR many (wF many df l) Q (turnR many (wF many df l) Q (Q (.bool true))))
theorem meant_run (Q : V → List AObj → Option AObj → Prop) (E : Prop) : cal (ovG) 6 396 [.dat .src] none Q E = meantR (q0 Q) := by kernel_rfl
end Mine
namespace Mine
open PySem PySem.W PyProof.Rows PySem.Calls PySem.Spec
theorem ok_fault : Ok 20 (.str K.fault) := (Ok.str rfl).w _
theorem turn_one {z : Qs} (hz : z.Ok) {pl : List Pm} (h1 : 1 ≤ pl.length) (h2 : pl.length ≤ 4) (hp : PmL z.many 0 pl) {more df j : Nat} (h4 : more < 3) (hj : j < 3) (hdf : df < 3) {x y : D} (hx : Clo x) (hy : Clo y) :
    ∃ r, Ok 20 r ∧ Gives 52 384 [.dat (wP z.many (dfD df) pl), .dat (refD (nmF j) z.own (z.as ++ moreF more x y))] r ∧ Gives 52 377 [.dat (wP z.many (dfD df) pl), .dat (.int (.ofNat z.many)), .dat (nmF j), .dat z.own, .dat (.tup (z.as ++ moreF more x y))] r := by
  obtain ⟨out, g1, g2, g3⟩ := both hz h1 h2 hp h4 hj hdf hx hy
  have ov : OvOk 45 (addO ovN 213 (rSp (wP z.many (dfD df) pl) (refD (nmF j) z.own (z.as ++ moreF more x y)) out)) := (OvOk.none 45).add (Nat.le_refl _) fun d hd as ext Q E h => by
    replace h := s2_iff h
    obtain ⟨v, r, rfl, rfl, h⟩ := h
    obtain ⟨⟨q1, q2⟩, h⟩ := h
    rw [q1, q2]
    exact g2 d hd Q E h
  have key : ∀ (r : D), (∀ (Q : V → List AObj → Option AObj → Prop), q0 Q r → optE out (q0 Q) (q0 Q (.str K.fault))) → Gives 52 384 [.dat (wP z.many (dfD df) pl), .dat (refD (nmF j) z.own (z.as ++ moreF more x y))] r ∧ Gives 52 377 [.dat (wP z.many (dfD df) pl), .dat (.int (.ofNat z.many)), .dat (nmF j), .dat z.own, .dat (.tup (z.as ++ moreF more x y))] r := by
    intro r hr
    constructor
    · intro d hd Q E hq
      refine ov.run 5 (by omega) ?_
      rw [mn_run]
      exact ⟨⟨rfl, rfl⟩, hr Q hq⟩
    · exact fun d hd Q E hq => g3 d (by omega) Q E (hr Q hq)
  cases out with
  | none => exact ⟨_, ok_fault, key _ fun Q h => h⟩
  | some r => exact ⟨r, g1 r rfl, key r fun Q h => h⟩
theorem own_of {many : Nat} (hm : many < 2) {t c c2 own : D} (ht : Clo t) (hc : Clo c) (hc2 : Clo c2) (h : own ∈ [tyU, tyB, tyX c, tyD K.W [c, c2], tyD K.S [], tyX tyB, tyI K.i8]) : ∃ z : Qs, z.Ok ∧ z.many = many ∧ z.t = t ∧ z.own = own := by
  simp only [List.mem_cons, List.not_mem_nil, or_false] at h
  rcases h with rfl | rfl | rfl | rfl | rfl | rfl | rfl
  · exact ⟨⟨many, 0, t, c, c2⟩, ⟨hm, by simp, ht, hc, hc2⟩, rfl, rfl, rfl⟩
  · exact ⟨⟨many, 1, t, c, c2⟩, ⟨hm, by simp, ht, hc, hc2⟩, rfl, rfl, rfl⟩
  · exact ⟨⟨many, 2, t, c, c2⟩, ⟨hm, by simp, ht, hc, hc2⟩, rfl, rfl, rfl⟩
  · exact ⟨⟨many, 3, t, c, c2⟩, ⟨hm, by simp, ht, hc, hc2⟩, rfl, rfl, rfl⟩
  · exact ⟨⟨many, 4, t, c, c2⟩, ⟨hm, by simp, ht, hc, hc2⟩, rfl, rfl, rfl⟩
  · exact ⟨⟨many, 2, t, tyB, c2⟩, ⟨hm, by simp, ht, cl_B, hc2⟩, rfl, rfl, rfl⟩
  · exact ⟨⟨many, 5, t, c, c2⟩, ⟨hm, by simp, ht, hc, hc2⟩, rfl, rfl, rfl⟩
theorem name_of {nm : D} (h : nm ∈ [D.str K.m, .str K.m, .str K.n, .str K.o]) : ∃ j, j < 3 ∧ nmF j = nm := by
  simp only [List.mem_cons, List.not_mem_nil, or_false] at h
  rcases h with rfl | rfl | rfl | rfl
  · exact ⟨0, by omega, rfl⟩
  · exact ⟨0, by omega, rfl⟩
  · exact ⟨1, by omega, rfl⟩
  · exact ⟨2, by omega, rfl⟩
theorem nm_ok {j : Nat} : Ok 0 (nmF j) := by
  match j with
  | 0 => exact .str rfl
  | 1 => exact .str rfl
  | j + 2 => exact .str rfl
theorem fn_gives (w nm : D) (ts : List D) : Gives 52 384 [.dat w, .dat (fnD nm ts)] (fnD nm ts) := by
  intro d hd Q E h
  refine (OvOk.none 0).run 5 (by omega) ?_
  unfold fnD
  rw [mn_fn]
  exact h
theorem turnR_ok {many : Nat} (hm : many < 2) {pl : List Pm} (h1 : 1 ≤ pl.length) (h2 : pl.length ≤ 4) (hp : PmL many 0 pl) {df : Nat} (hdf : df < 3) {Q : D → Prop} {k : Prop} (hk : k) : turnR many (wP many (dfD df) pl) Q k := by
  intro c hc c2 hc2 own ho t ht
  refine conjN_iff.mpr fun mo hmo nm hnm => ?_
  have ht' : Clo t := by
    simp only [List.mem_cons, List.not_mem_nil, or_false] at ht
    rcases ht with rfl | rfl | rfl | rfl
    · exact cl_B
    · exact cl_B
    · exact hc
    · exact hc2
  obtain ⟨j, hj, rfl⟩ := name_of hnm
  obtain ⟨z, hz, rfl, e2, rfl⟩ := own_of hm ht' hc hc2 ho
  obtain ⟨r, g1, g2, g3⟩ := turn_one hz h1 h2 hp hmo hj hdf hc hc2
  unfold Qs.as at g2 g3
  rw [e2] at g2 g3
  refine ⟨r, g2, r, g3, eqD_ok g1 g1 ?_⟩
  rw [dbeq_refl 20 r (g1 20 (Nat.le_refl _))]
  have hts : ∀ x ∈ argF z.many t ++ moreF mo c c2, Ok 8 x := by
    intro x hx
    rcases List.mem_append.mp hx with q | q
    · exact as_ok hz x (by unfold Qs.as; rw [e2]; exact q)
    · exact more_ok hc hc2 x q
  have of : Ok 20 (fnD (nmF j) (argF z.many t ++ moreF mo c c2)) := (Ok.tup (k := 9) (.cons ((Ok.str rfl).w _) (.cons (nm_ok.w _) (.cons (.tup hts) .nil)))).w _
  refine ⟨_, fn_gives _ _ _, eqD_ok of of ?_⟩
  rw [dbeq_refl 20 _ (of 20 (Nat.le_refl _))]
  exact hk
theorem df_cut (df : Nat) : ∃ df', df' < 3 ∧ dfD df = dfD df' := by
  match df with
  | 0 => exact ⟨0, by omega, rfl⟩
  | 1 => exact ⟨1, by omega, rfl⟩
  | df + 2 => exact ⟨2, by omega, rfl⟩
theorem meantR_ok {Q : D → Prop} (h : Q (.bool true)) : meantR Q := by
  refine conjN_iff.mpr fun many hm df l h1 h2 hl => ?_
  obtain ⟨pl, rfl, e, hp⟩ := hl.pm
  obtain ⟨df', hd, e2⟩ := df_cut df
  have ew : wF many df (imL 0 pl) = wP many (dfD df') pl := by
    unfold wF wP
    rw [e2, e]
  rw [ew]
  have go : ∀ {k : Prop}, k → turnR many (wP many (dfD df') pl) Q k := fun hk => turnR_ok hm (by omega) (by omega) hp hd hk
  exact go (go (go h))
theorem meant_ok (d : Nat) (hd : 58 ≤ d) (args : List V) (ext : Option AObj) (Q : V → List AObj → Option AObj → Prop) (E : Prop) (h : trueSpec args ext Q E) : CallOk d 396 args ext Q E := by
  replace h := s1_iff h
  obtain ⟨_, rfl, rfl, h⟩ := h
  replace h := srcK_iff h
  obtain ⟨rfl, h⟩ := h
  refine (ovG_ok).run 6 hd ?_
  rw [meant_run]
  exact meantR_ok h
end Mine
namespace Mine
open PySem PySem.W PyProof.Rows PySem.Calls PySem.Spec
noncomputable def e320L : Fn := { e320 with keep := true }
noncomputable def poolA (v : Int) : Int := imax v (-1 - v) * bint (negB (iltb (imax v (-1 - v)) 1000000000000000000))
noncomputable def poolB (v : Int) : Int := (((imax v (-1 - v)).fmod 2147483629 + 7919 * 0 * 0 + 31 * 0 + 17) * 48271).fmod 2147483647
noncomputable def poolR (v : Int) (Q : V → List AObj → Option AObj → Prop) : Prop :=
  (2147483629 : Int) ≠ 0 ∧ ((7919 : Int).natAbs < 2 ^ 64 ∨ (0 : Int).natAbs < 2 ^ 64) ∧ (((7919 : Int) * 0).natAbs < 2 ^ 64 ∨ (0 : Int).natAbs < 2 ^ 64) ∧ ((31 : Int).natAbs < 2 ^ 64 ∨ (0 : Int).natAbs < 2 ^ 64) ∧
  (((imax v (-1 - v)).fmod 2147483629 + 7919 * 0 * 0 + 31 * 0 + 17).natAbs < 2 ^ 64 ∨ (48271 : Int).natAbs < 2 ^ 64) ∧ (2147483647 : Int) ≠ 0 ∧ ((10 : Int) = 10 ∧ (18 : Int) = 18) ∧
  ((imax v (-1 - v)).natAbs < 2 ^ 64 ∨ (bint (negB (iltb (imax v (-1 - v)) 1000000000000000000))).natAbs < 2 ^ 64) ∧ Q (.obj 0) [.list [.dat (.int (poolA v)), .dat (.int (poolB v))]] none
section
variable (Q : V → List AObj → Option AObj → Prop) (E : Prop) (v : Int) (rest : List D)
theorem pool_0 : runF noC e320L [.dat (.lst []), .dat (.int 0)] none Q E = poolR 0 Q := by kernel_rfl
theorem pool_1 : runF noC e320L [.dat (.lst (.int v :: rest)), .dat (.int 0)] none Q E = small (len' (dats (.int v :: rest))) (small (len' (dats (.int v :: rest))) (poolR v Q)) := by kernel_rfl
end
inductive PoolQ : V → List AObj → Option AObj → Prop
  | mk (a b : Int) (h1 : 0 ≤ a) (h2 : 0 ≤ b) (h3 : b < 2147483647) : PoolQ (.obj 0) [.list [.dat (.int a), .dat (.int b)]] none
theorem imax_nn (v : Int) : 0 ≤ imax v (-1 - v) := by
  unfold imax
  cases h : iltb v (-1 - v) with
  | true => rw [iltb_eq] at h; have := of_decide_eq_true h; dsimp only; omega
  | false => rw [iltb_eq] at h; have := of_decide_eq_false h; dsimp only; omega
theorem bint_01 (b : Bool) : 0 ≤ bint b ∧ (bint b).natAbs < 2 ^ 64 := by cases b <;> exact ⟨by decide, by decide⟩
theorem poolR_ok (v : Int) : poolR v PoolQ :=
  ⟨by decide, .inl (by decide), .inl (by decide), .inl (by decide), .inr (by decide), by decide, ⟨rfl, rfl⟩, .inr (bint_01 _).2, ⟨_, _, Int.mul_nonneg (imax_nn v) (bint_01 _).1, Int.fmod_nonneg_of_pos _ (by decide), Int.fmod_lt_of_pos _ (by decide)⟩⟩
theorem pool_ok (d : Nat) (ns : List Int) (hn : ns.length ≤ 63) : CallOk (d + 1) 320 [.dat (.lst (ns.map D.int)), .dat (.int 0)] none PoolQ False := by
  refine runF_ok (e := e320L) (tb_is (f := 320) (e := e320) rfl) (call := noC) (fun _ _ _ _ _ h => h.elim) ?_
  cases ns with
  | nil => show runF noC e320L [.dat (.lst []), .dat (.int 0)] none PoolQ False; rw [pool_0]; exact poolR_ok 0
  | cons v r =>
    show runF noC e320L [.dat (.lst (.int v :: r.map D.int)), .dat (.int 0)] none PoolQ False
    rw [pool_1]
    have e : len' (dats (.int v :: r.map D.int)) ≤ 100000 := by
      rw [len'_eq, dats_eq, List.length_map, List.length_cons, List.length_map]; exact Nat.le_trans hn (by decide)
    exact small_of e (small_of e (poolR_ok v))
noncomputable def none11 : List (Option V) := nones 11
noncomputable def st0 (s : D) : St := { loc := some (.dat s) :: none :: none11, objs := [], ext := none }
noncomputable def st1 (s : D) (a b : Int) : St := { loc := some (.dat s) :: some (.obj 0) :: none11, objs := [.list [.dat (.int a), .dat (.int b)]], ext := none }
noncomputable def stT (s : D) : St := { loc := some (.dat s) :: some (.dat .src) :: none11, objs := [.fz (.raw .none)], ext := none }
theorem pool_args (s : D) (G : List V → St → Prop) (E : Bool → St → Prop) : gEs (mkP noC) (.cons (.loc 0) (.cons (.cst (.int 0)) .nil)) (st0 s) G E = G [.dat s, .dat (.int 0)] (st0 s) := by kernel_rfl
inductive First (s : D) (fl : AFlow) (st : St) : Prop
  | mk (a b : Int) (h1 : 0 ≤ a) (h2 : 0 ≤ b) (h3 : b < 2147483647) (e1 : fl = .next) (e2 : st = st1 s a b)
section
variable {c : Lc} {vs : List Value} {ns : List Int} {d : Nat}
theorem call_live (hd : c.R.d = d + 1) (hn : ns.length ≤ 63) (hst : c.st = st0 (.lst (ns.map D.int))) (hρ : c.ρ = []) (rs : c.reps vs [.dat (.lst (ns.map D.int)), .dat (.int 0)]) {Q : V → St → Prop}
    (hq : ∀ a b, 0 ≤ a → 0 ≤ b → b < 2147483647 → Q (.obj 0) { c.st with objs := [.list [.dat (.int a), .dat (.int b)]] }) {E : Bool → St → Prop} : c.W relV (call (.ref 320) vs) Q E := by
  obtain ⟨v1, _, rfl, r1, v2, _, rfl, r2, rfl⟩ := rs
  refine wpAny_mono (wpAny_call (pool_ok d ns hn c.cc [v1, v2] none hd trivial (.cons r1 (.cons r2 .nil)))) (fun v s' z => ?_) fun e s' z => z.rec fun _ _ _ _ _ _ q => q.2.2.elim
  obtain ⟨R, A, s, ρ, st, hA, S⟩ := c
  cases hst
  cases hρ
  obtain ⟨r, out, ex, ρo, q, B⟩ := z
  obtain ⟨a, b, h1, h2, h3⟩ := q
  have F : ∀ x o, BackF R [] [] [.list [.dat (.int a), .dat (.int b)]] ρo s'.heap x o → vwOf X R ([] ++ ρo) ([] ++ [.list [.dat (.int a), .dat (.int b)]]) s'.heap x o := fun x o f => ⟨fun m => f.1 ((List.mem_append.mp m).elim (fun m => ((own_app (os := []) rfl rfl).mp m).elim (fun m => List.mem_append_left _ (List.mem_append_left _ m)) fun m => List.mem_append_right _ m) fun m => List.mem_append_left _ (List.mem_append_right _ m)), f.2⟩
  have q := S.after (os1 := []) (ex' := none) rfl rfl B.keep B.src (fun _ e => nomatch e) rfl rfl B.len B.new B.nd (fun i o e => no e) (fun i o e => (B.objs i o e).imp fun x g => ⟨g.1, objRep_data g.2 (by cases i with | zero => cases e; rfl | succ i => exact no e) F⟩) fun o e => no e
  exact ⟨.obj 0, _, _, q.1, ⟨q.2, fun i a e => no e, B.same⟩, B.rep, hq a b h1 h2 h3⟩
end
theorem ints_any {P : Params} {src src' : Option Addr} {F F' : Vw} {ns : List Int} : ∀ {vs : List Value}, DReps P src F vs (ns.map D.int) → DReps P src' F' vs (ns.map D.int) := by
  induction ns with
  | nil => exact fun h => h
  | cons n ns ih => exact fun h => h.imp fun _ h => h.imp fun _ h => ⟨h.1, h.2.1, ih h.2.2⟩
noncomputable def withSrc (R : Rn) (y : Addr) : Rn := { R with src := some y }
section
variable {R : Rn} {y : Addr} {ns : List Int} {a b : Int} {h : Heap}
theorem own_sw (hx : R.src = none) {q : Addr} : q ∈ ownOf X (withSrc R y) [y] (stT (.lst (ns.map D.int))).objs ↔ q ∈ ownOf X R [y] (st1 (.lst (ns.map D.int)) a b).objs := by
  rw [mem_own, mem_own, hx]
  show (some y = some q ∨ q ∈ R.wr ∨ R.xa = some q ∨ q ∈ ([] : List Addr)) ↔ (none = some q ∨ q ∈ R.wr ∨ R.xa = some q ∨ q ∈ [y])
  rw [List.mem_singleton]
  exact ⟨fun m => .inr (m.elim (fun e => .inr (.inr (Option.some.inj e).symm)) fun m => m.imp id fun m => m.imp id nofun), fun m => m.elim nofun fun m => m.elim (fun m => .inr (.inl m)) fun m => m.elim (fun m => .inr (.inr (.inl m))) fun e => .inl (congrArg _ e.symm)⟩
theorem sat_src (hx : R.src = none) (h1 : 0 ≤ a) (h2 : 0 ≤ b) (h3 : b < 2147483647) (S : Sat X R [y] (st1 (.lst (ns.map D.int)) a b) h) : Sat X (withSrc R y) [y] (stT (.lst (ns.map D.int))) h := by
  have ow : ∀ {q : Addr}, q ∈ ownOf X (withSrc R y) [y] (stT (.lst (ns.map D.int))).objs ↔ q ∈ ownOf X R [y] (st1 (.lst (ns.map D.int)) a b).objs := own_sw hx
  have owh : ∀ {q : Addr}, q ∈ ownOf X (withSrc R y) [y] (stT (.lst (ns.map D.int))).objs ++ R.hid ↔ q ∈ ownOf X R [y] (st1 (.lst (ns.map D.int)) a b).objs ++ R.hid := List.mem_append.trans ((or_congr ow Iff.rfl).trans List.mem_append.symm)
  have hF : ∀ q o, vwOf X R [y] (st1 (.lst (ns.map D.int)) a b).objs h q o → vwOf X (withSrc R y) [y] (stT (.lst (ns.map D.int))).objs h q o := fun q o f => ⟨fun m => f.1 (owh.mp m), f.2⟩
  have E := S.env
  obtain ⟨y', e', items, n, g, r⟩ := S.objs 0 _ rfl
  cases e'
  obtain ⟨v1, _, rfl, ⟨t1, rfl⟩, v2, _, rfl, ⟨t2, rfl⟩, rfl⟩ := r
  refine ⟨⟨E.kind, E.glob, E.blt, E.nodup, E.Lw, E.noDebug, E.cells, E.cellsNd, E.own, E.all, E.hd⟩, ?_, fun q m => S.dis q (ow.mp m), fun q m => S.hi q (ow.mp m), fun q m => S.there q (owh.mp m), S.base, fun q o e m => S.baseOff q o e (owh.mp m), fun q e => ?_, rfl, fun i o e => ?_, nofun, ?_, S.cellsAre, S.ff⟩
  · have nd := S.nodup
    unfold ownOf at nd
    rw [hx] at nd
    show ([y] ++ (R.wr ++ (R.xa.toList ++ []))).Nodup
    have nd : (R.wr ++ (R.xa.toList ++ [y])).Nodup := nd
    rw [← List.append_assoc] at nd
    obtain ⟨n1, n2, n3⟩ := List.nodup_append.mp nd
    rw [List.append_nil]
    exact List.nodup_append.mpr ⟨n2, n1, fun x hx z hz e => n3 z hz x hx e.symm⟩
  · cases e; exact ⟨a, t1, b, t2, ⟨_, g, rfl, n, rfl⟩, h1, h2, h3⟩
  · cases i with
    | zero => cases e; exact ⟨y, rfl, trivial⟩
    | succ i => exact no e
  · refine S.loc.imp fun m q => ⟨q.1, fun i d e => ?_⟩
    cases i with
    | zero =>
      cases e
      obtain ⟨x, k, v, g1, g2, items, g3, g4⟩ := q.2 0 _ rfl
      exact ⟨x, k, v, g1, g2, items, g3.mono hF, ints_any g4⟩
    | succ i => cases i with
      | zero =>
        cases e
        obtain ⟨x, k, v, g1, g2, z, rfl, g3⟩ := q.2 1 _ rfl
        exact ⟨x, k, _, g1, g2, z, rfl, g3⟩
      | succ i => exact absurd (show (nones 11)[i]? = some (some d) from e) (nones_get 11)
end
end Mine
namespace Mine
open PySem PySem.W PyProof.Rows PySem.Calls PySem.Spec
noncomputable def outR : Rn := { env := envS default, wr := [], fs := [], hid := [], src := none, xa := none, d := 71, sub := fun _ he => absurd he List.not_mem_nil }
noncomputable abbrev topR (h : Heap) (sc : Scope) (qual : Str) (f : Addr) (cdv : Value) : Rn := fnRn X outR none [] [] h sc qual f cdv
section
variable {h : Heap} {sc : Scope} {qual : Str} {f : Addr} {cdv : Value}
theorem top_hid : (topR h sc qual f cdv).hid = [] := by
  show restOf X outR none [] [] ++ ([] ++ []) = []
  rw [List.append_nil, List.append_nil]
  exact List.eq_nil_iff_forall_not_mem.mpr fun a m => (mem_own.mp (mem_rest.mp m).1).elim nofun fun m => m.elim nofun fun m => m.elim nofun nofun
theorem top_own {a : Addr} (m : a ∈ ownOf X (topR h sc qual f cdv) [] []) : a ∈ (h.objs.size :: (cellsOf' h sc).map (·.2)) := (mem_own.mp m).elim nofun fun m => m.elim id fun m => m.elim nofun nofun
theorem sat_top (hh : X.h₀ = h) (so : ScOk sc) (nl : Nat) : Sat X (topR h sc qual f cdv) [] { loc := nones nl, objs := [], ext := none } (heapIn h sc) := by
  have C := cells_ok h sc
  have hL : (heapIn h sc).get? h.objs.size = some frameObj := pushCells_keeps _ _ _ _ (Heap.get?_push_size _ rfl)
  have off : ∀ {b o}, X.h₀.get? b = some o → b ∉ ownOf X (topR h sc qual f cdv) [] [] := fun e m => new_off h sc (hh ▸ e) (top_own m)
  refine ⟨callee_env (st := { loc := [], objs := [], ext := none }) so, ?_, fun a m w => (by rw [top_hid] at w; exact nomatch w), fun a m => Nat.lt_of_lt_of_le ?_ (new_wr h sc (top_own m)).1, fun a m => (List.mem_append.mp m).elim (fun m => (new_wr h sc (top_own m)).2) fun w => (by rw [top_hid] at w; exact nomatch w),
    fun b o e => heapIn_keeps h sc b o (hh ▸ e), fun b o e m => (List.mem_append.mp m).elim (off e) fun w => (by rw [top_hid] at w; exact nomatch w), nofun, rfl, fun i o e => no e, nofun, ⟨fun _ => none, ⟨_, #[], 0, hL, rfl, fun e he => absurd he (Array.not_mem_empty _), fun _ => rfl⟩, fun i d e => absurd e (nones_get _)⟩, fun p hp => ⟨_, (C.empty p.1 p.2 hp).1⟩, fun e he => ?_⟩
  · show ([] ++ ((h.objs.size :: (cellsOf' h sc).map (fun p : Str × Addr => p.2)) ++ ([] ++ []))).Nodup
    rw [List.nil_append, List.append_nil, List.append_nil]
    exact List.nodup_cons.mpr ⟨fun m => by obtain ⟨p, hp, e⟩ := List.mem_map.mp m; exact absurd e (Nat.ne_of_gt (C.empty p.1 p.2 hp).2), List.pairwise_map.mpr C.apart⟩
  · obtain ⟨o, _, _, e, _⟩ := X.g
    rw [hh] at e
    exact Heap.lt_size e
  · rcases List.mem_cons.mp he with rfl | he
    · refine ⟨by rw [show (envIn sc h qual f cdv).scope = sc from rfl, so.kind]; decide, h.objs.size, _, rfl, ?_, hL, rfl, _, _, rfl⟩
      rw [hh]; exact Heap.get?_none_of_le (Nat.le_refl _)
    · cases he
end
theorem amb_top (h : Heap) (sc : Scope) (qual : Str) (f : Addr) (cdv : Value) : Amb (topR h sc qual f cdv) (callerA.deeper (envIn sc h qual f cdv)) :=
  ⟨rfl, (by show 1 + claimMargin + 1 + 8 * 70 + 8 ≤ recursionLimit; decide), (by show 4 + 3 + 100 * 70 + 200 ≤ cLine; decide), rfl⟩
theorem ints_reps {P : Params} {src : Option Addr} {F : Vw} {vs : List Value} {ns : List Int} (h : IntsAre vs ns) : DReps P src F vs (ns.map D.int) := by
  induction h with
  | nil => exact .nil
  | cons n t _ ih => exact .cons ⟨t, rfl⟩ ih
noncomputable def scL : Scope := (fdP X.w.params 408).scope
noncomputable def bdL : List Stmt := stmtsOf (fdP X.w.params 408).body
noncomputable def hdS : List Stmt → Stmt
  | s :: _ => s
  | [] => .Pass default
theorem law_cut : bdL = hdS bdL :: bdL.tail := by unfold bdL; kernel_rfl
theorem tail_rd : (RD.ss true scL bdL.tail).map (·.1) = some (tailP e408.p) := by unfold scL bdL; kernel_rfl
theorem tail_ok {P P0 : Gp} {d : Nat} (h1 : GpOk d P) (h2 : GpOk d P0) (h3 : ∀ t b st Q E, P.whl t b st Q E → WhlOk P0 d t b st Q) : SSs ⟨P, d, scL⟩ bdL.tail (tailP e408.p) := by
  have h := tail_rd
  cases q : RD.ss true scL bdL.tail with
  | none => rw [q] at h; exact no h
  | some r => rw [q] at h; exact (show r.1 = tailP e408.p from Option.some.inj h) ▸ r.2 ⟨P, P0, d, h1, h2⟩ fun _ => h3
structure Fst (sc : Scope) (t : Stmt) : Prop where
  run : ∀ (c : Lc) (d : Nat) (ns : List Int) (E : Bool → St → Prop), c.R.env.scope = sc → c.R.d = d + 1 → c.R.top = true → ns.length ≤ 63 → c.st = st0 (.lst (ns.map D.int)) → c.ρ = [] → c.W relF (exec t c.R.env) (First (.lst (ns.map D.int))) E
theorem fst_run {sc : Scope} {x : Str} {np cp tp pos : Pos} {y : Str} {es : List Expr} (hs : isP (swapsWithSole [.Name y tp] (.Call (.Name x np) es [] cp) pos.line (envS sc)) false = true) (hw : pureOf (swappedStores [.Name y tp] (.Call (.Name x np) es [] cp) (envS sc)) = some none)
    (b : GlbIs X sc x (.ref 320)) (hk : keepIn X.K (.ref 320) = true) (h : ∀ d, SEs ⟨mkP noC, d, sc⟩ es (.cons (.loc 0) (.cons (.cst (.int 0)) .nil))) (hy : ∃ kd, sc.names[1]? = some (y, kd) ∧ (kd = .local ∨ kd = .cell)) : Fst sc (.Assign [.Name y tp] (.Call (.Name x np) es [] cp) pos) := by
  refine ⟨fun c d ns E hsc hd htop hn hst hρ => ?_⟩
  have ic : c.In ⟨mkP noC, d + 1, sc⟩ := ⟨hsc, hd⟩
  unfold Lc.W
  rw [exec_Assign, sw_is hs hsc, st_is hw hsc]
  refine wpAny_bind (wpAny_standAt (wpAny_bind (wpAny_pure ?_)))
  rw [if_neg (by decide)]
  have he : c.W relV (eval (.Call (.Name x np) es [] cp) c.R.env) (fun v st => v = .obj 0 ∧ ∃ a b, 0 ≤ a ∧ 0 ≤ b ∧ b < 2147483647 ∧ st = { c.st with objs := [.list [.dat (.int a), .dat (.int b)]] }) E := by
    refine call_name (name_glb (G := ⟨mkP noC, d + 1, sc⟩) ic b (callWith_of (P := fun h => X.K.In h) (by rw [(h (d + 1)).plain]; rfl) (keeps_K hk) (args_run (h 0).hd ?_)))
    have hg : gEs (mkP noC) (.cons (.loc 0) (.cons (.cst (.int 0)) .nil)) c.st (fun vs st => vs = [.dat (.lst (ns.map D.int)), .dat (.int 0)] ∧ st = c.st) E := by rw [hst, pool_args]; exact ⟨rfl, rfl⟩
    refine wpAny_mono ((h (d + 1)).run c ic cp _ _ hg) (fun vs s1 z => ?_) fun _ _ e => e
    obtain ⟨ds, st', ρ', S1, g1, r1, rfl, rfl⟩ := z
    have hρ' : ρ' = [] := by
      have := S1.len
      rw [hst] at this
      exact List.eq_nil_of_length_eq_zero this.symm
    exact ⟨S1.K, Lc.fin (p := ⟨s1, ρ', c.st, S1⟩) (call_live (c := c.mv ⟨s1, ρ', c.st, S1⟩) hd hn hst hρ' (relL_reps r1) fun a b h1 h2 h3 => ⟨rfl, a, b, h1, h2, h3, rfl⟩) g1⟩
  refine wpAny_bind (Lc.seq0 he fun v dv p g r1 q1 => wpAny_bind (wpAny_pure ?_))
  obtain ⟨rfl, a, b, h1, h2, h3, e⟩ := q1
  obtain ⟨kd, hy, hk⟩ := hy
  show c.go E (do assignAll v [assign (.Name y tp) c.R.env]; pure Flow.next) _ _
  refine wpAny_bind (Lc.seq (rel := relU) (sa_loc (G := ⟨mkP noC, d + 1, sc⟩) hy hk (c.mv p) ic htop v (.obj 0) (fun st => st = st1 (.lst (ns.map D.int)) a b) E r1 ?_) g fun _ _ p2 g2 _ _ q2 => wpAny_pure (Lc.done (rel := relF) (d := .next) g2 trivial ⟨a, b, h1, h2, h3, rfl, q2⟩))
  show { p.st with loc := putAt p.st.loc 1 (some (.obj 0)) } = st1 (.lst (ns.map D.int)) a b
  rw [e, hst]
  kernel_rfl
end Mine
namespace Mine
open PySem PySem.W PyProof.Rows PySem.Calls PySem.Spec
theorem first_look : ∃ y tp x np s sp k zp cp pos, hdS bdL = .Assign [.Name y tp] (.Call (.Name x np) [.Name s sp, .Constant (.int 0) k zp] [] cp) pos ∧
    isP (swapsWithSole [.Name y tp] (.Call (.Name x np) [.Name s sp, .Constant (.int 0) k zp] [] cp) pos.line (envS scL)) false = true ∧ pureOf (swappedStores [.Name y tp] (.Call (.Name x np) [.Name s sp, .Constant (.int 0) k zp] [] cp) (envS scL)) = some none ∧
    (ref? scL x).map (·.1) = some 320 ∧ scL.names[0]? = some (s, .local) ∧ scL.names[1]? = some (y, .local) := ⟨_, _, _, _, _, _, _, _, _, _, rfl, by kernel_rfl, by kernel_rfl, by kernel_rfl, by kernel_rfl, by kernel_rfl⟩
theorem first_ok : Fst scL (hdS bdL) := by
  obtain ⟨y, tp, x, np, s, sp, k, zp, cp, pos, h1, h2, h3, h4, h5, h6⟩ := first_look
  rw [h1]
  cases q : ref? scL x with
  | none => rw [q] at h4; exact no h4
  | some a =>
    rw [q] at h4
    have ha : a.1 = 320 := Option.some.inj h4
    exact fst_run h2 h3 (ha ▸ a.2.1) (ha ▸ a.2.2) (fun d => ses_cons (se_loc (G := ⟨mkP noC, d, scL⟩) h5) (ses_cons se_int ses_nil)) ⟨_, h6, .inl rfl⟩
theorem law_is : FnIs X 408 scL bdL (xsOf (fdP X.w.params 408)) [0] (nOf 408 (fdP X.w.params 408)) (dvV (dvT 408)) (dvD (dvT 408)) := by
  refine fn_is (f := 408) (List.mem_of_elem_eq_true (by decide +kernel)) ?_
  have h : (bind? scL (xsOf (fdP X.w.params 408))).map (·.1) = some [0] := by unfold scL; kernel_rfl
  cases q : bind? scL (xsOf (fdP X.w.params 408)) with
  | none => rw [q] at h; exact no h
  | some r => rw [q] at h; exact (show r.1 = [0] from Option.some.inj h) ▸ r.2
theorem ovL_ok : OvOk 58 ovL :=
  ((((OvOk.none 58).add (Nat.le_refl _) fun d hd as ext Q E h => refs_ok d (by omega) as ext Q E h).add (Nat.le_refl _) fun d hd as ext Q E h => names_ok d (by omega) as ext Q E h).add (Nat.le_refl _) fun d hd as ext Q E h => meant_ok d (by omega) as ext Q E h).add (Nat.le_refl _) fun d hd as ext Q E h => drops_ok d (by omega) as ext Q E h
theorem law_tail' (R : AFlow → Prop) (E : Bool → St → Prop) (s : D) : gSs (mkP (cal ovL 8)) (tailP e408.p) (stT s) (fun fl _ => R fl) E = R (.ret (.dat (.bool true))) := by kernel_rfl
theorem gpL {ov : Ov} {n : Nat} (h : OvOk n ov) (k d : Nat) (hd : n + k ≤ d) : GpOk d (mkP (cal ov k)) := fun _ _ _ _ _ q => h.run k hd q
theorem top_run : Target X := by
  intro s la vs ns Res hh hL hI hn hres
  have K : X.K.In s.heap := hh ▸ X.kin
  refine law_is.call (by decide) K (vs := [.ref la]) (by kernel_rfl) fun qual cdv => ?_
  have R0 : RepsOf X (topR s.heap scL (qual ++ ".<locals>.") 408 cdv) [] [] (heapIn s.heap scL) ([.ref la] ++ dvV (dvT 408)) [.dat (.lst (ns.map D.int))] := by
    obtain ⟨o, h1, h2, n, h3⟩ := hL
    exact .cons ⟨vs, ⟨la, o, n, rfl, ⟨fun m => (List.mem_append.mp m).elim (fun m => new_off s.heap scL h1 (top_own m)) fun w => (by rw [top_hid] at w; exact nomatch w), heapIn_keeps _ _ _ _ h1⟩, h2, h3⟩, ints_reps hI⟩ .nil
  refine binds_run (R := topR s.heap scL (qual ++ ".<locals>.") 408 cdv) (A := callerA.in1) rfl (p := ⟨{ s with heap := heapIn s.heap scL }, [], _, sat_top hh law_is.ok 13⟩) (l := (st0 (.lst (ns.map D.int))).loc) law_is.at_ R0 (by kernel_rfl) fun s1 S1 g1 => ?_
  refine ⟨X.lim.keeps S1.base, codeAny_func ?_⟩
  have amb := amb_top s.heap scL (qual ++ ".<locals>.") 408 cdv
  rw [law_cut]
  let c : Lc := ⟨topR s.heap scL (qual ++ ".<locals>.") 408 cdv, callerA.deeper (envIn scL s.heap (qual ++ ".<locals>.") 408 cdv), s1, [], st0 (.lst (ns.map D.int)), amb, S1⟩
  refine wpAny_execs_cons (wpAny_mono (first_ok.run c 69 ns (fun _ _ => False) rfl rfl rfl hn rfl rfl) ?_ fun e s' z => z.rec fun _ _ _ _ _ _ q => q.elim)
  rintro fl s2 ⟨dl, st', ρ2, S2, g2, r2, q2⟩
  obtain ⟨a, b, h1, h2, h3, rfl, rfl⟩ := q2
  obtain ⟨y, rfl⟩ : ∃ y, ρ2 = [y] := by
    have := S2.len
    cases ρ2 with
    | nil => exact nomatch this
    | cons y r => cases r with
      | nil => exact ⟨y, rfl⟩
      | cons _ _ => exact nomatch this
  cases fl with
  | next =>
    have S3 := sat_src rfl h1 h2 h3 S2
    have gp := gpL ovL_ok 8 70 (by decide)
    refine wpAny_mono (tail_ok gp (P0 := gp0 (cal ovL 8)) gp (fun t b st Q E h => whF_ok 40 st h) ⟨withSrc c.R y, c.A, s2, [y], stT (.lst (ns.map D.int)), ⟨amb.hn, amb.depth, amb.units, amb.frames⟩, S3⟩ ⟨rfl, rfl⟩ rfl (fun fl _ => fl = .ret (.dat (.bool true))) (fun _ _ => False) (by rw [law_tail'])) ?_ fun e s' z => z.rec fun _ _ _ _ _ _ q => q.elim
    rintro fl s3 ⟨dl, st3, ρ3, S4, g3, r3, rfl⟩
    cases fl with
    | ret v =>
      cases (show v = .bool true from r3)
      refine hres s3 (fun b o e => ?_) (Same.trans g1.same (g2.same.trans g3.same))
      have old : b ∉ ownOf X c.R [] [] := fun m => new_off s.heap scL e (top_own m)
      have oldF : b ∉ frs c.R := fun m => (frs_sub m).elim (fun m => new_off s.heap scL e m) fun w => (by rw [show c.R.hid = [] from top_hid] at w; exact nomatch w)
      obtain ⟨k1, k2, _⟩ := g1.stp.keep b o old (heapIn_keeps _ _ _ _ e)
      obtain ⟨k3, k4, _⟩ := g2.stp.keep b o k1 (k2 oldF)
      exact (g3.stp.keep b o (fun m => k3 ((own_sw rfl).mp m)) (k4 oldF)).2.1 oldF
    | _ => exact r3.elim
  | _ => exact r2.elim
end Mine
namespace Mine
open PySem PySem.W PyProof.Rows PySem.Calls
theorem said : PySem.Challenge.rw_xm0606_01.wellSaid = true := by
  rw [PySem.W.Fast.te9446332074065402090]
  unfold PySem.W.Fast.tw9446332074065402090
  repeat' with_reducible refine look_both ?_ ?_
  rotate_right 0
  · unfold PySem.W.Fast.tw17960256430627541270 PySem.W.Fast.tw2436336058641802641
    repeat' with_reducible refine look_both ?_ ?_
    · unfold PySem.W.Fast.tw12908688711261696721
      repeat' with_reducible refine look_both ?_ ?_
      all_goals as_aux_lemma => kernel_rfl
    all_goals as_aux_lemma => kernel_rfl
  all_goals as_aux_lemma => kernel_rfl
theorem dK_some : (defOf qV PySem.Challenge.rw_xm0606_01.row.name).isSome = true := by kernel_rfl
noncomputable def dK : DefRec × List (Str × Expr) := (defOf qV PySem.Challenge.rw_xm0606_01.row.name).get dK_some
theorem law_holds {XP : (Str → Option Value) → Heap → Prop} (hX : ∀ mg h, XP mg h) (call : WalkO qV loK XP (fun w h => (KK w.params).In h) PySem.Challenge.rw_xm0606_01.row.toRowW dK.1 dK.2 fun f vs => PySem.call f vs) : PySem.Challenge.rw_xm0606_01.Holds :=
  holds_law said fun h => holds_open (q := qV) (loose := loK) (Xt := XtK) (XP := XP) (Yf := seeK) (Ya := valK) (YP := fun w h => (KK w.params).In h) (N := 6000) left (fun w s e => Frag.in_of (as := asK) rfl e) (fun w h h' k e => Frag.In.keeps k e) (fun s _ => hX _ _) (fun mg h h' _ _ => hX _ _)
    (Option.some_get dK_some).symm (by kernel_rfl) (by kernel_rfl) (fun s e => recFacts_of (Bool.and_eq_true_iff.mp e).2) (by kernel_rfl) h (by decide +kernel) ⟨rfl, rfl, rfl, rfl, rfl, by decide +kernel⟩ ⟨[.list []], by decide +kernel, by decide +kernel⟩ call
end Mine
open PySem PySem.W PyProof.Rows PySem.Calls PySem.Spec
theorem Mine.walk : WalkO Mine.qV Mine.loK (fun _ _ => True) (fun w h => (Mine.KK w.params).In h) PySem.Challenge.rw_xm0606_01.row.toRowW Mine.dK.1 Mine.dK.2 fun f vs => PySem.call f vs := by
  intro w s₀ s₁ mg mb G Y fa o pm cd doc dV kV ho hdd hcd hD hmg hg args vals as hpre hlay hrd hwl hlo
  have TT := G.T
  wrow_args hpre hlay hrd hwl hlo
  rename_i ns _ _ _ _ _ _ _ la vs _ hL _ _ _ hI _ hlen _
  have e1 : mg "law" = some (.ref 408) := (Mine.gl_of Y TT.g _).trans (by kernel_rfl)
  obtain rfl : fa = 408 := by
    have := hmg.symm.trans e1
    injection this with this
    injection this
  refine enter_call (Mine.all_targets Mine.top_run ⟨PySem.Challenge.rw_xm0606_01.row.prog, w, Mine.KK w.params, s₁.heap, mg, mb, Y, TT.g, TT.b, TT.nolimit, rfl, TT.builtins⟩ _ la vs ns _ rfl hL hI (by omega) ?_)
  intro s' hk sm
  refine ⟨.inl ⟨.bool true, .bool true, [], rfl, ?_, .bool true, ?_, ?_⟩, .of_keep hk, sm.2.2, .of_eq (sm.1.trans hg)⟩
  · intro cls; rfl
  · kernel_rfl
  · exact fun _ => ⟨List.nodup_nil, fun _ h => by cases h⟩
theorem PySem.Challenge.cw_xm0606_01_holds : PySem.Challenge.rw_xm0606_01.Holds :=
  Mine.law_holds (fun _ _ => trivial) Mine.walk
