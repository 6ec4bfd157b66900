import PyProof.Rows.All
import Wide.All
import OpenK.AllK
import Wide.FinOn
import Lean
import PySem.Challenge.RW_qz0071_01
set_option Elab.async false
set_option maxRecDepth 100000
set_option maxHeartbeats 0
set_option linter.all false
set_option rowWalk.seconds 0
namespace Mine
section
open PySem PySem.W PyProof.Rows
noncomputable abbrev PR : Program := PySem.Challenge.pw_qz0071_01
noncomputable def nth : List Stmt → Nat → Stmt
  | [], _ => .Pass ⟨0, 0, 0, 0⟩
  | s :: _, 0 => s
  | _ :: r, n + 1 => nth r n
noncomputable def stm (i : Nat) : Stmt := nth PR.main.body i
noncomputable def clsBody : Stmt → List Stmt
  | .ClassDef _ _ _ b _ _ _ _ _ _ _ => b
  | _ => []
noncomputable def met (i j : Nat) : Stmt := nth (clsBody (stm i)) j
noncomputable def fn (s : Stmt) (qual : Str) (g : Addr) (dV kV doc pm cd : Value) (bt : Addr) : FuncData := match s with
  | .FunctionDef n a b _ _ _ sc _ _ _ => { name := n, qualname := qual, params := a, body := .stmts b, scope := sc, globals := g, closure := [], defaults := dV, kwdefaults := kV, doc := doc, pyModule := pm, code := cd, builtins := bt }
  | _ => default
noncomputable abbrev S (s : String) : Str := Str.ofString s
noncomputable abbrev A {α : Type} (l : List α) : Array α := ⟨l⟩
noncomputable abbrev E (P : Params) (x : String) (t : Tok) (v : Value) : DictEntry := ⟨PyData.keyHash P (Str.ofString x), .str (Str.ofString x) t, v⟩
noncomputable def prune (n : Nat) : BT → Nat → Nat → BT
  | .nil, _, _ => .nil
  | .node v l r, a, b => match Nat.blt b n with
    | true => .node v (prune n l (2 * a) (a + b)) (prune n r (2 * a) (2 * a + b))
    | false => .nil
noncomputable def o3L (P : Params) : List DictEntry :=
  E P "__name__" (nat_lit 165) (.str (S "law_qz0071_01") (nat_lit 2118)) ::
  E P "__doc__" (nat_lit 166) .none ::
  E P "__package__" (nat_lit 167) .none ::
  E P "__loader__" (nat_lit 168) (.builtin "__main__.__loader__#opaque") ::
  E P "__spec__" (nat_lit 169) .none ::
  E P "__annotations__" (nat_lit 170) (.ref (nat_lit 6)) ::
  E P "__builtins__" (nat_lit 171) (.ref (nat_lit 4)) ::
  E P "__file__" (nat_lit 173) (.str (S "/claim/cut.py") (nat_lit 172)) ::
  E P "__cached__" (nat_lit 174) .none ::
  E P "MillError" (nat_lit 217) (.ref (nat_lit 31)) ::
  E P "HintFault" (nat_lit 233) (.ref (nat_lit 44)) ::
  E P "LimitFault" (nat_lit 249) (.ref (nat_lit 56)) ::
  E P "Routine" (nat_lit 282) (.ref (nat_lit 75)) ::
  E P "Functions" (nat_lit 319) (.ref (nat_lit 103)) ::
  E P "Call" (nat_lit 354) (.ref (nat_lit 124)) ::
  E P "Place" (nat_lit 419) (.ref (nat_lit 173)) ::
  E P "NPUSHB" (nat_lit 423) (.int 64 (nat_lit 422)) ::
  E P "NPUSHW" (nat_lit 425) (.int 65 (nat_lit 424)) ::
  E P "IF" (nat_lit 427) (.int 88 (nat_lit 426)) ::
  E P "ELSE" (nat_lit 429) (.int 27 (nat_lit 428)) ::
  E P "EIF" (nat_lit 431) (.int 89 (nat_lit 430)) ::
  E P "FDEF" (nat_lit 433) (.int 44 (nat_lit 432)) ::
  E P "IDEF" (nat_lit 435) (.int 137 (nat_lit 434)) ::
  E P "ENDF" (nat_lit 437) (.int 45 (nat_lit 436)) ::
  E P "FIRST_PUSHB" (nat_lit 439) (.int 176 (nat_lit 438)) ::
  E P "FIRST_PUSHW" (nat_lit 441) (.int 184 (nat_lit 440)) ::
  E P "BEHIND_PUSHES" (nat_lit 443) (.int 192 (nat_lit 442)) ::
  E P "octet_at" (nat_lit 451) (.ref (nat_lit 184)) ::
  E P "is_push" (nat_lit 458) (.ref (nat_lit 191)) ::
  E P "push_shape" (nat_lit 467) (.ref (nat_lit 198)) ::
  E P "pushed" (nat_lit 482) (.ref (nat_lit 205)) ::
  E P "behind" (nat_lit 494) (.ref (nat_lit 212)) ::
  E P "behind_branch" (nat_lit 506) (.ref (nat_lit 219)) ::
  E P "behind_function" (nat_lit 515) (.ref (nat_lit 226)) ::
  E P "JMPR" (nat_lit 519) (.int 28 (nat_lit 518)) ::
  E P "JROT" (nat_lit 521) (.int 120 (nat_lit 520)) ::
  E P "JROF" (nat_lit 523) (.int 121 (nat_lit 522)) ::
  E P "CALL" (nat_lit 525) (.int 43 (nat_lit 524)) ::
  E P "LOOPCALL" (nat_lit 527) (.int 42 (nat_lit 526)) ::
  E P "MOST_CALLS" (nat_lit 529) (.int 32 (nat_lit 528)) ::
  E P "Machine" (nat_lit 621) (.ref (nat_lit 279)) ::
  E P "ONE14" (nat_lit 625) (.int 16384 (nat_lit 624)) ::
  E P "ONE6" (nat_lit 627) (.int 64 (nat_lit 626)) ::
  E P "muldiv" (nat_lit 637) (.ref (nat_lit 290)) ::
  E P "cut_div" (nat_lit 647) (.ref (nat_lit 297)) ::
  E P "mul14" (nat_lit 655) (.ref (nat_lit 304)) ::
  E P "dot14" (nat_lit 664) (.ref (nat_lit 311)) ::
  E P "wrap32" (nat_lit 671) (.ref (nat_lit 318)) ::
  E P "signed16" (nat_lit 678) (.ref (nat_lit 325)) ::
  E P "whole_root" (nat_lit 686) (.ref (nat_lit 332)) ::
  E P "unit_part" (nat_lit 695) (.ref (nat_lit 339)) ::
  E P "unit" (nat_lit 704) (.ref (nat_lit 346)) ::
  E P "floor6" (nat_lit 711) (.ref (nat_lit 353)) ::
  E P "ceiling6" (nat_lit 718) (.ref (nat_lit 360)) ::
  E P "apart" (nat_lit 728) (.ref (nat_lit 367)) ::
  E P "measured" (nat_lit 737) (.ref (nat_lit 374)) ::
  E P "dual_measured" (nat_lit 746) (.ref (nat_lit 381)) ::
  E P "place_of" (nat_lit 755) (.ref (nat_lit 388)) ::
  E P "touch" (nat_lit 764) (.ref (nat_lit 395)) ::
  E P "step_of" (nat_lit 773) (.ref (nat_lit 402)) ::
  E P "shifted" (nat_lit 786) (.ref (nat_lit 409)) ::
  E P "move_point" (nat_lit 796) (.ref (nat_lit 416)) ::
  E P "move_original" (nat_lit 810) (.ref (nat_lit 423)) ::
  E P "along_freedom" (nat_lit 818) (.ref (nat_lit 430)) ::
  E P "put_both" (nat_lit 827) (.ref (nat_lit 437)) ::
  E P "NOUGHT" (nat_lit 832) (.ref (nat_lit 438)) ::
  E P "do_gc" (nat_lit 842) (.ref (nat_lit 445)) ::
  E P "do_scfs" (nat_lit 853) (.ref (nat_lit 452)) ::
  E P "do_md" (nat_lit 866) (.ref (nat_lit 459)) ::
  E P "crossing" (nat_lit 883) (.ref (nat_lit 466)) ::
  E P "do_isect" (nat_lit 901) (.ref (nat_lit 473)) ::
  E P "do_alignpts" (nat_lit 916) (.ref (nat_lit 480)) ::
  E P "do_utp" (nat_lit 926) (.ref (nat_lit 487)) ::
  E P "do_flippt" (nat_lit 937) (.ref (nat_lit 494)) ::
  E P "do_flip_row" (nat_lit 949) (.ref (nat_lit 501)) ::
  E P "mark_ops" (nat_lit 956) (.ref (nat_lit 508)) ::
  E P "Rounding" (nat_lit 998) (.ref (nat_lit 532)) ::
  E P "named" (nat_lit 1009) (.ref (nat_lit 543)) ::
  E P "super_rounding" (nat_lit 1021) (.ref (nat_lit 550)) ::
  E P "rounded" (nat_lit 1033) (.ref (nat_lit 557)) ::
  E P "size_of" (nat_lit 1042) (.ref (nat_lit 564)) ::
  E P "signed_like" (nat_lit 1050) (.ref (nat_lit 571)) ::
  E P "kept_apart" (nat_lit 1059) (.ref (nat_lit 578)) ::
  E P "of_single_width" (nat_lit 1068) (.ref (nat_lit 585)) ::
  E P "do_mdap" (nat_lit 1080) (.ref (nat_lit 592)) ::
  E P "do_miap" (nat_lit 1093) (.ref (nat_lit 599)) ::
  E P "refer" (nat_lit 1102) (.ref (nat_lit 606)) ::
  E P "anchor_of" (nat_lit 1110) (.ref (nat_lit 613)) ::
  E P "do_mdrp" (nat_lit 1125) (.ref (nat_lit 620)) ::
  E P "do_mirp" (nat_lit 1142) (.ref (nat_lit 627)) ::
  E P "do_msirp" (nat_lit 1156) (.ref (nat_lit 634)) ::
  E P "do_alignrp" (nat_lit 1170) (.ref (nat_lit 641)) ::
  E P "do_ip" (nat_lit 1189) (.ref (nat_lit 648)) ::
  E P "relation_ops" (nat_lit 1197) (.ref (nat_lit 655)) ::
  E P "VERSION" (nat_lit 1201) (.int 35 (nat_lit 1200)) ::
  E P "do_dup" (nat_lit 1209) (.ref (nat_lit 662)) ::
  E P "do_pop" (nat_lit 1217) (.ref (nat_lit 669)) ::
  E P "do_clear" (nat_lit 1225) (.ref (nat_lit 676)) ::
  E P "do_swap" (nat_lit 1235) (.ref (nat_lit 683)) ::
  E P "do_depth" (nat_lit 1243) (.ref (nat_lit 690)) ::
  E P "do_cindex" (nat_lit 1251) (.ref (nat_lit 697)) ::
  E P "do_mindex" (nat_lit 1257) (.ref (nat_lit 702)) ::
  E P "do_roll" (nat_lit 1268) (.ref (nat_lit 709)) ::
  E P "do_instctrl" (nat_lit 1276) (.ref (nat_lit 716)) ::
  E P "compared" (nat_lit 1285) (.ref (nat_lit 723)) ::
  E P "do_compare" (nat_lit 1295) (.ref (nat_lit 730)) ::
  E P "do_not" (nat_lit 1303) (.ref (nat_lit 737)) ::
  E P "do_odd" (nat_lit 1312) (.ref (nat_lit 744)) ::
  E P "of_two" (nat_lit 1321) (.ref (nat_lit 751)) ::
  E P "do_two" (nat_lit 1331) (.ref (nat_lit 758)) ::
  E P "do_one" (nat_lit 1340) (.ref (nat_lit 765)) ::
  E P "do_round" (nat_lit 1348) (.ref (nat_lit 772)) ::
  E P "do_nothing" (nat_lit 1356) (.ref (nat_lit 779)) ::
  E P "do_ws" (nat_lit 1366) (.ref (nat_lit 786)) ::
  E P "do_rs" (nat_lit 1374) (.ref (nat_lit 793)) ::
  E P "do_wcvtp" (nat_lit 1384) (.ref (nat_lit 800)) ::
  E P "do_wcvtf" (nat_lit 1394) (.ref (nat_lit 807)) ::
  E P "do_rcvt" (nat_lit 1402) (.ref (nat_lit 814)) ::
  E P "delta_of" (nat_lit 1412) (.ref (nat_lit 821)) ::
  E P "do_deltac" (nat_lit 1424) (.ref (nat_lit 828)) ::
  E P "do_size" (nat_lit 1432) (.ref (nat_lit 835)) ::
  E P "do_getinfo" (nat_lit 1440) (.ref (nat_lit 842)) ::
  E P "stack_ops" (nat_lit 1449) (.ref (nat_lit 849)) ::
  E P "reference" (nat_lit 1462) (.ref (nat_lit 856)) ::
  E P "do_shp" (nat_lit 1475) (.ref (nat_lit 863)) ::
  E P "bounds_of" (nat_lit 1483) (.ref (nat_lit 870)) ::
  E P "shift_row" (nat_lit 1499) (.ref (nat_lit 877)) ::
  E P "do_shc" (nat_lit 1510) (.ref (nat_lit 884)) ::
  E P "do_shz" (nat_lit 1520) (.ref (nat_lit 891)) ::
  E P "do_shpix" (nat_lit 1531) (.ref (nat_lit 898)) ::
  E P "do_deltap" (nat_lit 1545) (.ref (nat_lit 905)) ::
  E P "drawn_place" (nat_lit 1554) (.ref (nat_lit 912)) ::
  E P "put_part" (nat_lit 1566) (.ref (nat_lit 919)) ::
  E P "pair_of" (nat_lit 1575) (.ref (nat_lit 926)) ::
  E P "draw_between" (nat_lit 1589) (.ref (nat_lit 933)) ::
  E P "draw_contour" (nat_lit 1595) (.ref (nat_lit 938)) ::
  E P "do_iup" (nat_lit 1608) (.ref (nat_lit 945)) ::
  E P "shift_ops" (nat_lit 1616) (.ref (nat_lit 952)) ::
  E P "point_ops" (nat_lit 1625) (.ref (nat_lit 959)) ::
  E P "GRID" (nat_lit 1629) (.int 16384 (nat_lit 1628)) ::
  E P "SLANTED_GRID" (nat_lit 1631) (.int 11585 (nat_lit 1630)) ::
  E P "MOST_LOOP" (nat_lit 1633) (.int 65535 (nat_lit 1632)) ::
  E P "axis_of" (nat_lit 1640) (.ref (nat_lit 966)) ::
  E P "do_axes" (nat_lit 1649) (.ref (nat_lit 973)) ::
  E P "line_vector" (nat_lit 1660) (.ref (nat_lit 980)) ::
  E P "two_points" (nat_lit 1671) (.ref (nat_lit 987)) ::
  E P "do_line" (nat_lit 1684) (.ref (nat_lit 994)) ::
  E P "do_dual_line" (nat_lit 1697) (.ref (nat_lit 1001)) ::
  E P "do_from_stack" (nat_lit 1708) (.ref (nat_lit 1008)) ::
  E P "do_tell" (nat_lit 1717) (.ref (nat_lit 1015)) ::
  E P "do_free_as_projection" (nat_lit 1725) (.ref (nat_lit 1022)) ::
  E P "do_point" (nat_lit 1734) (.ref (nat_lit 1029)) ::
  E P "do_zone" (nat_lit 1743) (.ref (nat_lit 1036)) ::
  E P "do_loop" (nat_lit 1752) (.ref (nat_lit 1043)) ::
  E P "do_distance" (nat_lit 1762) (.ref (nat_lit 1050)) ::
  E P "do_flip" (nat_lit 1770) (.ref (nat_lit 1057)) ::
  E P "do_rounding" (nat_lit 1779) (.ref (nat_lit 1064)) ::
  E P "do_super" (nat_lit 1787) (.ref (nat_lit 1071)) ::
  E P "vector_ops" (nat_lit 1795) (.ref (nat_lit 1078)) ::
  E P "all_ops" (nat_lit 1804) (.ref (nat_lit 1085)) ::
  E P "LEAST_DOT" (nat_lit 1808) (.int 1024 (nat_lit 1807)) ::
  E P "GraphicsState" (nat_lit 1888) (.ref (nat_lit 1130)) ::
  E P "HintStack" (nat_lit 1965) (.ref (nat_lit 1193)) ::
  E P "HintWork" (nat_lit 2044) (.ref (nat_lit 1244)) ::
  E P "held" (nat_lit 2053) (.ref (nat_lit 1255)) ::
  E P "Zone" (nat_lit 2117) (.ref (nat_lit 1300)) ::
  E P "_law_pool" (nat_lit 2128) (.ref (nat_lit 1311)) ::
  E P "_law_take" (nat_lit 2137) (.ref (nat_lit 1318)) ::
  E P "_law_one" (nat_lit 2145) (.ref (nat_lit 1325)) ::
  E P "_law_held" (nat_lit 2153) (.ref (nat_lit 1332)) ::
  E P "_law_near" (nat_lit 2162) (.ref (nat_lit 1339)) ::
  E P "_law_run" (nat_lit 2170) (.ref (nat_lit 1346)) ::
  E P "_law_begun" (nat_lit 2176) (.ref (nat_lit 1351)) ::
  E P "_law_walked" (nat_lit 2189) (.ref (nat_lit 1358)) ::
  E P "_law_turns_right" (nat_lit 2195) (.ref (nat_lit 1363)) ::
  E P "_law_scaled_right" (nat_lit 2209) (.ref (nat_lit 1370)) ::
  E P "_law_rounded_right" (nat_lit 2217) (.ref (nat_lit 1377)) ::
  E P "_law_far_right" (nat_lit 2223) (.ref (nat_lit 1382)) ::
  E P "law" (nat_lit 2229) (.ref (nat_lit 1387)) :: []
noncomputable def o12L (_ : Params) : List Value :=
  (.int 2 (nat_lit 0)) :: (.int 0 (nat_lit 0)) :: (.ref (nat_lit 20)) :: (.int 6 (nat_lit 0)) :: (.int 0 (nat_lit 0)) :: (.ref (nat_lit 40)) :: (.int 8 (nat_lit 0)) :: (.int 0 (nat_lit 0)) :: (.ref (nat_lit 52)) :: (.int 11 (nat_lit 0)) :: (.int 0 (nat_lit 0)) :: (.ref (nat_lit 64)) :: (.int 16 (nat_lit 0)) :: (.int 0 (nat_lit 0)) :: (.ref (nat_lit 85)) :: (.int 26 (nat_lit 0)) :: (.int 0 (nat_lit 0)) :: (.ref (nat_lit 113)) :: (.int 33 (nat_lit 0)) :: (.int 0 (nat_lit 0)) :: (.ref (nat_lit 134)) :: (.int 79 (nat_lit 0)) :: (.int 0 (nat_lit 0)) :: (.ref (nat_lit 183)) :: (.int 83 (nat_lit 0)) :: (.int 0 (nat_lit 0)) :: (.ref (nat_lit 190)) :: (.int 85 (nat_lit 0)) :: (.int 0 (nat_lit 0)) :: (.ref (nat_lit 197)) :: (.int 90 (nat_lit 0)) :: (.int 0 (nat_lit 0)) :: (.ref (nat_lit 204)) :: (.int 102 (nat_lit 0)) :: (.int 0 (nat_lit 0)) :: (.ref (nat_lit 211)) :: (.int 108 (nat_lit 0)) :: (.int 0 (nat_lit 0)) :: (.ref (nat_lit 218)) :: (.int 122 (nat_lit 0)) :: (.int 0 (nat_lit 0)) :: (.ref (nat_lit 225)) :: (.int 137 (nat_lit 0)) :: (.int 0 (nat_lit 0)) :: (.ref (nat_lit 232)) :: (.int 213 (nat_lit 0)) :: (.int 0 (nat_lit 0)) :: (.ref (nat_lit 289)) :: (.int 220 (nat_lit 0)) :: (.int 0 (nat_lit 0)) :: (.ref (nat_lit 296)) :: (.int 225 (nat_lit 0)) :: (.int 0 (nat_lit 0)) :: (.ref (nat_lit 303)) :: (.int 227 (nat_lit 0)) :: (.int 0 (nat_lit 0)) :: (.ref (nat_lit 310)) :: (.int 229 (nat_lit 0)) :: (.int 0 (nat_lit 0)) :: (.ref (nat_lit 317)) :: (.int 231 (nat_lit 0)) :: (.int 0 (nat_lit 0)) :: (.ref (nat_lit 324)) :: (.int 233 (nat_lit 0)) :: (.int 0 (nat_lit 0)) :: (.ref (nat_lit 331)) :: (.int 240 (nat_lit 0)) :: (.int 0 (nat_lit 0)) :: (.ref (nat_lit 338)) :: (.int 243 (nat_lit 0)) :: (.int 0 (nat_lit 0)) :: (.ref (nat_lit 345)) :: (.int 248 (nat_lit 0)) :: (.int 0 (nat_lit 0)) :: (.ref (nat_lit 352)) :: (.int 250 (nat_lit 0)) :: (.int 0 (nat_lit 0)) :: (.ref (nat_lit 359)) :: (.int 253 (nat_lit 0)) :: (.int 0 (nat_lit 0)) :: (.ref (nat_lit 366)) :: (.int 255 (nat_lit 0)) :: (.int 0 (nat_lit 0)) :: (.ref (nat_lit 373)) :: (.int 257 (nat_lit 0)) :: (.int 0 (nat_lit 0)) :: (.ref (nat_lit 380)) :: (.int 259 (nat_lit 0)) :: (.int 0 (nat_lit 0)) :: (.ref (nat_lit 387)) :: (.int 261 (nat_lit 0)) :: (.int 0 (nat_lit 0)) :: (.ref (nat_lit 394)) :: (.int 266 (nat_lit 0)) :: (.int 0 (nat_lit 0)) :: (.ref (nat_lit 401)) :: (.int 269 (nat_lit 0)) :: (.int 0 (nat_lit 0)) :: (.ref (nat_lit 408)) :: (.int 278 (nat_lit 0)) :: (.int 0 (nat_lit 0)) :: (.ref (nat_lit 415)) :: (.int 280 (nat_lit 0)) :: (.int 0 (nat_lit 0)) :: (.ref (nat_lit 422)) :: (.int 288 (nat_lit 0)) :: (.int 0 (nat_lit 0)) :: (.ref (nat_lit 429)) :: (.int 290 (nat_lit 0)) :: (.int 0 (nat_lit 0)) :: (.ref (nat_lit 436)) :: (.int 295 (nat_lit 0)) :: (.int 0 (nat_lit 0)) :: (.ref (nat_lit 444)) :: (.int 302 (nat_lit 0)) :: (.int 0 (nat_lit 0)) :: (.ref (nat_lit 451)) :: (.int 309 (nat_lit 0)) :: (.int 0 (nat_lit 0)) :: (.ref (nat_lit 458)) :: (.int 319 (nat_lit 0)) :: (.int 0 (nat_lit 0)) :: (.ref (nat_lit 465)) :: (.int 329 (nat_lit 0)) :: (.int 0 (nat_lit 0)) :: (.ref (nat_lit 472)) :: (.int 339 (nat_lit 0)) :: (.int 0 (nat_lit 0)) :: (.ref (nat_lit 479)) :: (.int 347 (nat_lit 0)) :: (.int 0 (nat_lit 0)) :: (.ref (nat_lit 486)) :: (.int 354 (nat_lit 0)) :: (.int 0 (nat_lit 0)) :: (.ref (nat_lit 493)) :: (.int 359 (nat_lit 0)) :: (.int 0 (nat_lit 0)) :: (.ref (nat_lit 500)) :: (.int 365 (nat_lit 0)) :: (.int 0 (nat_lit 0)) :: (.ref (nat_lit 507)) :: (.int 374 (nat_lit 0)) :: (.int 0 (nat_lit 0)) :: (.ref (nat_lit 514)) :: (.int 383 (nat_lit 0)) :: (.int 0 (nat_lit 0)) :: (.ref (nat_lit 542)) :: (.int 389 (nat_lit 0)) :: (.int 0 (nat_lit 0)) :: (.ref (nat_lit 549)) :: (.int 395 (nat_lit 0)) :: (.int 0 (nat_lit 0)) :: (.ref (nat_lit 556)) :: (.int 405 (nat_lit 0)) :: (.int 0 (nat_lit 0)) :: (.ref (nat_lit 563)) :: (.int 407 (nat_lit 0)) :: (.int 0 (nat_lit 0)) :: (.ref (nat_lit 570)) :: (.int 409 (nat_lit 0)) :: (.int 0 (nat_lit 0)) :: (.ref (nat_lit 577)) :: (.int 413 (nat_lit 0)) :: (.int 0 (nat_lit 0)) :: (.ref (nat_lit 584)) :: (.int 417 (nat_lit 0)) :: (.int 0 (nat_lit 0)) :: (.ref (nat_lit 591)) :: (.int 425 (nat_lit 0)) :: (.int 0 (nat_lit 0)) :: (.ref (nat_lit 598)) :: (.int 441 (nat_lit 0)) :: (.int 0 (nat_lit 0)) :: (.ref (nat_lit 605)) :: (.int 446 (nat_lit 0)) :: (.int 0 (nat_lit 0)) :: (.ref (nat_lit 612)) :: (.int 449 (nat_lit 0)) :: (.int 0 (nat_lit 0)) :: (.ref (nat_lit 619)) :: (.int 461 (nat_lit 0)) :: (.int 0 (nat_lit 0)) :: (.ref (nat_lit 626)) :: (.int 484 (nat_lit 0)) :: (.int 0 (nat_lit 0)) :: (.ref (nat_lit 633)) :: (.int 497 (nat_lit 0)) :: (.int 0 (nat_lit 0)) :: (.ref (nat_lit 640)) :: (.int 504 (nat_lit 0)) :: (.int 0 (nat_lit 0)) :: (.ref (nat_lit 647)) :: (.int 518 (nat_lit 0)) :: (.int 0 (nat_lit 0)) :: (.ref (nat_lit 654)) :: (.int 528 (nat_lit 0)) :: (.int 0 (nat_lit 0)) :: (.ref (nat_lit 661)) :: (.int 530 (nat_lit 0)) :: (.int 0 (nat_lit 0)) :: (.ref (nat_lit 668)) :: (.int 532 (nat_lit 0)) :: (.int 0 (nat_lit 0)) :: (.ref (nat_lit 675)) :: (.int 534 (nat_lit 0)) :: (.int 0 (nat_lit 0)) :: (.ref (nat_lit 682)) :: (.int 538 (nat_lit 0)) :: (.int 0 (nat_lit 0)) :: (.ref (nat_lit 689)) :: (.int 540 (nat_lit 0)) :: (.int 0 (nat_lit 0)) :: (.ref (nat_lit 696)) :: (.int 542 (nat_lit 0)) :: (.int 0 (nat_lit 0)) :: (.ref (nat_lit 701)) :: (.int 549 (nat_lit 0)) :: (.int 0 (nat_lit 0)) :: (.ref (nat_lit 708)) :: (.int 554 (nat_lit 0)) :: (.int 0 (nat_lit 0)) :: (.ref (nat_lit 715)) :: (.int 557 (nat_lit 0)) :: (.int 0 (nat_lit 0)) :: (.ref (nat_lit 722)) :: (.int 573 (nat_lit 0)) :: (.int 0 (nat_lit 0)) :: (.ref (nat_lit 729)) :: (.int 576 (nat_lit 0)) :: (.int 0 (nat_lit 0)) :: (.ref (nat_lit 736)) :: (.int 578 (nat_lit 0)) :: (.int 0 (nat_lit 0)) :: (.ref (nat_lit 743)) :: (.int 581 (nat_lit 0)) :: (.int 0 (nat_lit 0)) :: (.ref (nat_lit 750)) :: (.int 595 (nat_lit 0)) :: (.int 0 (nat_lit 0)) :: (.ref (nat_lit 757)) :: (.int 598 (nat_lit 0)) :: (.int 0 (nat_lit 0)) :: (.ref (nat_lit 764)) :: (.int 609 (nat_lit 0)) :: (.int 0 (nat_lit 0)) :: (.ref (nat_lit 771)) :: (.int 611 (nat_lit 0)) :: (.int 0 (nat_lit 0)) :: (.ref (nat_lit 778)) :: (.int 613 (nat_lit 0)) :: (.int 0 (nat_lit 0)) :: (.ref (nat_lit 785)) :: (.int 616 (nat_lit 0)) :: (.int 0 (nat_lit 0)) :: (.ref (nat_lit 792)) :: (.int 618 (nat_lit 0)) :: (.int 0 (nat_lit 0)) :: (.ref (nat_lit 799)) :: (.int 621 (nat_lit 0)) :: (.int 0 (nat_lit 0)) :: (.ref (nat_lit 806)) :: (.int 624 (nat_lit 0)) :: (.int 0 (nat_lit 0)) :: (.ref (nat_lit 813)) :: (.int 626 (nat_lit 0)) :: (.int 0 (nat_lit 0)) :: (.ref (nat_lit 820)) :: (.int 632 (nat_lit 0)) :: (.int 0 (nat_lit 0)) :: (.ref (nat_lit 827)) :: (.int 637 (nat_lit 0)) :: (.int 0 (nat_lit 0)) :: (.ref (nat_lit 834)) :: (.int 639 (nat_lit 0)) :: (.int 0 (nat_lit 0)) :: (.ref (nat_lit 841)) :: (.int 641 (nat_lit 0)) :: (.int 0 (nat_lit 0)) :: (.ref (nat_lit 848)) :: (.int 656 (nat_lit 0)) :: (.int 0 (nat_lit 0)) :: (.ref (nat_lit 855)) :: (.int 661 (nat_lit 0)) :: (.int 0 (nat_lit 0)) :: (.ref (nat_lit 862)) :: (.int 666 (nat_lit 0)) :: (.int 0 (nat_lit 0)) :: (.ref (nat_lit 869)) :: (.int 670 (nat_lit 0)) :: (.int 0 (nat_lit 0)) :: (.ref (nat_lit 876)) :: (.int 676 (nat_lit 0)) :: (.int 0 (nat_lit 0)) :: (.ref (nat_lit 883)) :: (.int 680 (nat_lit 0)) :: (.int 0 (nat_lit 0)) :: (.ref (nat_lit 890)) :: (.int 687 (nat_lit 0)) :: (.int 0 (nat_lit 0)) :: (.ref (nat_lit 897)) :: (.int 692 (nat_lit 0)) :: (.int 0 (nat_lit 0)) :: (.ref (nat_lit 904)) :: (.int 700 (nat_lit 0)) :: (.int 0 (nat_lit 0)) :: (.ref (nat_lit 911)) :: (.int 706 (nat_lit 0)) :: (.int 0 (nat_lit 0)) :: (.ref (nat_lit 918)) :: (.int 709 (nat_lit 0)) :: (.int 0 (nat_lit 0)) :: (.ref (nat_lit 925)) :: (.int 711 (nat_lit 0)) :: (.int 0 (nat_lit 0)) :: (.ref (nat_lit 932)) :: (.int 717 (nat_lit 0)) :: (.int 0 (nat_lit 0)) :: (.ref (nat_lit 937)) :: (.int 729 (nat_lit 0)) :: (.int 0 (nat_lit 0)) :: (.ref (nat_lit 944)) :: (.int 735 (nat_lit 0)) :: (.int 0 (nat_lit 0)) :: (.ref (nat_lit 951)) :: (.int 743 (nat_lit 0)) :: (.int 0 (nat_lit 0)) :: (.ref (nat_lit 958)) :: (.int 752 (nat_lit 0)) :: (.int 0 (nat_lit 0)) :: (.ref (nat_lit 965)) :: (.int 754 (nat_lit 0)) :: (.int 0 (nat_lit 0)) :: (.ref (nat_lit 972)) :: (.int 761 (nat_lit 0)) :: (.int 0 (nat_lit 0)) :: (.ref (nat_lit 979)) :: (.int 766 (nat_lit 0)) :: (.int 0 (nat_lit 0)) :: (.ref (nat_lit 986)) :: (.int 770 (nat_lit 0)) :: (.int 0 (nat_lit 0)) :: (.ref (nat_lit 993)) :: (.int 778 (nat_lit 0)) :: (.int 0 (nat_lit 0)) :: (.ref (nat_lit 1000)) :: (.int 783 (nat_lit 0)) :: (.int 0 (nat_lit 0)) :: (.ref (nat_lit 1007)) :: (.int 791 (nat_lit 0)) :: (.int 0 (nat_lit 0)) :: (.ref (nat_lit 1014)) :: (.int 795 (nat_lit 0)) :: (.int 0 (nat_lit 0)) :: (.ref (nat_lit 1021)) :: (.int 797 (nat_lit 0)) :: (.int 0 (nat_lit 0)) :: (.ref (nat_lit 1028)) :: (.int 805 (nat_lit 0)) :: (.int 0 (nat_lit 0)) :: (.ref (nat_lit 1035)) :: (.int 814 (nat_lit 0)) :: (.int 0 (nat_lit 0)) :: (.ref (nat_lit 1042)) :: (.int 819 (nat_lit 0)) :: (.int 0 (nat_lit 0)) :: (.ref (nat_lit 1049)) :: (.int 835 (nat_lit 0)) :: (.int 0 (nat_lit 0)) :: (.ref (nat_lit 1056)) :: (.int 837 (nat_lit 0)) :: (.int 0 (nat_lit 0)) :: (.ref (nat_lit 1063)) :: (.int 840 (nat_lit 0)) :: (.int 0 (nat_lit 0)) :: (.ref (nat_lit 1070)) :: (.int 842 (nat_lit 0)) :: (.int 0 (nat_lit 0)) :: (.ref (nat_lit 1077)) :: (.int 858 (nat_lit 0)) :: (.int 0 (nat_lit 0)) :: (.ref (nat_lit 1084)) :: (.int 865 (nat_lit 0)) :: (.int 0 (nat_lit 0)) :: (.ref (nat_lit 1091)) :: (.int 902 (nat_lit 0)) :: (.int 0 (nat_lit 0)) :: (.ref (nat_lit 1140)) :: (.int 934 (nat_lit 0)) :: (.int 0 (nat_lit 0)) :: (.ref (nat_lit 1203)) :: (.int 965 (nat_lit 0)) :: (.int 0 (nat_lit 0)) :: (.ref (nat_lit 1254)) :: (.int 967 (nat_lit 0)) :: (.int 0 (nat_lit 0)) :: (.ref (nat_lit 1261)) :: (.int 992 (nat_lit 0)) :: (.int 0 (nat_lit 0)) :: (.ref (nat_lit 1310)) :: (.int 996 (nat_lit 0)) :: (.int 0 (nat_lit 0)) :: (.ref (nat_lit 1317)) :: (.int 1003 (nat_lit 0)) :: (.int 0 (nat_lit 0)) :: (.ref (nat_lit 1324)) :: (.int 1005 (nat_lit 0)) :: (.int 0 (nat_lit 0)) :: (.ref (nat_lit 1331)) :: (.int 1008 (nat_lit 0)) :: (.int 0 (nat_lit 0)) :: (.ref (nat_lit 1338)) :: (.int 1013 (nat_lit 0)) :: (.int 0 (nat_lit 0)) :: (.ref (nat_lit 1345)) :: (.int 1018 (nat_lit 0)) :: (.int 0 (nat_lit 0)) :: (.ref (nat_lit 1350)) :: (.int 1021 (nat_lit 0)) :: (.int 0 (nat_lit 0)) :: (.ref (nat_lit 1357)) :: (.int 1031 (nat_lit 0)) :: (.int 0 (nat_lit 0)) :: (.ref (nat_lit 1362)) :: (.int 1045 (nat_lit 0)) :: (.int 0 (nat_lit 0)) :: (.ref (nat_lit 1369)) :: (.int 1052 (nat_lit 0)) :: (.int 0 (nat_lit 0)) :: (.ref (nat_lit 1376)) :: (.int 1055 (nat_lit 0)) :: (.int 0 (nat_lit 0)) :: (.ref (nat_lit 1381)) :: (.int 1062 (nat_lit 0)) :: (.int 0 (nat_lit 0)) :: (.ref (nat_lit 1386)) :: []
noncomputable abbrev seqO (l : List Value) : Obj := ⟨.type "tuple", none, .seq (A l) (nat_lit 0), A []⟩
noncomputable abbrev fldO (l : List Value) : Obj := ⟨.none, none, .fields (A l), A []⟩
noncomputable def stL : List String → Nat → List Value
  | [], _ => []
  | s :: r, t => .str (S s) t :: stL r (Nat.succ t)
noncomputable def tly : List String → Nat → Nat
  | [], t => t
  | _ :: r, t => tly r (Nat.succ t)
noncomputable abbrev I0 (n : Nat) : Value := .int (Int.ofNat n) (nat_lit 0)
noncomputable abbrev CUT (t : Nat) : Value := .str (S "/claim/cut.py") t
noncomputable def fgp (st : Stmt) (nm q : String) (b T ln ac : Nat) (vs : List String) (mo dv : Value) : Nat → Obj
  | 2 => seqO (stL vs (T + 3))
  | 4 => ⟨.none, none, .func (fn st (S q) 0 .none .none .none .none .none 0), A []⟩
  | 5 => ⟨.type "code", none, .fields (A [.str (S nm) T, .str (S q) (T + 1), CUT (T + 2), I0 ln, I0 ac, I0 0, I0 0, I0 3, .ref b, .bool true, I0 181, .ref (b + 1), .none, .ref (b + 2), .ref (b + 3), .ref (b + 4), I0 (tly vs (T + 3)), I0 ln, CUT (tly vs (T + 4))]), A []⟩
  | 6 => ⟨.type "function", none, .func (fn st (S q) 3 dv .none .none mo (.ref (b + 5)) 0), A []⟩
  | 1 => fldO []
  | _ => seqO []
noncomputable abbrev F0 (f : Nat → Obj) : Obj := f (nat_lit 0)
noncomputable abbrev F1 (f : Nat → Obj) : Obj := f (nat_lit 1)
noncomputable abbrev F2 (f : Nat → Obj) : Obj := f (nat_lit 2)
noncomputable abbrev F3 (f : Nat → Obj) : Obj := f (nat_lit 3)
noncomputable abbrev F4 (f : Nat → Obj) : Obj := f (nat_lit 4)
noncomputable abbrev F5 (f : Nat → Obj) : Obj := f (nat_lit 5)
noncomputable abbrev F6 (f : Nat → Obj) : Obj := f (nat_lit 6)
noncomputable abbrev mo0 : Value := .str (S "outlinemill.errors") (nat_lit 187)
noncomputable abbrev mo1 : Value := .str (S "outlinemill.hint_calls") (nat_lit 250)
noncomputable abbrev mo2 : Value := .str (S "outlinemill.hint_code") (nat_lit 420)
noncomputable abbrev mo3 : Value := .str (S "outlinemill.hint_machine") (nat_lit 516)
noncomputable abbrev mo4 : Value := .str (S "outlinemill.hint_numbers") (nat_lit 622)
noncomputable abbrev mo5 : Value := .str (S "outlinemill.hint_moves") (nat_lit 719)
noncomputable abbrev mo6 : Value := .str (S "outlinemill.hint_marks") (nat_lit 828)
noncomputable abbrev mo7 : Value := .str (S "outlinemill.hint_rounds") (nat_lit 957)
noncomputable abbrev mo8 : Value := .str (S "outlinemill.hint_relations") (nat_lit 1034)
noncomputable abbrev mo9 : Value := .str (S "outlinemill.hint_stack") (nat_lit 1198)
noncomputable abbrev mo10 : Value := .str (S "outlinemill.hint_shifts") (nat_lit 1450)
noncomputable abbrev mo11 : Value := .str (S "outlinemill.hint_points") (nat_lit 1617)
noncomputable abbrev mo12 : Value := .str (S "outlinemill.hint_vectors") (nat_lit 1626)
noncomputable abbrev mo13 : Value := .str (S "outlinemill.hint_ops") (nat_lit 1796)
noncomputable abbrev mo14 : Value := .str (S "outlinemill.hint_state") (nat_lit 1805)
noncomputable abbrev mo15 : Value := .str (S "outlinemill.hint_work") (nat_lit 1889)
noncomputable abbrev mo16 : Value := .str (S "outlinemill.hint_zones") (nat_lit 2045)
noncomputable abbrev mo17 : Value := .str (S "law_qz0071_01") (nat_lit 2118)
noncomputable def o0 (P : Params) : Obj := boot_o_0 P
noncomputable def o1 (P : Params) : Obj := boot_o_1 P
noncomputable def o2 (P : Params) : Obj := ⟨.none, none, (.dict (A [E P "type.__subclasses__.Exception.0" (nat_lit 214) (.int 31 (nat_lit 0)), E P "type.__subclasses__.Exception.n" (nat_lit 215) (.int 1 (nat_lit 0))]) (nat_lit 2)), A []⟩
noncomputable def o3 (P : Params) : Obj := ⟨(.type "dict"), none, (.dict (A (List.take 179 (o3L P))) (nat_lit 179)), A []⟩
noncomputable def o4 (P : Params) : Obj := boot_o_4 P
noncomputable def o5 (P : Params) : Obj := boot_o_5 P
noncomputable def o6 (P : Params) : Obj := boot_o_6 P
noncomputable def o7 (P : Params) : Obj := boot_o_7 P
noncomputable def o8 (P : Params) : Obj := boot_o_8 P
noncomputable def o9 (P : Params) : Obj := boot_o_9 P
noncomputable def o10 (P : Params) : Obj := boot_o_10 P
noncomputable def o11 (P : Params) : Obj := ⟨(.type "tuple"), none, (.seq (A []) (nat_lit 0)), A []⟩
noncomputable def o12 (P : Params) : Obj := ⟨.none, none, (.fields (A (List.take 435 (o12L P)))), A []⟩
noncomputable def o13 (P : Params) : Obj := ⟨(.type "code"), none, (.fields (A [(.str (S "<module>") (nat_lit 182)), (.str (S "<module>") (nat_lit 183)), (.str (S "/claim/cut.py") (nat_lit 184)), (.int 1 (nat_lit 0)), (.int 0 (nat_lit 0)), (.int 0 (nat_lit 0)), (.int 0 (nat_lit 0)), (.int 0 (nat_lit 0)), (.ref (nat_lit 11)), (.bool false), (.int 181 (nat_lit 0)), (.ref (nat_lit 12)), .none, .none, .none, .none, (.int 185 (nat_lit 0)), (.int 1 (nat_lit 0)), (.str (S "/claim/cut.py") (nat_lit 186))])), A []⟩
noncomputable def o14 (P : Params) : Obj := ⟨(.type "frame"), none, .plain, A [some (.ref (nat_lit 13)), some (.ref (nat_lit 3)), some (.ref (nat_lit 3)), none, some (.str (S "__main__") (nat_lit 164)), none, some (.ref (nat_lit 0))]⟩
noncomputable def o15 (P : Params) : Obj := ⟨(.type "tuple"), none, (.seq (A [(.type "Exception")]) (nat_lit 0)), A []⟩
noncomputable def o16 (P : Params) : Obj := ⟨(.type "builtin_function_or_method"), none, (.fields (A [(.builtin "type.__prepare__"), (.type "type")])), A []⟩
noncomputable def o17 (P : Params) : Obj := ⟨(.type "dict"), none, (.dict (A [E P "__module__" (nat_lit 196) (.str (S "outlinemill.errors") (nat_lit 187)), E P "__qualname__" (nat_lit 198) (.str (S "MillError") (nat_lit 197)), E P "__firstlineno__" (nat_lit 200) (.int 2 (nat_lit 199)), E P "__init__" (nat_lit 208) (.ref (nat_lit 28)), E P "__static_attributes__" (nat_lit 210) (.ref (nat_lit 29))]) (nat_lit 5)), A []⟩
noncomputable def o18 (P : Params) : Obj := ⟨(.type "tuple"), none, (.seq (A []) (nat_lit 0)), A []⟩
noncomputable def o19 (P : Params) : Obj := ⟨.none, none, (.fields (A [(.int 4 (nat_lit 0)), (.int 4 (nat_lit 0)), (.ref (nat_lit 27))])), A []⟩
noncomputable def o20 (P : Params) : Obj := ⟨(.type "code"), none, (.fields (A [(.str (S "MillError") (nat_lit 191)), (.str (S "MillError") (nat_lit 192)), (.str (S "/claim/cut.py") (nat_lit 193)), (.int 2 (nat_lit 0)), (.int 0 (nat_lit 0)), (.int 0 (nat_lit 0)), (.int 0 (nat_lit 0)), (.int 0 (nat_lit 0)), (.ref (nat_lit 18)), (.bool false), (.int 181 (nat_lit 0)), (.ref (nat_lit 19)), .none, .none, .none, .none, (.int 194 (nat_lit 0)), (.int 2 (nat_lit 0)), (.str (S "/claim/cut.py") (nat_lit 195))])), A []⟩
noncomputable def o21 (P : Params) : Obj := ⟨(.type "frame"), none, .plain, A [some (.ref (nat_lit 20)), some (.ref (nat_lit 3)), some (.ref (nat_lit 17)), none, some (.str (S "outlinemill.errors") (nat_lit 187)), none, some (.ref (nat_lit 0))]⟩
noncomputable def g22 := fgp (met 1 0) "__init__" "MillError.__init__" (nat_lit 22) (nat_lit 201) (nat_lit 4) (nat_lit 2) ["self", "message"] mo0 .none
noncomputable def o29 (P : Params) : Obj := ⟨(.type "tuple"), none, (.seq (A [(.str (S "message") (nat_lit 209))]) (nat_lit 0)), A []⟩
noncomputable def o30 (P : Params) : Obj := ⟨(.type "dict"), none, (.dict (A [E P "__module__" (nat_lit 196) (.str (S "outlinemill.errors") (nat_lit 187)), E P "__firstlineno__" (nat_lit 200) (.int 2 (nat_lit 199)), E P "__init__" (nat_lit 208) (.ref (nat_lit 28)), E P "__static_attributes__" (nat_lit 210) (.ref (nat_lit 29)), E P "__weakref__" (nat_lit 212) (.ref (nat_lit 32)), E P "__doc__" (nat_lit 213) .none]) (nat_lit 3)), A []⟩
noncomputable def o31 (P : Params) : Obj := ⟨(.type "type"), none, (.cls { name := (S "MillError"), bases := [(.type "Exception")], mro := [(.ref (nat_lit 31)), (.type "Exception"), (.type "BaseException"), (.type "object")], ns := nat_lit 30, qualname := (S "MillError"), hasDict := true, slotNames := [], subclasses := [(.ref (nat_lit 44)), (.ref (nat_lit 56))], abstract := false, collection := none, hasDel := false }), A [some (.ref (nat_lit 15)), none, some (.str (S "MillError") (nat_lit 189)), some (.str (S "MillError") (nat_lit 197)), some (.builtin "Exception.__new__"), some (.bool true)]⟩
noncomputable def o32 (P : Params) : Obj := ⟨(.type "getset_descriptor"), none, (.fields (A [(.str (S "__weakref__") (nat_lit 211)), (.ref (nat_lit 31)), (.builtin "ExceptionGroup.__weakref__"), .none])), A []⟩
noncomputable def o33 (P : Params) : Obj := ⟨(.type "super"), none, (.fields (A [(.ref (nat_lit 31)), (.ref (nat_lit 31)), (.ref (nat_lit 31))])), A []⟩
noncomputable def o34 (P : Params) : Obj := ⟨(.type "builtin_function_or_method"), none, (.fields (A [(.builtin "object.__init_subclass__"), (.ref (nat_lit 31))])), A []⟩
noncomputable def o35 (P : Params) : Obj := ⟨(.type "tuple"), none, (.seq (A [(.ref (nat_lit 31))]) (nat_lit 0)), A []⟩
noncomputable def o36 (P : Params) : Obj := ⟨(.type "builtin_function_or_method"), none, (.fields (A [(.builtin "type.__prepare__"), (.type "type")])), A []⟩
noncomputable def o37 (P : Params) : Obj := ⟨(.type "dict"), none, (.dict (A [E P "__module__" (nat_lit 225) (.str (S "outlinemill.errors") (nat_lit 187)), E P "__qualname__" (nat_lit 227) (.str (S "HintFault") (nat_lit 226)), E P "__firstlineno__" (nat_lit 229) (.int 6 (nat_lit 228)), E P "__static_attributes__" (nat_lit 230) (.ref (nat_lit 42))]) (nat_lit 4)), A []⟩
noncomputable def o38 (P : Params) : Obj := ⟨(.type "tuple"), none, (.seq (A []) (nat_lit 0)), A []⟩
noncomputable def o39 (P : Params) : Obj := ⟨.none, none, (.fields (A [])), A []⟩
noncomputable def o40 (P : Params) : Obj := ⟨(.type "code"), none, (.fields (A [(.str (S "HintFault") (nat_lit 220)), (.str (S "HintFault") (nat_lit 221)), (.str (S "/claim/cut.py") (nat_lit 222)), (.int 6 (nat_lit 0)), (.int 0 (nat_lit 0)), (.int 0 (nat_lit 0)), (.int 0 (nat_lit 0)), (.int 0 (nat_lit 0)), (.ref (nat_lit 38)), (.bool false), (.int 181 (nat_lit 0)), (.ref (nat_lit 39)), .none, .none, .none, .none, (.int 223 (nat_lit 0)), (.int 6 (nat_lit 0)), (.str (S "/claim/cut.py") (nat_lit 224))])), A []⟩
noncomputable def o41 (P : Params) : Obj := ⟨(.type "frame"), none, .plain, A [some (.ref (nat_lit 40)), some (.ref (nat_lit 3)), some (.ref (nat_lit 37)), none, some (.str (S "outlinemill.errors") (nat_lit 187)), none, some (.ref (nat_lit 0))]⟩
noncomputable def o42 (P : Params) : Obj := ⟨(.type "tuple"), none, (.seq (A []) (nat_lit 0)), A []⟩
noncomputable def o43 (P : Params) : Obj := ⟨(.type "dict"), none, (.dict (A [E P "__module__" (nat_lit 225) (.str (S "outlinemill.errors") (nat_lit 187)), E P "__firstlineno__" (nat_lit 229) (.int 6 (nat_lit 228)), E P "__static_attributes__" (nat_lit 230) (.ref (nat_lit 42)), E P "__doc__" (nat_lit 231) .none]) (nat_lit 2)), A []⟩
noncomputable def o44 (P : Params) : Obj := ⟨(.type "type"), none, (.cls { name := (S "HintFault"), bases := [(.ref (nat_lit 31))], mro := [(.ref (nat_lit 44)), (.ref (nat_lit 31)), (.type "Exception"), (.type "BaseException"), (.type "object")], ns := nat_lit 43, qualname := (S "HintFault"), hasDict := true, slotNames := [], subclasses := [], abstract := false, collection := none, hasDel := false }), A [some (.ref (nat_lit 35)), none, some (.str (S "HintFault") (nat_lit 218)), some (.str (S "HintFault") (nat_lit 226)), some (.builtin "Exception.__new__"), some (.bool true)]⟩
noncomputable def o45 (P : Params) : Obj := ⟨(.type "super"), none, (.fields (A [(.ref (nat_lit 44)), (.ref (nat_lit 44)), (.ref (nat_lit 44))])), A []⟩
noncomputable def o46 (P : Params) : Obj := ⟨(.type "builtin_function_or_method"), none, (.fields (A [(.builtin "object.__init_subclass__"), (.ref (nat_lit 44))])), A []⟩
noncomputable def o47 (P : Params) : Obj := ⟨(.type "tuple"), none, (.seq (A [(.ref (nat_lit 31))]) (nat_lit 0)), A []⟩
noncomputable def o48 (P : Params) : Obj := ⟨(.type "builtin_function_or_method"), none, (.fields (A [(.builtin "type.__prepare__"), (.type "type")])), A []⟩
noncomputable def o49 (P : Params) : Obj := ⟨(.type "dict"), none, (.dict (A [E P "__module__" (nat_lit 241) (.str (S "outlinemill.errors") (nat_lit 187)), E P "__qualname__" (nat_lit 243) (.str (S "LimitFault") (nat_lit 242)), E P "__firstlineno__" (nat_lit 245) (.int 8 (nat_lit 244)), E P "__static_attributes__" (nat_lit 246) (.ref (nat_lit 54))]) (nat_lit 4)), A []⟩
noncomputable def o50 (P : Params) : Obj := ⟨(.type "tuple"), none, (.seq (A []) (nat_lit 0)), A []⟩
noncomputable def o51 (P : Params) : Obj := ⟨.none, none, (.fields (A [])), A []⟩
noncomputable def o52 (P : Params) : Obj := ⟨(.type "code"), none, (.fields (A [(.str (S "LimitFault") (nat_lit 236)), (.str (S "LimitFault") (nat_lit 237)), (.str (S "/claim/cut.py") (nat_lit 238)), (.int 8 (nat_lit 0)), (.int 0 (nat_lit 0)), (.int 0 (nat_lit 0)), (.int 0 (nat_lit 0)), (.int 0 (nat_lit 0)), (.ref (nat_lit 50)), (.bool false), (.int 181 (nat_lit 0)), (.ref (nat_lit 51)), .none, .none, .none, .none, (.int 239 (nat_lit 0)), (.int 8 (nat_lit 0)), (.str (S "/claim/cut.py") (nat_lit 240))])), A []⟩
noncomputable def o53 (P : Params) : Obj := ⟨(.type "frame"), none, .plain, A [some (.ref (nat_lit 52)), some (.ref (nat_lit 3)), some (.ref (nat_lit 49)), none, some (.str (S "outlinemill.errors") (nat_lit 187)), none, some (.ref (nat_lit 0))]⟩
noncomputable def o54 (P : Params) : Obj := ⟨(.type "tuple"), none, (.seq (A []) (nat_lit 0)), A []⟩
noncomputable def o55 (P : Params) : Obj := ⟨(.type "dict"), none, (.dict (A [E P "__module__" (nat_lit 241) (.str (S "outlinemill.errors") (nat_lit 187)), E P "__firstlineno__" (nat_lit 245) (.int 8 (nat_lit 244)), E P "__static_attributes__" (nat_lit 246) (.ref (nat_lit 54)), E P "__doc__" (nat_lit 247) .none]) (nat_lit 2)), A []⟩
noncomputable def o56 (P : Params) : Obj := ⟨(.type "type"), none, (.cls { name := (S "LimitFault"), bases := [(.ref (nat_lit 31))], mro := [(.ref (nat_lit 56)), (.ref (nat_lit 31)), (.type "Exception"), (.type "BaseException"), (.type "object")], ns := nat_lit 55, qualname := (S "LimitFault"), hasDict := true, slotNames := [], subclasses := [], abstract := false, collection := none, hasDel := false }), A [some (.ref (nat_lit 47)), none, some (.str (S "LimitFault") (nat_lit 234)), some (.str (S "LimitFault") (nat_lit 242)), some (.builtin "Exception.__new__"), some (.bool true)]⟩
noncomputable def o57 (P : Params) : Obj := ⟨(.type "super"), none, (.fields (A [(.ref (nat_lit 56)), (.ref (nat_lit 56)), (.ref (nat_lit 56))])), A []⟩
noncomputable def o58 (P : Params) : Obj := ⟨(.type "builtin_function_or_method"), none, (.fields (A [(.builtin "object.__init_subclass__"), (.ref (nat_lit 56))])), A []⟩
noncomputable def o59 (P : Params) : Obj := ⟨(.type "tuple"), none, (.seq (A []) (nat_lit 0)), A []⟩
noncomputable def o60 (P : Params) : Obj := ⟨(.type "builtin_function_or_method"), none, (.fields (A [(.builtin "type.__prepare__"), (.type "type")])), A []⟩
noncomputable def o61 (P : Params) : Obj := ⟨(.type "dict"), none, (.dict (A [E P "__module__" (nat_lit 259) (.str (S "outlinemill.hint_calls") (nat_lit 250)), E P "__qualname__" (nat_lit 261) (.str (S "Routine") (nat_lit 260)), E P "__firstlineno__" (nat_lit 263) (.int 11 (nat_lit 262)), E P "__init__" (nat_lit 272) (.ref (nat_lit 72)), E P "__static_attributes__" (nat_lit 275) (.ref (nat_lit 73))]) (nat_lit 5)), A []⟩
noncomputable def o62 (P : Params) : Obj := ⟨(.type "tuple"), none, (.seq (A []) (nat_lit 0)), A []⟩
noncomputable def o63 (P : Params) : Obj := ⟨.none, none, (.fields (A [(.int 13 (nat_lit 0)), (.int 4 (nat_lit 0)), (.ref (nat_lit 71))])), A []⟩
noncomputable def o64 (P : Params) : Obj := ⟨(.type "code"), none, (.fields (A [(.str (S "Routine") (nat_lit 254)), (.str (S "Routine") (nat_lit 255)), (.str (S "/claim/cut.py") (nat_lit 256)), (.int 11 (nat_lit 0)), (.int 0 (nat_lit 0)), (.int 0 (nat_lit 0)), (.int 0 (nat_lit 0)), (.int 0 (nat_lit 0)), (.ref (nat_lit 62)), (.bool false), (.int 181 (nat_lit 0)), (.ref (nat_lit 63)), .none, .none, .none, .none, (.int 257 (nat_lit 0)), (.int 11 (nat_lit 0)), (.str (S "/claim/cut.py") (nat_lit 258))])), A []⟩
noncomputable def o65 (P : Params) : Obj := ⟨(.type "frame"), none, .plain, A [some (.ref (nat_lit 64)), some (.ref (nat_lit 3)), some (.ref (nat_lit 61)), none, some (.str (S "outlinemill.hint_calls") (nat_lit 250)), none, some (.ref (nat_lit 0))]⟩
noncomputable def g66 := fgp (met 5 0) "__init__" "Routine.__init__" (nat_lit 66) (nat_lit 264) (nat_lit 13) (nat_lit 3) ["self", "code", "begin"] mo1 .none
noncomputable def o73 (P : Params) : Obj := ⟨(.type "tuple"), none, (.seq (A [(.str (S "begin") (nat_lit 273)), (.str (S "code") (nat_lit 274))]) (nat_lit 0)), A []⟩
noncomputable def o74 (P : Params) : Obj := ⟨(.type "dict"), none, (.dict (A [E P "__module__" (nat_lit 259) (.str (S "outlinemill.hint_calls") (nat_lit 250)), E P "__firstlineno__" (nat_lit 263) (.int 11 (nat_lit 262)), E P "__init__" (nat_lit 272) (.ref (nat_lit 72)), E P "__static_attributes__" (nat_lit 275) (.ref (nat_lit 73)), E P "__dict__" (nat_lit 277) (.ref (nat_lit 76)), E P "__weakref__" (nat_lit 279) (.ref (nat_lit 77)), E P "__doc__" (nat_lit 280) .none]) (nat_lit 4)), A []⟩
noncomputable def o75 (P : Params) : Obj := ⟨(.type "type"), none, (.cls { name := (S "Routine"), bases := [(.type "object")], mro := [(.ref (nat_lit 75)), (.type "object")], ns := nat_lit 74, qualname := (S "Routine"), hasDict := true, slotNames := [], subclasses := [], abstract := false, collection := none, hasDel := false }), A [none, none, some (.str (S "Routine") (nat_lit 252)), some (.str (S "Routine") (nat_lit 260)), some (.builtin "object.__new__"), some (.bool true)]⟩
noncomputable def o76 (P : Params) : Obj := ⟨(.type "getset_descriptor"), none, (.fields (A [(.str (S "__dict__") (nat_lit 276)), (.ref (nat_lit 75)), (.builtin "function.__dict__"), (.builtin "function.__dict__#set")])), A []⟩
noncomputable def o77 (P : Params) : Obj := ⟨(.type "getset_descriptor"), none, (.fields (A [(.str (S "__weakref__") (nat_lit 278)), (.ref (nat_lit 75)), (.builtin "ExceptionGroup.__weakref__"), .none])), A []⟩
noncomputable def o78 (P : Params) : Obj := ⟨(.type "super"), none, (.fields (A [(.ref (nat_lit 75)), (.ref (nat_lit 75)), (.ref (nat_lit 75))])), A []⟩
noncomputable def o79 (P : Params) : Obj := ⟨(.type "builtin_function_or_method"), none, (.fields (A [(.builtin "object.__init_subclass__"), (.ref (nat_lit 75))])), A []⟩
noncomputable def o80 (P : Params) : Obj := ⟨(.type "tuple"), none, (.seq (A []) (nat_lit 0)), A []⟩
noncomputable def o81 (P : Params) : Obj := ⟨(.type "builtin_function_or_method"), none, (.fields (A [(.builtin "type.__prepare__"), (.type "type")])), A []⟩
noncomputable def o82 (P : Params) : Obj := ⟨(.type "dict"), none, (.dict (A [E P "__module__" (nat_lit 290) (.str (S "outlinemill.hint_calls") (nat_lit 250)), E P "__qualname__" (nat_lit 292) (.str (S "Functions") (nat_lit 291)), E P "__firstlineno__" (nat_lit 294) (.int 16 (nat_lit 293)), E P "__init__" (nat_lit 301) (.ref (nat_lit 93)), E P "function" (nat_lit 309) (.ref (nat_lit 100)), E P "__static_attributes__" (nat_lit 312) (.ref (nat_lit 101))]) (nat_lit 6)), A []⟩
noncomputable def o83 (P : Params) : Obj := ⟨(.type "tuple"), none, (.seq (A []) (nat_lit 0)), A []⟩
noncomputable def o84 (P : Params) : Obj := ⟨.none, none, (.fields (A [(.int 18 (nat_lit 0)), (.int 4 (nat_lit 0)), (.ref (nat_lit 92)), (.int 22 (nat_lit 0)), (.int 4 (nat_lit 0)), (.ref (nat_lit 99))])), A []⟩
noncomputable def o85 (P : Params) : Obj := ⟨(.type "code"), none, (.fields (A [(.str (S "Functions") (nat_lit 285)), (.str (S "Functions") (nat_lit 286)), (.str (S "/claim/cut.py") (nat_lit 287)), (.int 16 (nat_lit 0)), (.int 0 (nat_lit 0)), (.int 0 (nat_lit 0)), (.int 0 (nat_lit 0)), (.int 0 (nat_lit 0)), (.ref (nat_lit 83)), (.bool false), (.int 181 (nat_lit 0)), (.ref (nat_lit 84)), .none, .none, .none, .none, (.int 288 (nat_lit 0)), (.int 16 (nat_lit 0)), (.str (S "/claim/cut.py") (nat_lit 289))])), A []⟩
noncomputable def o86 (P : Params) : Obj := ⟨(.type "frame"), none, .plain, A [some (.ref (nat_lit 85)), some (.ref (nat_lit 3)), some (.ref (nat_lit 82)), none, some (.str (S "outlinemill.hint_calls") (nat_lit 250)), none, some (.ref (nat_lit 0))]⟩
noncomputable def g87 := fgp (met 6 0) "__init__" "Functions.__init__" (nat_lit 87) (nat_lit 295) (nat_lit 18) (nat_lit 1) ["self"] mo1 .none
noncomputable def g94 := fgp (met 6 1) "function" "Functions.function" (nat_lit 94) (nat_lit 302) (nat_lit 22) (nat_lit 2) ["self", "number"] mo1 .none
noncomputable def o101 (P : Params) : Obj := ⟨(.type "tuple"), none, (.seq (A [(.str (S "functions") (nat_lit 310)), (.str (S "instructions") (nat_lit 311))]) (nat_lit 0)), A []⟩
noncomputable def o102 (P : Params) : Obj := ⟨(.type "dict"), none, (.dict (A [E P "__module__" (nat_lit 290) (.str (S "outlinemill.hint_calls") (nat_lit 250)), E P "__firstlineno__" (nat_lit 294) (.int 16 (nat_lit 293)), E P "__init__" (nat_lit 301) (.ref (nat_lit 93)), E P "function" (nat_lit 309) (.ref (nat_lit 100)), E P "__static_attributes__" (nat_lit 312) (.ref (nat_lit 101)), E P "__dict__" (nat_lit 314) (.ref (nat_lit 104)), E P "__weakref__" (nat_lit 316) (.ref (nat_lit 105)), E P "__doc__" (nat_lit 317) .none]) (nat_lit 4)), A []⟩
noncomputable def o103 (P : Params) : Obj := ⟨(.type "type"), none, (.cls { name := (S "Functions"), bases := [(.type "object")], mro := [(.ref (nat_lit 103)), (.type "object")], ns := nat_lit 102, qualname := (S "Functions"), hasDict := true, slotNames := [], subclasses := [], abstract := false, collection := none, hasDel := false }), A [none, none, some (.str (S "Functions") (nat_lit 283)), some (.str (S "Functions") (nat_lit 291)), some (.builtin "object.__new__"), some (.bool true)]⟩
noncomputable def o104 (P : Params) : Obj := ⟨(.type "getset_descriptor"), none, (.fields (A [(.str (S "__dict__") (nat_lit 313)), (.ref (nat_lit 103)), (.builtin "function.__dict__"), (.builtin "function.__dict__#set")])), A []⟩
noncomputable def o105 (P : Params) : Obj := ⟨(.type "getset_descriptor"), none, (.fields (A [(.str (S "__weakref__") (nat_lit 315)), (.ref (nat_lit 103)), (.builtin "ExceptionGroup.__weakref__"), .none])), A []⟩
noncomputable def o106 (P : Params) : Obj := ⟨(.type "super"), none, (.fields (A [(.ref (nat_lit 103)), (.ref (nat_lit 103)), (.ref (nat_lit 103))])), A []⟩
noncomputable def o107 (P : Params) : Obj := ⟨(.type "builtin_function_or_method"), none, (.fields (A [(.builtin "object.__init_subclass__"), (.ref (nat_lit 103))])), A []⟩
noncomputable def o108 (P : Params) : Obj := ⟨(.type "tuple"), none, (.seq (A []) (nat_lit 0)), A []⟩
noncomputable def o109 (P : Params) : Obj := ⟨(.type "builtin_function_or_method"), none, (.fields (A [(.builtin "type.__prepare__"), (.type "type")])), A []⟩
noncomputable def o110 (P : Params) : Obj := ⟨(.type "dict"), none, (.dict (A [E P "__module__" (nat_lit 327) (.str (S "outlinemill.hint_calls") (nat_lit 250)), E P "__qualname__" (nat_lit 329) (.str (S "Call") (nat_lit 328)), E P "__firstlineno__" (nat_lit 331) (.int 26 (nat_lit 330)), E P "__init__" (nat_lit 342) (.ref (nat_lit 121)), E P "__static_attributes__" (nat_lit 347) (.ref (nat_lit 122))]) (nat_lit 5)), A []⟩
noncomputable def o111 (P : Params) : Obj := ⟨(.type "tuple"), none, (.seq (A []) (nat_lit 0)), A []⟩
noncomputable def o112 (P : Params) : Obj := ⟨.none, none, (.fields (A [(.int 28 (nat_lit 0)), (.int 4 (nat_lit 0)), (.ref (nat_lit 120))])), A []⟩
noncomputable def o113 (P : Params) : Obj := ⟨(.type "code"), none, (.fields (A [(.str (S "Call") (nat_lit 322)), (.str (S "Call") (nat_lit 323)), (.str (S "/claim/cut.py") (nat_lit 324)), (.int 26 (nat_lit 0)), (.int 0 (nat_lit 0)), (.int 0 (nat_lit 0)), (.int 0 (nat_lit 0)), (.int 0 (nat_lit 0)), (.ref (nat_lit 111)), (.bool false), (.int 181 (nat_lit 0)), (.ref (nat_lit 112)), .none, .none, .none, .none, (.int 325 (nat_lit 0)), (.int 26 (nat_lit 0)), (.str (S "/claim/cut.py") (nat_lit 326))])), A []⟩
noncomputable def o114 (P : Params) : Obj := ⟨(.type "frame"), none, .plain, A [some (.ref (nat_lit 113)), some (.ref (nat_lit 3)), some (.ref (nat_lit 110)), none, some (.str (S "outlinemill.hint_calls") (nat_lit 250)), none, some (.ref (nat_lit 0))]⟩
noncomputable def g115 := fgp (met 7 0) "__init__" "Call.__init__" (nat_lit 115) (nat_lit 332) (nat_lit 28) (nat_lit 5) ["self", "code", "at", "routine", "left"] mo1 .none
noncomputable def o122 (P : Params) : Obj := ⟨(.type "tuple"), none, (.seq (A [(.str (S "at") (nat_lit 343)), (.str (S "code") (nat_lit 344)), (.str (S "left") (nat_lit 345)), (.str (S "routine") (nat_lit 346))]) (nat_lit 0)), A []⟩
noncomputable def o123 (P : Params) : Obj := ⟨(.type "dict"), none, (.dict (A [E P "__module__" (nat_lit 327) (.str (S "outlinemill.hint_calls") (nat_lit 250)), E P "__firstlineno__" (nat_lit 331) (.int 26 (nat_lit 330)), E P "__init__" (nat_lit 342) (.ref (nat_lit 121)), E P "__static_attributes__" (nat_lit 347) (.ref (nat_lit 122)), E P "__dict__" (nat_lit 349) (.ref (nat_lit 125)), E P "__weakref__" (nat_lit 351) (.ref (nat_lit 126)), E P "__doc__" (nat_lit 352) .none]) (nat_lit 4)), A []⟩
noncomputable def o124 (P : Params) : Obj := ⟨(.type "type"), none, (.cls { name := (S "Call"), bases := [(.type "object")], mro := [(.ref (nat_lit 124)), (.type "object")], ns := nat_lit 123, qualname := (S "Call"), hasDict := true, slotNames := [], subclasses := [], abstract := false, collection := none, hasDel := false }), A [none, none, some (.str (S "Call") (nat_lit 320)), some (.str (S "Call") (nat_lit 328)), some (.builtin "object.__new__"), some (.bool true)]⟩
noncomputable def o125 (P : Params) : Obj := ⟨(.type "getset_descriptor"), none, (.fields (A [(.str (S "__dict__") (nat_lit 348)), (.ref (nat_lit 124)), (.builtin "function.__dict__"), (.builtin "function.__dict__#set")])), A []⟩
noncomputable def o126 (P : Params) : Obj := ⟨(.type "getset_descriptor"), none, (.fields (A [(.str (S "__weakref__") (nat_lit 350)), (.ref (nat_lit 124)), (.builtin "ExceptionGroup.__weakref__"), .none])), A []⟩
noncomputable def o127 (P : Params) : Obj := ⟨(.type "super"), none, (.fields (A [(.ref (nat_lit 124)), (.ref (nat_lit 124)), (.ref (nat_lit 124))])), A []⟩
noncomputable def o128 (P : Params) : Obj := ⟨(.type "builtin_function_or_method"), none, (.fields (A [(.builtin "object.__init_subclass__"), (.ref (nat_lit 124))])), A []⟩
noncomputable def o129 (P : Params) : Obj := ⟨(.type "tuple"), none, (.seq (A []) (nat_lit 0)), A []⟩
noncomputable def o130 (P : Params) : Obj := ⟨(.type "builtin_function_or_method"), none, (.fields (A [(.builtin "type.__prepare__"), (.type "type")])), A []⟩
noncomputable def o131 (P : Params) : Obj := ⟨(.type "dict"), none, (.dict (A [E P "__module__" (nat_lit 362) (.str (S "outlinemill.hint_calls") (nat_lit 250)), E P "__qualname__" (nat_lit 364) (.str (S "Place") (nat_lit 363)), E P "__firstlineno__" (nat_lit 366) (.int 33 (nat_lit 365)), E P "__init__" (nat_lit 375) (.ref (nat_lit 142)), E P "is_over" (nat_lit 382) (.ref (nat_lit 149)), E P "go" (nat_lit 390) (.ref (nat_lit 156)), E P "call" (nat_lit 399) (.ref (nat_lit 163)), E P "leave" (nat_lit 407) (.ref (nat_lit 170)), E P "__static_attributes__" (nat_lit 412) (.ref (nat_lit 171))]) (nat_lit 9)), A []⟩
noncomputable def o132 (P : Params) : Obj := ⟨(.type "tuple"), none, (.seq (A []) (nat_lit 0)), A []⟩
noncomputable def o133 (P : Params) : Obj := ⟨.none, none, (.fields (A [(.int 35 (nat_lit 0)), (.int 4 (nat_lit 0)), (.ref (nat_lit 141)), (.int 41 (nat_lit 0)), (.int 4 (nat_lit 0)), (.ref (nat_lit 148)), (.int 44 (nat_lit 0)), (.int 4 (nat_lit 0)), (.ref (nat_lit 155)), (.int 49 (nat_lit 0)), (.int 4 (nat_lit 0)), (.ref (nat_lit 162)), (.int 57 (nat_lit 0)), (.int 4 (nat_lit 0)), (.ref (nat_lit 169))])), A []⟩
noncomputable def o134 (P : Params) : Obj := ⟨(.type "code"), none, (.fields (A [(.str (S "Place") (nat_lit 357)), (.str (S "Place") (nat_lit 358)), (.str (S "/claim/cut.py") (nat_lit 359)), (.int 33 (nat_lit 0)), (.int 0 (nat_lit 0)), (.int 0 (nat_lit 0)), (.int 0 (nat_lit 0)), (.int 0 (nat_lit 0)), (.ref (nat_lit 132)), (.bool false), (.int 181 (nat_lit 0)), (.ref (nat_lit 133)), .none, .none, .none, .none, (.int 360 (nat_lit 0)), (.int 33 (nat_lit 0)), (.str (S "/claim/cut.py") (nat_lit 361))])), A []⟩
noncomputable def o135 (P : Params) : Obj := ⟨(.type "frame"), none, .plain, A [some (.ref (nat_lit 134)), some (.ref (nat_lit 3)), some (.ref (nat_lit 131)), none, some (.str (S "outlinemill.hint_calls") (nat_lit 250)), none, some (.ref (nat_lit 0))]⟩
noncomputable def g136 := fgp (met 8 0) "__init__" "Place.__init__" (nat_lit 136) (nat_lit 367) (nat_lit 35) (nat_lit 3) ["self", "code", "most_calls"] mo1 .none
noncomputable def g143 := fgp (met 8 1) "is_over" "Place.is_over" (nat_lit 143) (nat_lit 376) (nat_lit 41) (nat_lit 1) ["self"] mo1 .none
noncomputable def g150 := fgp (met 8 2) "go" "Place.go" (nat_lit 150) (nat_lit 383) (nat_lit 44) (nat_lit 2) ["self", "at"] mo1 .none
noncomputable def g157 := fgp (met 8 3) "call" "Place.call" (nat_lit 157) (nat_lit 391) (nat_lit 49) (nat_lit 3) ["self", "routine", "many"] mo1 .none
noncomputable def g164 := fgp (met 8 4) "leave" "Place.leave" (nat_lit 164) (nat_lit 400) (nat_lit 57) (nat_lit 1) ["self", "call"] mo1 .none
noncomputable def o171 (P : Params) : Obj := ⟨(.type "tuple"), none, (.seq (A [(.str (S "at") (nat_lit 408)), (.str (S "calls") (nat_lit 409)), (.str (S "code") (nat_lit 410)), (.str (S "most_calls") (nat_lit 411))]) (nat_lit 0)), A []⟩
noncomputable def o172 (P : Params) : Obj := ⟨(.type "dict"), none, (.dict (A [E P "__module__" (nat_lit 362) (.str (S "outlinemill.hint_calls") (nat_lit 250)), E P "__firstlineno__" (nat_lit 366) (.int 33 (nat_lit 365)), E P "__init__" (nat_lit 375) (.ref (nat_lit 142)), E P "is_over" (nat_lit 382) (.ref (nat_lit 149)), E P "go" (nat_lit 390) (.ref (nat_lit 156)), E P "call" (nat_lit 399) (.ref (nat_lit 163)), E P "leave" (nat_lit 407) (.ref (nat_lit 170)), E P "__static_attributes__" (nat_lit 412) (.ref (nat_lit 171)), E P "__dict__" (nat_lit 414) (.ref (nat_lit 174)), E P "__weakref__" (nat_lit 416) (.ref (nat_lit 175)), E P "__doc__" (nat_lit 417) .none]) (nat_lit 4)), A []⟩
noncomputable def o173 (P : Params) : Obj := ⟨(.type "type"), none, (.cls { name := (S "Place"), bases := [(.type "object")], mro := [(.ref (nat_lit 173)), (.type "object")], ns := nat_lit 172, qualname := (S "Place"), hasDict := true, slotNames := [], subclasses := [], abstract := false, collection := none, hasDel := false }), A [none, none, some (.str (S "Place") (nat_lit 355)), some (.str (S "Place") (nat_lit 363)), some (.builtin "object.__new__"), some (.bool true)]⟩
noncomputable def o174 (P : Params) : Obj := ⟨(.type "getset_descriptor"), none, (.fields (A [(.str (S "__dict__") (nat_lit 413)), (.ref (nat_lit 173)), (.builtin "function.__dict__"), (.builtin "function.__dict__#set")])), A []⟩
noncomputable def o175 (P : Params) : Obj := ⟨(.type "getset_descriptor"), none, (.fields (A [(.str (S "__weakref__") (nat_lit 415)), (.ref (nat_lit 173)), (.builtin "ExceptionGroup.__weakref__"), .none])), A []⟩
noncomputable def o176 (P : Params) : Obj := ⟨(.type "super"), none, (.fields (A [(.ref (nat_lit 173)), (.ref (nat_lit 173)), (.ref (nat_lit 173))])), A []⟩
noncomputable def o177 (P : Params) : Obj := ⟨(.type "builtin_function_or_method"), none, (.fields (A [(.builtin "object.__init_subclass__"), (.ref (nat_lit 173))])), A []⟩
noncomputable def g178 := fgp (stm 21) "octet_at" "octet_at" (nat_lit 178) (nat_lit 444) (nat_lit 79) (nat_lit 2) ["code", "at"] mo2 .none
noncomputable def g185 := fgp (stm 22) "is_push" "is_push" (nat_lit 185) (nat_lit 452) (nat_lit 83) (nat_lit 1) ["op"] mo2 .none
noncomputable def g192 := fgp (stm 23) "push_shape" "push_shape" (nat_lit 192) (nat_lit 459) (nat_lit 85) (nat_lit 2) ["code", "at", "op"] mo2 .none
noncomputable def g199 := fgp (stm 24) "pushed" "pushed" (nat_lit 199) (nat_lit 468) (nat_lit 90) (nat_lit 2) ["code", "at", "begin", "many", "is_words", "size", "found", "index", "word"] mo2 .none
noncomputable def g206 := fgp (stm 25) "behind" "behind" (nat_lit 206) (nat_lit 483) (nat_lit 102) (nat_lit 2) ["code", "at", "op", "begin", "many", "is_words"] mo2 .none
noncomputable def g213 := fgp (stm 26) "behind_branch" "behind_branch" (nat_lit 213) (nat_lit 495) (nat_lit 108) (nat_lit 3) ["code", "at", "with_else", "depth", "op", "following"] mo2 .none
noncomputable def g220 := fgp (stm 27) "behind_function" "behind_function" (nat_lit 220) (nat_lit 507) (nat_lit 122) (nat_lit 2) ["code", "at", "op"] mo2 .none
noncomputable def o227 (P : Params) : Obj := ⟨(.type "tuple"), none, (.seq (A []) (nat_lit 0)), A []⟩
noncomputable def o228 (P : Params) : Obj := ⟨(.type "builtin_function_or_method"), none, (.fields (A [(.builtin "type.__prepare__"), (.type "type")])), A []⟩
noncomputable def o229 (P : Params) : Obj := ⟨(.type "dict"), none, (.dict (A [E P "__module__" (nat_lit 537) (.str (S "outlinemill.hint_machine") (nat_lit 516)), E P "__qualname__" (nat_lit 539) (.str (S "Machine") (nat_lit 538)), E P "__firstlineno__" (nat_lit 541) (.int 137 (nat_lit 540)), E P "__init__" (nat_lit 554) (.ref (nat_lit 241)), E P "run" (nat_lit 561) (.ref (nat_lit 248)), E P "step" (nat_lit 573) (.ref (nat_lit 255)), E P "branch" (nat_lit 582) (.ref (nat_lit 262)), E P "jump" (nat_lit 594) (.ref (nat_lit 269)), E P "routine" (nat_lit 607) (.ref (nat_lit 276)), E P "__static_attributes__" (nat_lit 614) (.ref (nat_lit 277))]) (nat_lit 10)), A []⟩
noncomputable def o230 (P : Params) : Obj := ⟨(.type "tuple"), none, (.seq (A []) (nat_lit 0)), A []⟩
noncomputable def o231 (P : Params) : Obj := ⟨.none, none, (.fields (A [(.int 139 (nat_lit 0)), (.int 4 (nat_lit 0)), (.ref (nat_lit 240)), (.int 147 (nat_lit 0)), (.int 4 (nat_lit 0)), (.ref (nat_lit 247)), (.int 155 (nat_lit 0)), (.int 4 (nat_lit 0)), (.ref (nat_lit 254)), (.int 180 (nat_lit 0)), (.int 4 (nat_lit 0)), (.ref (nat_lit 261)), (.int 187 (nat_lit 0)), (.int 4 (nat_lit 0)), (.ref (nat_lit 268)), (.int 198 (nat_lit 0)), (.int 4 (nat_lit 0)), (.ref (nat_lit 275))])), A []⟩
noncomputable def o232 (P : Params) : Obj := ⟨(.type "code"), none, (.fields (A [(.str (S "Machine") (nat_lit 532)), (.str (S "Machine") (nat_lit 533)), (.str (S "/claim/cut.py") (nat_lit 534)), (.int 137 (nat_lit 0)), (.int 0 (nat_lit 0)), (.int 0 (nat_lit 0)), (.int 0 (nat_lit 0)), (.int 0 (nat_lit 0)), (.ref (nat_lit 230)), (.bool false), (.int 181 (nat_lit 0)), (.ref (nat_lit 231)), .none, .none, .none, .none, (.int 535 (nat_lit 0)), (.int 137 (nat_lit 0)), (.str (S "/claim/cut.py") (nat_lit 536))])), A []⟩
noncomputable def o233 (P : Params) : Obj := ⟨(.type "frame"), none, .plain, A [some (.ref (nat_lit 232)), some (.ref (nat_lit 3)), some (.ref (nat_lit 229)), none, some (.str (S "outlinemill.hint_machine") (nat_lit 516)), none, some (.ref (nat_lit 0))]⟩
noncomputable def o234 (P : Params) : Obj := ⟨(.type "tuple"), none, (.seq (A [(.int 10000 (nat_lit 542))]) (nat_lit 0)), A []⟩
noncomputable def g235 := fgp (met 35 0) "__init__" "Machine.__init__" (nat_lit 235) (nat_lit 543) (nat_lit 139) (nat_lit 6) ["self", "program", "work", "ops", "functions", "most_steps"] mo3 (.ref (nat_lit 234))
noncomputable def g242 := fgp (met 35 1) "run" "Machine.run" (nat_lit 242) (nat_lit 555) (nat_lit 147) (nat_lit 1) ["self"] mo3 .none
noncomputable def g249 := fgp (met 35 2) "step" "Machine.step" (nat_lit 249) (nat_lit 562) (nat_lit 155) (nat_lit 1) ["self", "place", "begin", "op", "numbers", "number"] mo3 .none
noncomputable def g256 := fgp (met 35 3) "branch" "Machine.branch" (nat_lit 256) (nat_lit 574) (nat_lit 180) (nat_lit 2) ["self", "op", "place"] mo3 .none
noncomputable def g263 := fgp (met 35 4) "jump" "Machine.jump" (nat_lit 263) (nat_lit 583) (nat_lit 187) (nat_lit 3) ["self", "op", "begin", "is_taken", "told", "way"] mo3 .none
noncomputable def g270 := fgp (met 35 5) "routine" "Machine.routine" (nat_lit 270) (nat_lit 595) (nat_lit 198) (nat_lit 2) ["self", "op", "place", "routine", "known", "number", "end"] mo3 .none
noncomputable def o277 (P : Params) : Obj := ⟨(.type "tuple"), none, (.seq (A [(.str (S "functions") (nat_lit 608)), (.str (S "most_steps") (nat_lit 609)), (.str (S "ops") (nat_lit 610)), (.str (S "place") (nat_lit 611)), (.str (S "steps") (nat_lit 612)), (.str (S "work") (nat_lit 613))]) (nat_lit 0)), A []⟩
noncomputable def o278 (P : Params) : Obj := ⟨(.type "dict"), none, (.dict (A [E P "__module__" (nat_lit 537) (.str (S "outlinemill.hint_machine") (nat_lit 516)), E P "__firstlineno__" (nat_lit 541) (.int 137 (nat_lit 540)), E P "__init__" (nat_lit 554) (.ref (nat_lit 241)), E P "run" (nat_lit 561) (.ref (nat_lit 248)), E P "step" (nat_lit 573) (.ref (nat_lit 255)), E P "branch" (nat_lit 582) (.ref (nat_lit 262)), E P "jump" (nat_lit 594) (.ref (nat_lit 269)), E P "routine" (nat_lit 607) (.ref (nat_lit 276)), E P "__static_attributes__" (nat_lit 614) (.ref (nat_lit 277)), E P "__dict__" (nat_lit 616) (.ref (nat_lit 280)), E P "__weakref__" (nat_lit 618) (.ref (nat_lit 281)), E P "__doc__" (nat_lit 619) .none]) (nat_lit 4)), A []⟩
noncomputable def o279 (P : Params) : Obj := ⟨(.type "type"), none, (.cls { name := (S "Machine"), bases := [(.type "object")], mro := [(.ref (nat_lit 279)), (.type "object")], ns := nat_lit 278, qualname := (S "Machine"), hasDict := true, slotNames := [], subclasses := [], abstract := false, collection := none, hasDel := false }), A [none, none, some (.str (S "Machine") (nat_lit 530)), some (.str (S "Machine") (nat_lit 538)), some (.builtin "object.__new__"), some (.bool true)]⟩
noncomputable def o280 (P : Params) : Obj := ⟨(.type "getset_descriptor"), none, (.fields (A [(.str (S "__dict__") (nat_lit 615)), (.ref (nat_lit 279)), (.builtin "function.__dict__"), (.builtin "function.__dict__#set")])), A []⟩
noncomputable def o281 (P : Params) : Obj := ⟨(.type "getset_descriptor"), none, (.fields (A [(.str (S "__weakref__") (nat_lit 617)), (.ref (nat_lit 279)), (.builtin "ExceptionGroup.__weakref__"), .none])), A []⟩
noncomputable def o282 (P : Params) : Obj := ⟨(.type "super"), none, (.fields (A [(.ref (nat_lit 279)), (.ref (nat_lit 279)), (.ref (nat_lit 279))])), A []⟩
noncomputable def o283 (P : Params) : Obj := ⟨(.type "builtin_function_or_method"), none, (.fields (A [(.builtin "object.__init_subclass__"), (.ref (nat_lit 279))])), A []⟩
noncomputable def g284 := fgp (stm 39) "muldiv" "muldiv" (nat_lit 284) (nat_lit 628) (nat_lit 213) (nat_lit 3) ["a", "b", "c", "top"] mo4 .none
noncomputable def g291 := fgp (stm 40) "cut_div" "cut_div" (nat_lit 291) (nat_lit 638) (nat_lit 220) (nat_lit 3) ["a", "b", "c", "top"] mo4 .none
noncomputable def g298 := fgp (stm 41) "mul14" "mul14" (nat_lit 298) (nat_lit 648) (nat_lit 225) (nat_lit 2) ["a", "b"] mo4 .none
noncomputable def g305 := fgp (stm 42) "dot14" "dot14" (nat_lit 305) (nat_lit 656) (nat_lit 227) (nat_lit 3) ["x", "y", "vector"] mo4 .none
noncomputable def g312 := fgp (stm 43) "wrap32" "wrap32" (nat_lit 312) (nat_lit 665) (nat_lit 229) (nat_lit 1) ["n"] mo4 .none
noncomputable def g319 := fgp (stm 44) "signed16" "signed16" (nat_lit 319) (nat_lit 672) (nat_lit 231) (nat_lit 1) ["n"] mo4 .none
noncomputable def g326 := fgp (stm 45) "whole_root" "whole_root" (nat_lit 326) (nat_lit 679) (nat_lit 233) (nat_lit 1) ["n", "found"] mo4 .none
noncomputable def g333 := fgp (stm 46) "unit_part" "unit_part" (nat_lit 333) (nat_lit 687) (nat_lit 240) (nat_lit 2) ["x", "square", "size"] mo4 .none
noncomputable def g340 := fgp (stm 47) "unit" "unit" (nat_lit 340) (nat_lit 696) (nat_lit 243) (nat_lit 2) ["x", "y", "square"] mo4 .none
noncomputable def g347 := fgp (stm 48) "floor6" "floor6" (nat_lit 347) (nat_lit 705) (nat_lit 248) (nat_lit 1) ["n"] mo4 .none
noncomputable def g354 := fgp (stm 49) "ceiling6" "ceiling6" (nat_lit 354) (nat_lit 712) (nat_lit 250) (nat_lit 1) ["n"] mo4 .none
noncomputable def g361 := fgp (stm 51) "apart" "apart" (nat_lit 361) (nat_lit 721) (nat_lit 253) (nat_lit 2) ["one", "other"] mo5 .none
noncomputable def g368 := fgp (stm 52) "measured" "measured" (nat_lit 368) (nat_lit 729) (nat_lit 255) (nat_lit 3) ["state", "one", "other"] mo5 .none
noncomputable def g375 := fgp (stm 53) "dual_measured" "dual_measured" (nat_lit 375) (nat_lit 738) (nat_lit 257) (nat_lit 3) ["state", "one", "other"] mo5 .none
noncomputable def g382 := fgp (stm 54) "place_of" "place_of" (nat_lit 382) (nat_lit 747) (nat_lit 259) (nat_lit 3) ["state", "zone", "i"] mo5 .none
noncomputable def g389 := fgp (stm 55) "touch" "touch" (nat_lit 389) (nat_lit 756) (nat_lit 261) (nat_lit 3) ["state", "zone", "i"] mo5 .none
noncomputable def g396 := fgp (stm 56) "step_of" "step_of" (nat_lit 396) (nat_lit 765) (nat_lit 266) (nat_lit 2) ["state", "distance", "dot"] mo5 .none
noncomputable def g403 := fgp (stm 57) "shifted" "shifted" (nat_lit 403) (nat_lit 774) (nat_lit 269) (nat_lit 5) ["state", "zone", "i", "step", "is_touching", "x", "y"] mo5 .none
noncomputable def g410 := fgp (stm 58) "move_point" "move_point" (nat_lit 410) (nat_lit 787) (nat_lit 278) (nat_lit 4) ["work", "zone", "i", "distance"] mo5 .none
noncomputable def g417 := fgp (stm 59) "move_original" "move_original" (nat_lit 417) (nat_lit 797) (nat_lit 280) (nat_lit 4) ["work", "zone", "i", "distance", "x", "y", "across", "up"] mo5 .none
noncomputable def g424 := fgp (stm 60) "along_freedom" "along_freedom" (nat_lit 424) (nat_lit 811) (nat_lit 288) (nat_lit 2) ["state", "distance"] mo5 .none
noncomputable def g431 := fgp (stm 61) "put_both" "put_both" (nat_lit 431) (nat_lit 819) (nat_lit 290) (nat_lit 3) ["zone", "i", "place"] mo5 .none
noncomputable def o438 (P : Params) : Obj := ⟨(.type "tuple"), none, (.seq (A [(.int 0 (nat_lit 830)), (.int 0 (nat_lit 831))]) (nat_lit 0)), A []⟩
noncomputable def g439 := fgp (stm 64) "do_gc" "do_gc" (nat_lit 439) (nat_lit 833) (nat_lit 295) (nat_lit 2) ["work", "code", "zone", "i"] mo6 .none
noncomputable def g446 := fgp (stm 65) "do_scfs" "do_scfs" (nat_lit 446) (nat_lit 843) (nat_lit 302) (nat_lit 2) ["work", "code", "zone", "value", "i"] mo6 .none
noncomputable def g453 := fgp (stm 66) "do_md" "do_md" (nat_lit 453) (nat_lit 854) (nat_lit 309) (nat_lit 2) ["work", "code", "state", "other", "one", "first", "second"] mo6 .none
noncomputable def g460 := fgp (stm 67) "crossing" "crossing" (nat_lit 460) (nat_lit 867) (nat_lit 319) (nat_lit 4) ["first", "second", "third", "fourth", "one", "other", "turn", "along", "way", "share", "x"] mo6 .none
noncomputable def g467 := fgp (stm 68) "do_isect" "do_isect" (nat_lit 467) (nat_lit 884) (nat_lit 329) (nat_lit 2) ["work", "code", "state", "fourth", "third", "second", "first", "own", "i", "one", "other", "places"] mo6 .none
noncomputable def g474 := fgp (stm 69) "do_alignpts" "do_alignpts" (nat_lit 474) (nat_lit 902) (nat_lit 339) (nat_lit 2) ["work", "code", "state", "second", "first", "other", "one", "way", "half"] mo6 .none
noncomputable def g481 := fgp (stm 70) "do_utp" "do_utp" (nat_lit 481) (nat_lit 917) (nat_lit 347) (nat_lit 2) ["work", "code", "zone", "i"] mo6 .none
noncomputable def g488 := fgp (stm 71) "do_flippt" "do_flippt" (nat_lit 488) (nat_lit 927) (nat_lit 354) (nat_lit 2) ["work", "code", "zone", "turn", "i"] mo6 .none
noncomputable def g495 := fgp (stm 72) "do_flip_row" "do_flip_row" (nat_lit 495) (nat_lit 938) (nat_lit 359) (nat_lit 2) ["work", "code", "zone", "last", "first", "i"] mo6 .none
noncomputable def g502 := fgp (stm 73) "mark_ops" "mark_ops" (nat_lit 502) (nat_lit 950) (nat_lit 365) (nat_lit 0) ["found"] mo6 .none
noncomputable def o509 (P : Params) : Obj := ⟨(.type "tuple"), none, (.seq (A []) (nat_lit 0)), A []⟩
noncomputable def o510 (P : Params) : Obj := ⟨(.type "builtin_function_or_method"), none, (.fields (A [(.builtin "type.__prepare__"), (.type "type")])), A []⟩
noncomputable def o511 (P : Params) : Obj := ⟨(.type "dict"), none, (.dict (A [E P "__module__" (nat_lit 966) (.str (S "outlinemill.hint_rounds") (nat_lit 957)), E P "__qualname__" (nat_lit 968) (.str (S "Rounding") (nat_lit 967)), E P "__firstlineno__" (nat_lit 970) (.int 374 (nat_lit 969)), E P "__init__" (nat_lit 980) (.ref (nat_lit 522)), E P "row" (nat_lit 987) (.ref (nat_lit 529)), E P "__static_attributes__" (nat_lit 991) (.ref (nat_lit 530))]) (nat_lit 6)), A []⟩
noncomputable def o512 (P : Params) : Obj := ⟨(.type "tuple"), none, (.seq (A []) (nat_lit 0)), A []⟩
noncomputable def o513 (P : Params) : Obj := ⟨.none, none, (.fields (A [(.int 376 (nat_lit 0)), (.int 4 (nat_lit 0)), (.ref (nat_lit 521)), (.int 381 (nat_lit 0)), (.int 4 (nat_lit 0)), (.ref (nat_lit 528))])), A []⟩
noncomputable def o514 (P : Params) : Obj := ⟨(.type "code"), none, (.fields (A [(.str (S "Rounding") (nat_lit 961)), (.str (S "Rounding") (nat_lit 962)), (.str (S "/claim/cut.py") (nat_lit 963)), (.int 374 (nat_lit 0)), (.int 0 (nat_lit 0)), (.int 0 (nat_lit 0)), (.int 0 (nat_lit 0)), (.int 0 (nat_lit 0)), (.ref (nat_lit 512)), (.bool false), (.int 181 (nat_lit 0)), (.ref (nat_lit 513)), .none, .none, .none, .none, (.int 964 (nat_lit 0)), (.int 374 (nat_lit 0)), (.str (S "/claim/cut.py") (nat_lit 965))])), A []⟩
noncomputable def o515 (P : Params) : Obj := ⟨(.type "frame"), none, .plain, A [some (.ref (nat_lit 514)), some (.ref (nat_lit 3)), some (.ref (nat_lit 511)), none, some (.str (S "outlinemill.hint_rounds") (nat_lit 957)), none, some (.ref (nat_lit 0))]⟩
noncomputable def g516 := fgp (met 75 0) "__init__" "Rounding.__init__" (nat_lit 516) (nat_lit 971) (nat_lit 376) (nat_lit 4) ["self", "period", "phase", "threshold"] mo7 .none
noncomputable def g523 := fgp (met 75 1) "row" "Rounding.row" (nat_lit 523) (nat_lit 981) (nat_lit 381) (nat_lit 1) ["self"] mo7 .none
noncomputable def o530 (P : Params) : Obj := ⟨(.type "tuple"), none, (.seq (A [(.str (S "period") (nat_lit 988)), (.str (S "phase") (nat_lit 989)), (.str (S "threshold") (nat_lit 990))]) (nat_lit 0)), A []⟩
noncomputable def o531 (P : Params) : Obj := ⟨(.type "dict"), none, (.dict (A [E P "__module__" (nat_lit 966) (.str (S "outlinemill.hint_rounds") (nat_lit 957)), E P "__firstlineno__" (nat_lit 970) (.int 374 (nat_lit 969)), E P "__init__" (nat_lit 980) (.ref (nat_lit 522)), E P "row" (nat_lit 987) (.ref (nat_lit 529)), E P "__static_attributes__" (nat_lit 991) (.ref (nat_lit 530)), E P "__dict__" (nat_lit 993) (.ref (nat_lit 533)), E P "__weakref__" (nat_lit 995) (.ref (nat_lit 534)), E P "__doc__" (nat_lit 996) .none]) (nat_lit 4)), A []⟩
noncomputable def o532 (P : Params) : Obj := ⟨(.type "type"), none, (.cls { name := (S "Rounding"), bases := [(.type "object")], mro := [(.ref (nat_lit 532)), (.type "object")], ns := nat_lit 531, qualname := (S "Rounding"), hasDict := true, slotNames := [], subclasses := [], abstract := false, collection := none, hasDel := false }), A [none, none, some (.str (S "Rounding") (nat_lit 959)), some (.str (S "Rounding") (nat_lit 967)), some (.builtin "object.__new__"), some (.bool true)]⟩
noncomputable def o533 (P : Params) : Obj := ⟨(.type "getset_descriptor"), none, (.fields (A [(.str (S "__dict__") (nat_lit 992)), (.ref (nat_lit 532)), (.builtin "function.__dict__"), (.builtin "function.__dict__#set")])), A []⟩
noncomputable def o534 (P : Params) : Obj := ⟨(.type "getset_descriptor"), none, (.fields (A [(.str (S "__weakref__") (nat_lit 994)), (.ref (nat_lit 532)), (.builtin "ExceptionGroup.__weakref__"), .none])), A []⟩
noncomputable def o535 (P : Params) : Obj := ⟨(.type "super"), none, (.fields (A [(.ref (nat_lit 532)), (.ref (nat_lit 532)), (.ref (nat_lit 532))])), A []⟩
noncomputable def o536 (P : Params) : Obj := ⟨(.type "builtin_function_or_method"), none, (.fields (A [(.builtin "object.__init_subclass__"), (.ref (nat_lit 532))])), A []⟩
noncomputable def g537 := fgp (stm 76) "named" "named" (nat_lit 537) (nat_lit 999) (nat_lit 383) (nat_lit 1) ["word", "rows", "period", "phase", "threshold"] mo7 .none
noncomputable def g544 := fgp (stm 77) "super_rounding" "super_rounding" (nat_lit 544) (nat_lit 1010) (nat_lit 389) (nat_lit 2) ["selector", "grid14", "period", "phase", "low", "threshold"] mo7 .none
noncomputable def g551 := fgp (stm 78) "rounded" "rounded" (nat_lit 551) (nat_lit 1022) (nat_lit 395) (nat_lit 2) ["distance", "rounding", "period", "phase", "size", "found"] mo7 .none
noncomputable def g558 := fgp (stm 80) "size_of" "size_of" (nat_lit 558) (nat_lit 1036) (nat_lit 405) (nat_lit 1) ["number"] mo8 .none
noncomputable def g565 := fgp (stm 81) "signed_like" "signed_like" (nat_lit 565) (nat_lit 1043) (nat_lit 407) (nat_lit 2) ["size", "number"] mo8 .none
noncomputable def g572 := fgp (stm 82) "kept_apart" "kept_apart" (nat_lit 572) (nat_lit 1051) (nat_lit 409) (nat_lit 3) ["state", "distance", "original"] mo8 .none
noncomputable def g579 := fgp (stm 83) "of_single_width" "of_single_width" (nat_lit 579) (nat_lit 1060) (nat_lit 413) (nat_lit 3) ["state", "distance", "told"] mo8 .none
noncomputable def g586 := fgp (stm 84) "do_mdap" "do_mdap" (nat_lit 586) (nat_lit 1069) (nat_lit 417) (nat_lit 2) ["work", "code", "state", "i", "zone", "place"] mo8 .none
noncomputable def g593 := fgp (stm 85) "do_miap" "do_miap" (nat_lit 593) (nat_lit 1081) (nat_lit 425) (nat_lit 2) ["work", "code", "state", "value", "i", "zone", "place"] mo8 .none
noncomputable def g600 := fgp (stm 86) "refer" "refer" (nat_lit 600) (nat_lit 1094) (nat_lit 441) (nat_lit 3) ["state", "i", "is_first"] mo8 .none
noncomputable def g607 := fgp (stm 87) "anchor_of" "anchor_of" (nat_lit 607) (nat_lit 1103) (nat_lit 446) (nat_lit 1) ["work", "zone"] mo8 .none
noncomputable def g614 := fgp (stm 88) "do_mdrp" "do_mdrp" (nat_lit 614) (nat_lit 1111) (nat_lit 449) (nat_lit 2) ["work", "code", "state", "i", "anchor", "at", "zone", "original", "distance"] mo8 .none
noncomputable def g621 := fgp (stm 89) "do_mirp" "do_mirp" (nat_lit 621) (nat_lit 1126) (nat_lit 461) (nat_lit 2) ["work", "code", "state", "value", "i", "anchor", "at", "zone", "step", "original", "place"] mo8 .none
noncomputable def g628 := fgp (stm 90) "do_msirp" "do_msirp" (nat_lit 628) (nat_lit 1143) (nat_lit 484) (nat_lit 2) ["work", "code", "state", "distance", "i", "anchor", "at", "zone"] mo8 .none
noncomputable def g635 := fgp (stm 91) "do_alignrp" "do_alignrp" (nat_lit 635) (nat_lit 1157) (nat_lit 497) (nat_lit 2) ["work", "code", "state", "anchor", "at", "zone", "turn", "i"] mo8 .none
noncomputable def g642 := fgp (stm 92) "do_ip" "do_ip" (nat_lit 642) (nat_lit 1171) (nat_lit 504) (nat_lit 2) ["work", "code", "state", "zone", "end", "first", "last", "whole", "now", "own", "turn", "i", "distance"] mo8 .none
noncomputable def g649 := fgp (stm 93) "relation_ops" "relation_ops" (nat_lit 649) (nat_lit 1190) (nat_lit 518) (nat_lit 0) ["found", "code"] mo8 .none
noncomputable def g656 := fgp (stm 96) "do_dup" "do_dup" (nat_lit 656) (nat_lit 1202) (nat_lit 528) (nat_lit 2) ["work", "code"] mo9 .none
noncomputable def g663 := fgp (stm 97) "do_pop" "do_pop" (nat_lit 663) (nat_lit 1210) (nat_lit 530) (nat_lit 2) ["work", "code"] mo9 .none
noncomputable def g670 := fgp (stm 98) "do_clear" "do_clear" (nat_lit 670) (nat_lit 1218) (nat_lit 532) (nat_lit 2) ["work", "code"] mo9 .none
noncomputable def g677 := fgp (stm 99) "do_swap" "do_swap" (nat_lit 677) (nat_lit 1226) (nat_lit 534) (nat_lit 2) ["work", "code", "top", "below"] mo9 .none
noncomputable def g684 := fgp (stm 100) "do_depth" "do_depth" (nat_lit 684) (nat_lit 1236) (nat_lit 538) (nat_lit 2) ["work", "code"] mo9 .none
noncomputable def g691 := fgp (stm 101) "do_cindex" "do_cindex" (nat_lit 691) (nat_lit 1244) (nat_lit 540) (nat_lit 2) ["work", "code"] mo9 .none
noncomputable def o698 (P : Params) : Obj := ⟨(.type "tuple"), none, (.seq (A []) (nat_lit 0)), A []⟩
noncomputable def o699 (P : Params) : Obj := ⟨.none, none, (.fields (A [])), A []⟩
noncomputable def o700 (P : Params) : Obj := ⟨.none, none, (.func (fn (stm 102) (S "do_mindex") 0 .none .none .none .none .none 0)), A []⟩
noncomputable def o701 (P : Params) : Obj := ⟨(.type "code"), none, (.fields (A [(.str (S "do_mindex") (nat_lit 1252)), (.str (S "do_mindex") (nat_lit 1253)), (.str (S "/claim/cut.py") (nat_lit 1254)), (.int 542 (nat_lit 0)), (.int 2 (nat_lit 0)), (.int 0 (nat_lit 0)), (.int 0 (nat_lit 0)), (.int 3 (nat_lit 0)), (.ref (nat_lit 698)), (.bool true), (.int 181 (nat_lit 0)), (.ref (nat_lit 699)), .none, .none, .none, (.ref (nat_lit 700)), (.int 1255 (nat_lit 0)), (.int 542 (nat_lit 0)), (.str (S "/claim/cut.py") (nat_lit 1256))])), A []⟩
noncomputable def o702 (P : Params) : Obj := ⟨(.type "function"), none, (.func (fn (stm 102) (S "do_mindex") 3 .none .none .none (.str (S "outlinemill.hint_stack") (nat_lit 1198)) (.ref (nat_lit 701)) 0)), A []⟩
noncomputable def g703 := fgp (stm 103) "do_roll" "do_roll" (nat_lit 703) (nat_lit 1258) (nat_lit 549) (nat_lit 2) ["work", "code", "top", "second", "third"] mo9 .none
noncomputable def g710 := fgp (stm 104) "do_instctrl" "do_instctrl" (nat_lit 710) (nat_lit 1269) (nat_lit 554) (nat_lit 2) ["work", "code"] mo9 .none
noncomputable def g717 := fgp (stm 105) "compared" "compared" (nat_lit 717) (nat_lit 1277) (nat_lit 557) (nat_lit 3) ["code", "one", "other"] mo9 .none
noncomputable def g724 := fgp (stm 106) "do_compare" "do_compare" (nat_lit 724) (nat_lit 1286) (nat_lit 573) (nat_lit 2) ["work", "code", "other", "one"] mo9 .none
noncomputable def g731 := fgp (stm 107) "do_not" "do_not" (nat_lit 731) (nat_lit 1296) (nat_lit 576) (nat_lit 2) ["work", "code"] mo9 .none
noncomputable def g738 := fgp (stm 108) "do_odd" "do_odd" (nat_lit 738) (nat_lit 1304) (nat_lit 578) (nat_lit 2) ["work", "code", "is_odd"] mo9 .none
noncomputable def g745 := fgp (stm 109) "of_two" "of_two" (nat_lit 745) (nat_lit 1313) (nat_lit 581) (nat_lit 3) ["code", "one", "other"] mo9 .none
noncomputable def g752 := fgp (stm 110) "do_two" "do_two" (nat_lit 752) (nat_lit 1322) (nat_lit 595) (nat_lit 2) ["work", "code", "other", "one"] mo9 .none
noncomputable def g759 := fgp (stm 111) "do_one" "do_one" (nat_lit 759) (nat_lit 1332) (nat_lit 598) (nat_lit 2) ["work", "code", "number"] mo9 .none
noncomputable def g766 := fgp (stm 112) "do_round" "do_round" (nat_lit 766) (nat_lit 1341) (nat_lit 609) (nat_lit 2) ["work", "code"] mo9 .none
noncomputable def g773 := fgp (stm 113) "do_nothing" "do_nothing" (nat_lit 773) (nat_lit 1349) (nat_lit 611) (nat_lit 2) ["work", "code"] mo9 .none
noncomputable def g780 := fgp (stm 114) "do_ws" "do_ws" (nat_lit 780) (nat_lit 1357) (nat_lit 613) (nat_lit 2) ["work", "code", "value", "place"] mo9 .none
noncomputable def g787 := fgp (stm 115) "do_rs" "do_rs" (nat_lit 787) (nat_lit 1367) (nat_lit 616) (nat_lit 2) ["work", "code"] mo9 .none
noncomputable def g794 := fgp (stm 116) "do_wcvtp" "do_wcvtp" (nat_lit 794) (nat_lit 1375) (nat_lit 618) (nat_lit 2) ["work", "code", "value", "place"] mo9 .none
noncomputable def g801 := fgp (stm 117) "do_wcvtf" "do_wcvtf" (nat_lit 801) (nat_lit 1385) (nat_lit 621) (nat_lit 2) ["work", "code", "value", "place"] mo9 .none
noncomputable def g808 := fgp (stm 118) "do_rcvt" "do_rcvt" (nat_lit 808) (nat_lit 1395) (nat_lit 624) (nat_lit 2) ["work", "code"] mo9 .none
noncomputable def g815 := fgp (stm 119) "delta_of" "delta_of" (nat_lit 815) (nat_lit 1403) (nat_lit 626) (nat_lit 3) ["work", "argument", "base", "step"] mo9 .none
noncomputable def g822 := fgp (stm 120) "do_deltac" "do_deltac" (nat_lit 822) (nat_lit 1413) (nat_lit 632) (nat_lit 2) ["work", "code", "base", "turn", "place", "argument"] mo9 .none
noncomputable def g829 := fgp (stm 121) "do_size" "do_size" (nat_lit 829) (nat_lit 1425) (nat_lit 637) (nat_lit 2) ["work", "code"] mo9 .none
noncomputable def g836 := fgp (stm 122) "do_getinfo" "do_getinfo" (nat_lit 836) (nat_lit 1433) (nat_lit 639) (nat_lit 2) ["work", "code"] mo9 .none
noncomputable def g843 := fgp (stm 123) "stack_ops" "stack_ops" (nat_lit 843) (nat_lit 1441) (nat_lit 641) (nat_lit 0) ["found", "code", "low"] mo9 .none
noncomputable def g850 := fgp (stm 125) "reference" "reference" (nat_lit 850) (nat_lit 1452) (nat_lit 656) (nat_lit 2) ["work", "code", "state", "zone", "i"] mo10 .none
noncomputable def g857 := fgp (stm 126) "do_shp" "do_shp" (nat_lit 857) (nat_lit 1463) (nat_lit 661) (nat_lit 2) ["work", "code", "zone", "at", "step", "own", "turn"] mo10 .none
noncomputable def g864 := fgp (stm 127) "bounds_of" "bounds_of" (nat_lit 864) (nat_lit 1476) (nat_lit 666) (nat_lit 2) ["zone", "contour"] mo10 .none
noncomputable def g871 := fgp (stm 128) "shift_row" "shift_row" (nat_lit 871) (nat_lit 1484) (nat_lit 670) (nat_lit 5) ["work", "code", "first", "last", "is_touching", "zone", "at", "step", "own", "i"] mo10 .none
noncomputable def g878 := fgp (stm 129) "do_shc" "do_shc" (nat_lit 878) (nat_lit 1500) (nat_lit 676) (nat_lit 2) ["work", "code", "contour", "first", "last"] mo10 .none
noncomputable def g885 := fgp (stm 130) "do_shz" "do_shz" (nat_lit 885) (nat_lit 1511) (nat_lit 680) (nat_lit 2) ["work", "code", "own", "last"] mo10 .none
noncomputable def g892 := fgp (stm 131) "do_shpix" "do_shpix" (nat_lit 892) (nat_lit 1521) (nat_lit 687) (nat_lit 2) ["work", "code", "step", "own", "turn"] mo10 .none
noncomputable def g899 := fgp (stm 132) "do_deltap" "do_deltap" (nat_lit 899) (nat_lit 1532) (nat_lit 692) (nat_lit 2) ["work", "code", "base", "zone", "turn", "i", "argument", "distance"] mo10 .none
noncomputable def g906 := fgp (stm 133) "drawn_place" "drawn_place" (nat_lit 906) (nat_lit 1546) (nat_lit 700) (nat_lit 3) ["original", "first", "last"] mo10 .none
noncomputable def g913 := fgp (stm 134) "put_part" "put_part" (nat_lit 913) (nat_lit 1555) (nat_lit 706) (nat_lit 4) ["zone", "i", "axis", "number", "x", "y"] mo10 .none
noncomputable def g920 := fgp (stm 135) "pair_of" "pair_of" (nat_lit 920) (nat_lit 1567) (nat_lit 709) (nat_lit 3) ["zone", "i", "axis"] mo10 .none
noncomputable def g927 := fgp (stm 136) "draw_between" "draw_between" (nat_lit 927) (nat_lit 1576) (nat_lit 711) (nat_lit 5) ["zone", "axis", "numbers", "one", "other", "first", "last", "i"] mo10 .none
noncomputable def o934 (P : Params) : Obj := ⟨(.type "tuple"), none, (.seq (A []) (nat_lit 0)), A []⟩
noncomputable def o935 (P : Params) : Obj := ⟨.none, none, (.fields (A [])), A []⟩
noncomputable def o936 (P : Params) : Obj := ⟨.none, none, (.func (fn (stm 137) (S "draw_contour") 0 .none .none .none .none .none 0)), A []⟩
noncomputable def o937 (P : Params) : Obj := ⟨(.type "code"), none, (.fields (A [(.str (S "draw_contour") (nat_lit 1590)), (.str (S "draw_contour") (nat_lit 1591)), (.str (S "/claim/cut.py") (nat_lit 1592)), (.int 717 (nat_lit 0)), (.int 4 (nat_lit 0)), (.int 0 (nat_lit 0)), (.int 0 (nat_lit 0)), (.int 3 (nat_lit 0)), (.ref (nat_lit 934)), (.bool true), (.int 181 (nat_lit 0)), (.ref (nat_lit 935)), .none, .none, .none, (.ref (nat_lit 936)), (.int 1593 (nat_lit 0)), (.int 717 (nat_lit 0)), (.str (S "/claim/cut.py") (nat_lit 1594))])), A []⟩
noncomputable def o938 (P : Params) : Obj := ⟨(.type "function"), none, (.func (fn (stm 137) (S "draw_contour") 3 .none .none .none (.str (S "outlinemill.hint_shifts") (nat_lit 1450)) (.ref (nat_lit 937)) 0)), A []⟩
noncomputable def g939 := fgp (stm 138) "do_iup" "do_iup" (nat_lit 939) (nat_lit 1596) (nat_lit 729) (nat_lit 2) ["work", "code", "axis", "zone", "contour", "first", "last"] mo10 .none
noncomputable def g946 := fgp (stm 139) "shift_ops" "shift_ops" (nat_lit 946) (nat_lit 1609) (nat_lit 735) (nat_lit 0) ["found", "code"] mo10 .none
noncomputable def g953 := fgp (stm 141) "point_ops" "point_ops" (nat_lit 953) (nat_lit 1619) (nat_lit 743) (nat_lit 0) ["found"] mo11 .none
noncomputable def g960 := fgp (stm 146) "axis_of" "axis_of" (nat_lit 960) (nat_lit 1634) (nat_lit 752) (nat_lit 1) ["code"] mo12 .none
noncomputable def g967 := fgp (stm 147) "do_axes" "do_axes" (nat_lit 967) (nat_lit 1641) (nat_lit 754) (nat_lit 2) ["work", "code", "state"] mo12 .none
noncomputable def g974 := fgp (stm 148) "line_vector" "line_vector" (nat_lit 974) (nat_lit 1650) (nat_lit 761) (nat_lit 3) ["first", "second", "is_turned", "dx", "dy"] mo12 .none
noncomputable def g981 := fgp (stm 149) "two_points" "two_points" (nat_lit 981) (nat_lit 1661) (nat_lit 766) (nat_lit 1) ["work", "top", "below", "second", "first"] mo12 .none
noncomputable def g988 := fgp (stm 150) "do_line" "do_line" (nat_lit 988) (nat_lit 1672) (nat_lit 770) (nat_lit 2) ["work", "code", "from_zone", "start", "to_zone", "end", "vector"] mo12 .none
noncomputable def g995 := fgp (stm 151) "do_dual_line" "do_dual_line" (nat_lit 995) (nat_lit 1685) (nat_lit 778) (nat_lit 2) ["work", "code", "from_zone", "start", "to_zone", "end", "is_turned"] mo12 .none
noncomputable def g1002 := fgp (stm 152) "do_from_stack" "do_from_stack" (nat_lit 1002) (nat_lit 1698) (nat_lit 783) (nat_lit 2) ["work", "code", "y", "x", "vector"] mo12 .none
noncomputable def g1009 := fgp (stm 153) "do_tell" "do_tell" (nat_lit 1009) (nat_lit 1709) (nat_lit 791) (nat_lit 2) ["work", "code", "vector"] mo12 .none
noncomputable def g1016 := fgp (stm 154) "do_free_as_projection" "do_free_as_projection" (nat_lit 1016) (nat_lit 1718) (nat_lit 795) (nat_lit 2) ["work", "code"] mo12 .none
noncomputable def g1023 := fgp (stm 155) "do_point" "do_point" (nat_lit 1023) (nat_lit 1726) (nat_lit 797) (nat_lit 2) ["work", "code", "number"] mo12 .none
noncomputable def g1030 := fgp (stm 156) "do_zone" "do_zone" (nat_lit 1030) (nat_lit 1735) (nat_lit 805) (nat_lit 2) ["work", "code", "number"] mo12 .none
noncomputable def g1037 := fgp (stm 157) "do_loop" "do_loop" (nat_lit 1037) (nat_lit 1744) (nat_lit 814) (nat_lit 2) ["work", "code", "number"] mo12 .none
noncomputable def g1044 := fgp (stm 158) "do_distance" "do_distance" (nat_lit 1044) (nat_lit 1753) (nat_lit 819) (nat_lit 2) ["work", "code", "number", "state"] mo12 .none
noncomputable def g1051 := fgp (stm 159) "do_flip" "do_flip" (nat_lit 1051) (nat_lit 1763) (nat_lit 835) (nat_lit 2) ["work", "code"] mo12 .none
noncomputable def g1058 := fgp (stm 160) "do_rounding" "do_rounding" (nat_lit 1058) (nat_lit 1771) (nat_lit 837) (nat_lit 2) ["work", "code", "words"] mo12 .none
noncomputable def g1065 := fgp (stm 161) "do_super" "do_super" (nat_lit 1065) (nat_lit 1780) (nat_lit 840) (nat_lit 2) ["work", "code"] mo12 .none
noncomputable def g1072 := fgp (stm 162) "vector_ops" "vector_ops" (nat_lit 1072) (nat_lit 1788) (nat_lit 842) (nat_lit 0) ["found", "code"] mo12 .none
noncomputable def g1079 := fgp (stm 164) "all_ops" "all_ops" (nat_lit 1079) (nat_lit 1798) (nat_lit 858) (nat_lit 0) ["found"] mo13 .none
noncomputable def o1086 (P : Params) : Obj := ⟨(.type "tuple"), none, (.seq (A []) (nat_lit 0)), A []⟩
noncomputable def o1087 (P : Params) : Obj := ⟨(.type "builtin_function_or_method"), none, (.fields (A [(.builtin "type.__prepare__"), (.type "type")])), A []⟩
noncomputable def o1088 (P : Params) : Obj := ⟨(.type "dict"), none, (.dict (A [E P "__module__" (nat_lit 1816) (.str (S "outlinemill.hint_state") (nat_lit 1805)), E P "__qualname__" (nat_lit 1818) (.str (S "GraphicsState") (nat_lit 1817)), E P "__firstlineno__" (nat_lit 1820) (.int 865 (nat_lit 1819)), E P "__init__" (nat_lit 1827) (.ref (nat_lit 1099)), E P "free_dot" (nat_lit 1835) (.ref (nat_lit 1106)), E P "projected" (nat_lit 1844) (.ref (nat_lit 1113)), E P "dual_projected" (nat_lit 1853) (.ref (nat_lit 1120)), E P "row" (nat_lit 1862) (.ref (nat_lit 1127)), E P "__static_attributes__" (nat_lit 1881) (.ref (nat_lit 1128))]) (nat_lit 9)), A []⟩
noncomputable def o1089 (P : Params) : Obj := ⟨(.type "tuple"), none, (.seq (A []) (nat_lit 0)), A []⟩
noncomputable def o1090 (P : Params) : Obj := ⟨.none, none, (.fields (A [(.int 867 (nat_lit 0)), (.int 4 (nat_lit 0)), (.ref (nat_lit 1098)), (.int 887 (nat_lit 0)), (.int 4 (nat_lit 0)), (.ref (nat_lit 1105)), (.int 891 (nat_lit 0)), (.int 4 (nat_lit 0)), (.ref (nat_lit 1112)), (.int 894 (nat_lit 0)), (.int 4 (nat_lit 0)), (.ref (nat_lit 1119)), (.int 897 (nat_lit 0)), (.int 4 (nat_lit 0)), (.ref (nat_lit 1126))])), A []⟩
noncomputable def o1091 (P : Params) : Obj := ⟨(.type "code"), none, (.fields (A [(.str (S "GraphicsState") (nat_lit 1811)), (.str (S "GraphicsState") (nat_lit 1812)), (.str (S "/claim/cut.py") (nat_lit 1813)), (.int 865 (nat_lit 0)), (.int 0 (nat_lit 0)), (.int 0 (nat_lit 0)), (.int 0 (nat_lit 0)), (.int 0 (nat_lit 0)), (.ref (nat_lit 1089)), (.bool false), (.int 181 (nat_lit 0)), (.ref (nat_lit 1090)), .none, .none, .none, .none, (.int 1814 (nat_lit 0)), (.int 865 (nat_lit 0)), (.str (S "/claim/cut.py") (nat_lit 1815))])), A []⟩
noncomputable def o1092 (P : Params) : Obj := ⟨(.type "frame"), none, .plain, A [some (.ref (nat_lit 1091)), some (.ref (nat_lit 3)), some (.ref (nat_lit 1088)), none, some (.str (S "outlinemill.hint_state") (nat_lit 1805)), none, some (.ref (nat_lit 0))]⟩
noncomputable def g1093 := fgp (met 167 0) "__init__" "GraphicsState.__init__" (nat_lit 1093) (nat_lit 1821) (nat_lit 867) (nat_lit 1) ["self"] mo14 .none
noncomputable def g1100 := fgp (met 167 1) "free_dot" "GraphicsState.free_dot" (nat_lit 1100) (nat_lit 1828) (nat_lit 887) (nat_lit 1) ["self", "found"] mo14 .none
noncomputable def g1107 := fgp (met 167 2) "projected" "GraphicsState.projected" (nat_lit 1107) (nat_lit 1836) (nat_lit 891) (nat_lit 3) ["self", "dx", "dy"] mo14 .none
noncomputable def g1114 := fgp (met 167 3) "dual_projected" "GraphicsState.dual_projected" (nat_lit 1114) (nat_lit 1845) (nat_lit 894) (nat_lit 3) ["self", "dx", "dy"] mo14 .none
noncomputable def g1121 := fgp (met 167 4) "row" "GraphicsState.row" (nat_lit 1121) (nat_lit 1854) (nat_lit 897) (nat_lit 1) ["self", "points", "widths"] mo14 .none
noncomputable def o1128 (P : Params) : Obj := ⟨(.type "tuple"), none, (.seq (A [(.str (S "auto_flip") (nat_lit 1863)), (.str (S "cut_in") (nat_lit 1864)), (.str (S "delta_base") (nat_lit 1865)), (.str (S "delta_shift") (nat_lit 1866)), (.str (S "dual") (nat_lit 1867)), (.str (S "freedom") (nat_lit 1868)), (.str (S "loop") (nat_lit 1869)), (.str (S "minimum") (nat_lit 1870)), (.str (S "projection") (nat_lit 1871)), (.str (S "rounding") (nat_lit 1872)), (.str (S "rp0") (nat_lit 1873)), (.str (S "rp1") (nat_lit 1874)), (.str (S "rp2") (nat_lit 1875)), (.str (S "single_cut_in") (nat_lit 1876)), (.str (S "single_width") (nat_lit 1877)), (.str (S "zp0") (nat_lit 1878)), (.str (S "zp1") (nat_lit 1879)), (.str (S "zp2") (nat_lit 1880))]) (nat_lit 0)), A []⟩
noncomputable def o1129 (P : Params) : Obj := ⟨(.type "dict"), none, (.dict (A [E P "__module__" (nat_lit 1816) (.str (S "outlinemill.hint_state") (nat_lit 1805)), E P "__firstlineno__" (nat_lit 1820) (.int 865 (nat_lit 1819)), E P "__init__" (nat_lit 1827) (.ref (nat_lit 1099)), E P "free_dot" (nat_lit 1835) (.ref (nat_lit 1106)), E P "projected" (nat_lit 1844) (.ref (nat_lit 1113)), E P "dual_projected" (nat_lit 1853) (.ref (nat_lit 1120)), E P "row" (nat_lit 1862) (.ref (nat_lit 1127)), E P "__static_attributes__" (nat_lit 1881) (.ref (nat_lit 1128)), E P "__dict__" (nat_lit 1883) (.ref (nat_lit 1131)), E P "__weakref__" (nat_lit 1885) (.ref (nat_lit 1132)), E P "__doc__" (nat_lit 1886) .none]) (nat_lit 4)), A []⟩
noncomputable def o1130 (P : Params) : Obj := ⟨(.type "type"), none, (.cls { name := (S "GraphicsState"), bases := [(.type "object")], mro := [(.ref (nat_lit 1130)), (.type "object")], ns := nat_lit 1129, qualname := (S "GraphicsState"), hasDict := true, slotNames := [], subclasses := [], abstract := false, collection := none, hasDel := false }), A [none, none, some (.str (S "GraphicsState") (nat_lit 1809)), some (.str (S "GraphicsState") (nat_lit 1817)), some (.builtin "object.__new__"), some (.bool true)]⟩
noncomputable def o1131 (P : Params) : Obj := ⟨(.type "getset_descriptor"), none, (.fields (A [(.str (S "__dict__") (nat_lit 1882)), (.ref (nat_lit 1130)), (.builtin "function.__dict__"), (.builtin "function.__dict__#set")])), A []⟩
noncomputable def o1132 (P : Params) : Obj := ⟨(.type "getset_descriptor"), none, (.fields (A [(.str (S "__weakref__") (nat_lit 1884)), (.ref (nat_lit 1130)), (.builtin "ExceptionGroup.__weakref__"), .none])), A []⟩
noncomputable def o1133 (P : Params) : Obj := ⟨(.type "super"), none, (.fields (A [(.ref (nat_lit 1130)), (.ref (nat_lit 1130)), (.ref (nat_lit 1130))])), A []⟩
noncomputable def o1134 (P : Params) : Obj := ⟨(.type "builtin_function_or_method"), none, (.fields (A [(.builtin "object.__init_subclass__"), (.ref (nat_lit 1130))])), A []⟩
noncomputable def o1135 (P : Params) : Obj := ⟨(.type "tuple"), none, (.seq (A []) (nat_lit 0)), A []⟩
noncomputable def o1136 (P : Params) : Obj := ⟨(.type "builtin_function_or_method"), none, (.fields (A [(.builtin "type.__prepare__"), (.type "type")])), A []⟩
noncomputable def o1137 (P : Params) : Obj := ⟨(.type "dict"), none, (.dict (A [E P "__module__" (nat_lit 1898) (.str (S "outlinemill.hint_work") (nat_lit 1889)), E P "__qualname__" (nat_lit 1900) (.str (S "HintStack") (nat_lit 1899)), E P "__firstlineno__" (nat_lit 1902) (.int 902 (nat_lit 1901)), E P "__init__" (nat_lit 1910) (.ref (nat_lit 1148)), E P "push" (nat_lit 1918) (.ref (nat_lit 1155)), E P "pop" (nat_lit 1925) (.ref (nat_lit 1162)), E P "pop_count" (nat_lit 1933) (.ref (nat_lit 1169)), E P "peek" (nat_lit 1941) (.ref (nat_lit 1176)), E P "depth" (nat_lit 1948) (.ref (nat_lit 1183)), E P "clear" (nat_lit 1955) (.ref (nat_lit 1190)), E P "__static_attributes__" (nat_lit 1958) (.ref (nat_lit 1191))]) (nat_lit 11)), A []⟩
noncomputable def o1138 (P : Params) : Obj := ⟨(.type "tuple"), none, (.seq (A []) (nat_lit 0)), A []⟩
noncomputable def o1139 (P : Params) : Obj := ⟨.none, none, (.fields (A [(.int 904 (nat_lit 0)), (.int 4 (nat_lit 0)), (.ref (nat_lit 1147)), (.int 908 (nat_lit 0)), (.int 4 (nat_lit 0)), (.ref (nat_lit 1154)), (.int 913 (nat_lit 0)), (.int 4 (nat_lit 0)), (.ref (nat_lit 1161)), (.int 918 (nat_lit 0)), (.int 4 (nat_lit 0)), (.ref (nat_lit 1168)), (.int 924 (nat_lit 0)), (.int 4 (nat_lit 0)), (.ref (nat_lit 1175)), (.int 929 (nat_lit 0)), (.int 4 (nat_lit 0)), (.ref (nat_lit 1182)), (.int 932 (nat_lit 0)), (.int 4 (nat_lit 0)), (.ref (nat_lit 1189))])), A []⟩
noncomputable def o1140 (P : Params) : Obj := ⟨(.type "code"), none, (.fields (A [(.str (S "HintStack") (nat_lit 1893)), (.str (S "HintStack") (nat_lit 1894)), (.str (S "/claim/cut.py") (nat_lit 1895)), (.int 902 (nat_lit 0)), (.int 0 (nat_lit 0)), (.int 0 (nat_lit 0)), (.int 0 (nat_lit 0)), (.int 0 (nat_lit 0)), (.ref (nat_lit 1138)), (.bool false), (.int 181 (nat_lit 0)), (.ref (nat_lit 1139)), .none, .none, .none, .none, (.int 1896 (nat_lit 0)), (.int 902 (nat_lit 0)), (.str (S "/claim/cut.py") (nat_lit 1897))])), A []⟩
noncomputable def o1141 (P : Params) : Obj := ⟨(.type "frame"), none, .plain, A [some (.ref (nat_lit 1140)), some (.ref (nat_lit 3)), some (.ref (nat_lit 1137)), none, some (.str (S "outlinemill.hint_work") (nat_lit 1889)), none, some (.ref (nat_lit 0))]⟩
noncomputable def g1142 := fgp (met 169 0) "__init__" "HintStack.__init__" (nat_lit 1142) (nat_lit 1903) (nat_lit 904) (nat_lit 2) ["self", "most"] mo15 .none
noncomputable def g1149 := fgp (met 169 1) "push" "HintStack.push" (nat_lit 1149) (nat_lit 1911) (nat_lit 908) (nat_lit 2) ["self", "number"] mo15 .none
noncomputable def g1156 := fgp (met 169 2) "pop" "HintStack.pop" (nat_lit 1156) (nat_lit 1919) (nat_lit 913) (nat_lit 1) ["self"] mo15 .none
noncomputable def g1163 := fgp (met 169 3) "pop_count" "HintStack.pop_count" (nat_lit 1163) (nat_lit 1926) (nat_lit 918) (nat_lit 1) ["self", "found"] mo15 .none
noncomputable def g1170 := fgp (met 169 4) "peek" "HintStack.peek" (nat_lit 1170) (nat_lit 1934) (nat_lit 924) (nat_lit 2) ["self", "many"] mo15 .none
noncomputable def g1177 := fgp (met 169 5) "depth" "HintStack.depth" (nat_lit 1177) (nat_lit 1942) (nat_lit 929) (nat_lit 1) ["self"] mo15 .none
noncomputable def g1184 := fgp (met 169 6) "clear" "HintStack.clear" (nat_lit 1184) (nat_lit 1949) (nat_lit 932) (nat_lit 1) ["self"] mo15 .none
noncomputable def o1191 (P : Params) : Obj := ⟨(.type "tuple"), none, (.seq (A [(.str (S "most") (nat_lit 1956)), (.str (S "numbers") (nat_lit 1957))]) (nat_lit 0)), A []⟩
noncomputable def o1192 (P : Params) : Obj := ⟨(.type "dict"), none, (.dict (A [E P "__module__" (nat_lit 1898) (.str (S "outlinemill.hint_work") (nat_lit 1889)), E P "__firstlineno__" (nat_lit 1902) (.int 902 (nat_lit 1901)), E P "__init__" (nat_lit 1910) (.ref (nat_lit 1148)), E P "push" (nat_lit 1918) (.ref (nat_lit 1155)), E P "pop" (nat_lit 1925) (.ref (nat_lit 1162)), E P "pop_count" (nat_lit 1933) (.ref (nat_lit 1169)), E P "peek" (nat_lit 1941) (.ref (nat_lit 1176)), E P "depth" (nat_lit 1948) (.ref (nat_lit 1183)), E P "clear" (nat_lit 1955) (.ref (nat_lit 1190)), E P "__static_attributes__" (nat_lit 1958) (.ref (nat_lit 1191)), E P "__dict__" (nat_lit 1960) (.ref (nat_lit 1194)), E P "__weakref__" (nat_lit 1962) (.ref (nat_lit 1195)), E P "__doc__" (nat_lit 1963) .none]) (nat_lit 4)), A []⟩
noncomputable def o1193 (P : Params) : Obj := ⟨(.type "type"), none, (.cls { name := (S "HintStack"), bases := [(.type "object")], mro := [(.ref (nat_lit 1193)), (.type "object")], ns := nat_lit 1192, qualname := (S "HintStack"), hasDict := true, slotNames := [], subclasses := [], abstract := false, collection := none, hasDel := false }), A [none, none, some (.str (S "HintStack") (nat_lit 1891)), some (.str (S "HintStack") (nat_lit 1899)), some (.builtin "object.__new__"), some (.bool true)]⟩
noncomputable def o1194 (P : Params) : Obj := ⟨(.type "getset_descriptor"), none, (.fields (A [(.str (S "__dict__") (nat_lit 1959)), (.ref (nat_lit 1193)), (.builtin "function.__dict__"), (.builtin "function.__dict__#set")])), A []⟩
noncomputable def o1195 (P : Params) : Obj := ⟨(.type "getset_descriptor"), none, (.fields (A [(.str (S "__weakref__") (nat_lit 1961)), (.ref (nat_lit 1193)), (.builtin "ExceptionGroup.__weakref__"), .none])), A []⟩
noncomputable def o1196 (P : Params) : Obj := ⟨(.type "super"), none, (.fields (A [(.ref (nat_lit 1193)), (.ref (nat_lit 1193)), (.ref (nat_lit 1193))])), A []⟩
noncomputable def o1197 (P : Params) : Obj := ⟨(.type "builtin_function_or_method"), none, (.fields (A [(.builtin "object.__init_subclass__"), (.ref (nat_lit 1193))])), A []⟩
noncomputable def o1198 (P : Params) : Obj := ⟨(.type "tuple"), none, (.seq (A []) (nat_lit 0)), A []⟩
noncomputable def o1199 (P : Params) : Obj := ⟨(.type "builtin_function_or_method"), none, (.fields (A [(.builtin "type.__prepare__"), (.type "type")])), A []⟩
noncomputable def o1200 (P : Params) : Obj := ⟨(.type "dict"), none, (.dict (A [E P "__module__" (nat_lit 1973) (.str (S "outlinemill.hint_work") (nat_lit 1889)), E P "__qualname__" (nat_lit 1975) (.str (S "HintWork") (nat_lit 1974)), E P "__firstlineno__" (nat_lit 1977) (.int 934 (nat_lit 1976)), E P "__init__" (nat_lit 1995) (.ref (nat_lit 1213)), E P "zone" (nat_lit 2003) (.ref (nat_lit 1220)), E P "cvt_value" (nat_lit 2011) (.ref (nat_lit 1227)), E P "put_cvt" (nat_lit 2020) (.ref (nat_lit 1234)), E P "next_loop" (nat_lit 2028) (.ref (nat_lit 1241)), E P "__static_attributes__" (nat_lit 2037) (.ref (nat_lit 1242))]) (nat_lit 9)), A []⟩
noncomputable def o1201 (P : Params) : Obj := ⟨(.type "tuple"), none, (.seq (A []) (nat_lit 0)), A []⟩
noncomputable def o1202 (P : Params) : Obj := ⟨.none, none, (.fields (A [(.int 936 (nat_lit 0)), (.int 4 (nat_lit 0)), (.ref (nat_lit 1212)), (.int 946 (nat_lit 0)), (.int 4 (nat_lit 0)), (.ref (nat_lit 1219)), (.int 951 (nat_lit 0)), (.int 4 (nat_lit 0)), (.ref (nat_lit 1226)), (.int 956 (nat_lit 0)), (.int 4 (nat_lit 0)), (.ref (nat_lit 1233)), (.int 960 (nat_lit 0)), (.int 4 (nat_lit 0)), (.ref (nat_lit 1240))])), A []⟩
noncomputable def o1203 (P : Params) : Obj := ⟨(.type "code"), none, (.fields (A [(.str (S "HintWork") (nat_lit 1968)), (.str (S "HintWork") (nat_lit 1969)), (.str (S "/claim/cut.py") (nat_lit 1970)), (.int 934 (nat_lit 0)), (.int 0 (nat_lit 0)), (.int 0 (nat_lit 0)), (.int 0 (nat_lit 0)), (.int 0 (nat_lit 0)), (.ref (nat_lit 1201)), (.bool false), (.int 181 (nat_lit 0)), (.ref (nat_lit 1202)), .none, .none, .none, .none, (.int 1971 (nat_lit 0)), (.int 934 (nat_lit 0)), (.str (S "/claim/cut.py") (nat_lit 1972))])), A []⟩
noncomputable def o1204 (P : Params) : Obj := ⟨(.type "frame"), none, .plain, A [some (.ref (nat_lit 1203)), some (.ref (nat_lit 3)), some (.ref (nat_lit 1200)), none, some (.str (S "outlinemill.hint_work") (nat_lit 1889)), none, some (.ref (nat_lit 0))]⟩
noncomputable def o1205 (P : Params) : Obj := ⟨(.type "tuple"), none, (.seq (A [(.int 1 (nat_lit 1981)), (.int 1 (nat_lit 1982))]) (nat_lit 0)), A []⟩
noncomputable def o1206 (P : Params) : Obj := ⟨(.type "tuple"), none, (.seq (A [(.int 64 (nat_lit 1978)), (.int 12 (nat_lit 1979)), (.int 768 (nat_lit 1980)), (.ref (nat_lit 1205))]) (nat_lit 0)), A []⟩
noncomputable def g1207 := fgp (met 170 0) "__init__" "HintWork.__init__" (nat_lit 1207) (nat_lit 1983) (nat_lit 936) (nat_lit 7) ["self", "zones", "cvt", "stack_most", "ppem", "point_size", "scale"] mo15 (.ref (nat_lit 1206))
noncomputable def g1214 := fgp (met 170 1) "zone" "HintWork.zone" (nat_lit 1214) (nat_lit 1996) (nat_lit 946) (nat_lit 2) ["self", "number"] mo15 .none
noncomputable def g1221 := fgp (met 170 2) "cvt_value" "HintWork.cvt_value" (nat_lit 1221) (nat_lit 2004) (nat_lit 951) (nat_lit 2) ["self", "i"] mo15 .none
noncomputable def g1228 := fgp (met 170 3) "put_cvt" "HintWork.put_cvt" (nat_lit 1228) (nat_lit 2012) (nat_lit 956) (nat_lit 3) ["self", "i", "value"] mo15 .none
noncomputable def g1235 := fgp (met 170 4) "next_loop" "HintWork.next_loop" (nat_lit 1235) (nat_lit 2021) (nat_lit 960) (nat_lit 1) ["self", "found"] mo15 .none
noncomputable def o1242 (P : Params) : Obj := ⟨(.type "tuple"), none, (.seq (A [(.str (S "cvt") (nat_lit 2029)), (.str (S "point_size") (nat_lit 2030)), (.str (S "ppem") (nat_lit 2031)), (.str (S "scale") (nat_lit 2032)), (.str (S "stack") (nat_lit 2033)), (.str (S "state") (nat_lit 2034)), (.str (S "storage") (nat_lit 2035)), (.str (S "zones") (nat_lit 2036))]) (nat_lit 0)), A []⟩
noncomputable def o1243 (P : Params) : Obj := ⟨(.type "dict"), none, (.dict (A [E P "__module__" (nat_lit 1973) (.str (S "outlinemill.hint_work") (nat_lit 1889)), E P "__firstlineno__" (nat_lit 1977) (.int 934 (nat_lit 1976)), E P "__init__" (nat_lit 1995) (.ref (nat_lit 1213)), E P "zone" (nat_lit 2003) (.ref (nat_lit 1220)), E P "cvt_value" (nat_lit 2011) (.ref (nat_lit 1227)), E P "put_cvt" (nat_lit 2020) (.ref (nat_lit 1234)), E P "next_loop" (nat_lit 2028) (.ref (nat_lit 1241)), E P "__static_attributes__" (nat_lit 2037) (.ref (nat_lit 1242)), E P "__dict__" (nat_lit 2039) (.ref (nat_lit 1245)), E P "__weakref__" (nat_lit 2041) (.ref (nat_lit 1246)), E P "__doc__" (nat_lit 2042) .none]) (nat_lit 4)), A []⟩
noncomputable def o1244 (P : Params) : Obj := ⟨(.type "type"), none, (.cls { name := (S "HintWork"), bases := [(.type "object")], mro := [(.ref (nat_lit 1244)), (.type "object")], ns := nat_lit 1243, qualname := (S "HintWork"), hasDict := true, slotNames := [], subclasses := [], abstract := false, collection := none, hasDel := false }), A [none, none, some (.str (S "HintWork") (nat_lit 1966)), some (.str (S "HintWork") (nat_lit 1974)), some (.builtin "object.__new__"), some (.bool true)]⟩
noncomputable def o1245 (P : Params) : Obj := ⟨(.type "getset_descriptor"), none, (.fields (A [(.str (S "__dict__") (nat_lit 2038)), (.ref (nat_lit 1244)), (.builtin "function.__dict__"), (.builtin "function.__dict__#set")])), A []⟩
noncomputable def o1246 (P : Params) : Obj := ⟨(.type "getset_descriptor"), none, (.fields (A [(.str (S "__weakref__") (nat_lit 2040)), (.ref (nat_lit 1244)), (.builtin "ExceptionGroup.__weakref__"), .none])), A []⟩
noncomputable def o1247 (P : Params) : Obj := ⟨(.type "super"), none, (.fields (A [(.ref (nat_lit 1244)), (.ref (nat_lit 1244)), (.ref (nat_lit 1244))])), A []⟩
noncomputable def o1248 (P : Params) : Obj := ⟨(.type "builtin_function_or_method"), none, (.fields (A [(.builtin "object.__init_subclass__"), (.ref (nat_lit 1244))])), A []⟩
noncomputable def g1249 := fgp (stm 172) "held" "held" (nat_lit 1249) (nat_lit 2047) (nat_lit 965) (nat_lit 1) ["place"] mo16 .none
noncomputable def o1256 (P : Params) : Obj := ⟨(.type "tuple"), none, (.seq (A []) (nat_lit 0)), A []⟩
noncomputable def o1257 (P : Params) : Obj := ⟨(.type "builtin_function_or_method"), none, (.fields (A [(.builtin "type.__prepare__"), (.type "type")])), A []⟩
noncomputable def o1258 (P : Params) : Obj := ⟨(.type "dict"), none, (.dict (A [E P "__module__" (nat_lit 2061) (.str (S "outlinemill.hint_zones") (nat_lit 2045)), E P "__qualname__" (nat_lit 2063) (.str (S "Zone") (nat_lit 2062)), E P "__firstlineno__" (nat_lit 2065) (.int 967 (nat_lit 2064)), E P "__init__" (nat_lit 2071) (.ref (nat_lit 1269)), E P "count" (nat_lit 2078) (.ref (nat_lit 1276)), E P "check" (nat_lit 2086) (.ref (nat_lit 1283)), E P "put" (nat_lit 2095) (.ref (nat_lit 1290)), E P "put_original" (nat_lit 2104) (.ref (nat_lit 1297)), E P "__static_attributes__" (nat_lit 2110) (.ref (nat_lit 1298))]) (nat_lit 9)), A []⟩
noncomputable def o1259 (P : Params) : Obj := ⟨(.type "tuple"), none, (.seq (A []) (nat_lit 0)), A []⟩
noncomputable def o1260 (P : Params) : Obj := ⟨.none, none, (.fields (A [(.int 969 (nat_lit 0)), (.int 4 (nat_lit 0)), (.ref (nat_lit 1268)), (.int 978 (nat_lit 0)), (.int 4 (nat_lit 0)), (.ref (nat_lit 1275)), (.int 981 (nat_lit 0)), (.int 4 (nat_lit 0)), (.ref (nat_lit 1282)), (.int 986 (nat_lit 0)), (.int 4 (nat_lit 0)), (.ref (nat_lit 1289)), (.int 989 (nat_lit 0)), (.int 4 (nat_lit 0)), (.ref (nat_lit 1296))])), A []⟩
noncomputable def o1261 (P : Params) : Obj := ⟨(.type "code"), none, (.fields (A [(.str (S "Zone") (nat_lit 2056)), (.str (S "Zone") (nat_lit 2057)), (.str (S "/claim/cut.py") (nat_lit 2058)), (.int 967 (nat_lit 0)), (.int 0 (nat_lit 0)), (.int 0 (nat_lit 0)), (.int 0 (nat_lit 0)), (.int 0 (nat_lit 0)), (.ref (nat_lit 1259)), (.bool false), (.int 181 (nat_lit 0)), (.ref (nat_lit 1260)), .none, .none, .none, .none, (.int 2059 (nat_lit 0)), (.int 967 (nat_lit 0)), (.str (S "/claim/cut.py") (nat_lit 2060))])), A []⟩
noncomputable def o1262 (P : Params) : Obj := ⟨(.type "frame"), none, .plain, A [some (.ref (nat_lit 1261)), some (.ref (nat_lit 3)), some (.ref (nat_lit 1258)), none, some (.str (S "outlinemill.hint_zones") (nat_lit 2045)), none, some (.ref (nat_lit 0))]⟩
noncomputable def o1263 (P : Params) : Obj := ⟨(.type "tuple"), none, (.seq (A []) (nat_lit 0)), A []⟩
noncomputable def o1264 (P : Params) : Obj := ⟨(.type "tuple"), none, (.seq (A [(.ref (nat_lit 1263)), .none]) (nat_lit 0)), A []⟩
noncomputable def o1265 (P : Params) : Obj := ⟨(.type "tuple"), none, (.seq (A []) (nat_lit 0)), A []⟩
noncomputable def o1266 (P : Params) : Obj := ⟨.none, none, (.fields (A [])), A []⟩
noncomputable def o1267 (P : Params) : Obj := ⟨.none, none, (.func (fn (met 173 0) (S "Zone.__init__") 0 .none .none .none .none .none 0)), A []⟩
noncomputable def o1268 (P : Params) : Obj := ⟨(.type "code"), none, (.fields (A [(.str (S "__init__") (nat_lit 2066)), (.str (S "Zone.__init__") (nat_lit 2067)), (.str (S "/claim/cut.py") (nat_lit 2068)), (.int 969 (nat_lit 0)), (.int 4 (nat_lit 0)), (.int 0 (nat_lit 0)), (.int 0 (nat_lit 0)), (.int 3 (nat_lit 0)), (.ref (nat_lit 1265)), (.bool true), (.int 181 (nat_lit 0)), (.ref (nat_lit 1266)), .none, .none, .none, (.ref (nat_lit 1267)), (.int 2069 (nat_lit 0)), (.int 969 (nat_lit 0)), (.str (S "/claim/cut.py") (nat_lit 2070))])), A []⟩
noncomputable def o1269 (P : Params) : Obj := ⟨(.type "function"), none, (.func (fn (met 173 0) (S "Zone.__init__") 3 (.ref (nat_lit 1264)) .none .none (.str (S "outlinemill.hint_zones") (nat_lit 2045)) (.ref (nat_lit 1268)) 0)), A []⟩
noncomputable def g1270 := fgp (met 173 1) "count" "Zone.count" (nat_lit 1270) (nat_lit 2072) (nat_lit 978) (nat_lit 1) ["self"] mo16 .none
noncomputable def g1277 := fgp (met 173 2) "check" "Zone.check" (nat_lit 1277) (nat_lit 2079) (nat_lit 981) (nat_lit 2) ["self", "i"] mo16 .none
noncomputable def g1284 := fgp (met 173 3) "put" "Zone.put" (nat_lit 1284) (nat_lit 2087) (nat_lit 986) (nat_lit 3) ["self", "i", "place"] mo16 .none
noncomputable def g1291 := fgp (met 173 4) "put_original" "Zone.put_original" (nat_lit 1291) (nat_lit 2096) (nat_lit 989) (nat_lit 3) ["self", "i", "place"] mo16 .none
noncomputable def o1298 (P : Params) : Obj := ⟨(.type "tuple"), none, (.seq (A [(.str (S "current") (nat_lit 2105)), (.str (S "ends") (nat_lit 2106)), (.str (S "on_curve") (nat_lit 2107)), (.str (S "original") (nat_lit 2108)), (.str (S "touched") (nat_lit 2109))]) (nat_lit 0)), A []⟩
noncomputable def o1299 (P : Params) : Obj := ⟨(.type "dict"), none, (.dict (A [E P "__module__" (nat_lit 2061) (.str (S "outlinemill.hint_zones") (nat_lit 2045)), E P "__firstlineno__" (nat_lit 2065) (.int 967 (nat_lit 2064)), E P "__init__" (nat_lit 2071) (.ref (nat_lit 1269)), E P "count" (nat_lit 2078) (.ref (nat_lit 1276)), E P "check" (nat_lit 2086) (.ref (nat_lit 1283)), E P "put" (nat_lit 2095) (.ref (nat_lit 1290)), E P "put_original" (nat_lit 2104) (.ref (nat_lit 1297)), E P "__static_attributes__" (nat_lit 2110) (.ref (nat_lit 1298)), E P "__dict__" (nat_lit 2112) (.ref (nat_lit 1301)), E P "__weakref__" (nat_lit 2114) (.ref (nat_lit 1302)), E P "__doc__" (nat_lit 2115) .none]) (nat_lit 4)), A []⟩
noncomputable def o1300 (P : Params) : Obj := ⟨(.type "type"), none, (.cls { name := (S "Zone"), bases := [(.type "object")], mro := [(.ref (nat_lit 1300)), (.type "object")], ns := nat_lit 1299, qualname := (S "Zone"), hasDict := true, slotNames := [], subclasses := [], abstract := false, collection := none, hasDel := false }), A [none, none, some (.str (S "Zone") (nat_lit 2054)), some (.str (S "Zone") (nat_lit 2062)), some (.builtin "object.__new__"), some (.bool true)]⟩
noncomputable def o1301 (P : Params) : Obj := ⟨(.type "getset_descriptor"), none, (.fields (A [(.str (S "__dict__") (nat_lit 2111)), (.ref (nat_lit 1300)), (.builtin "function.__dict__"), (.builtin "function.__dict__#set")])), A []⟩
noncomputable def o1302 (P : Params) : Obj := ⟨(.type "getset_descriptor"), none, (.fields (A [(.str (S "__weakref__") (nat_lit 2113)), (.ref (nat_lit 1300)), (.builtin "ExceptionGroup.__weakref__"), .none])), A []⟩
noncomputable def o1303 (P : Params) : Obj := ⟨(.type "super"), none, (.fields (A [(.ref (nat_lit 1300)), (.ref (nat_lit 1300)), (.ref (nat_lit 1300))])), A []⟩
noncomputable def o1304 (P : Params) : Obj := ⟨(.type "builtin_function_or_method"), none, (.fields (A [(.builtin "object.__init_subclass__"), (.ref (nat_lit 1300))])), A []⟩
noncomputable def g1305 := fgp (stm 175) "_law_pool" "_law_pool" (nat_lit 1305) (nat_lit 2120) (nat_lit 992) (nat_lit 1) ["script", "cell", "big"] mo17 .none
noncomputable def g1312 := fgp (stm 176) "_law_take" "_law_take" (nat_lit 1312) (nat_lit 2129) (nat_lit 996) (nat_lit 2) ["source", "top", "drawn"] mo17 .none
noncomputable def g1319 := fgp (stm 177) "_law_one" "_law_one" (nat_lit 1319) (nat_lit 2138) (nat_lit 1003) (nat_lit 2) ["source", "things"] mo17 .none
noncomputable def g1326 := fgp (stm 178) "_law_held" "_law_held" (nat_lit 1326) (nat_lit 2146) (nat_lit 1005) (nat_lit 1) ["number", "low"] mo17 .none
noncomputable def g1333 := fgp (stm 179) "_law_near" "_law_near" (nat_lit 1333) (nat_lit 2154) (nat_lit 1008) (nat_lit 2) ["top", "bottom", "size"] mo17 .none
noncomputable def g1340 := fgp (stm 180) "_law_run" "_law_run" (nat_lit 1340) (nat_lit 2163) (nat_lit 1013) (nat_lit 2) ["octets", "work"] mo17 .none
noncomputable def o1347 (P : Params) : Obj := ⟨(.type "tuple"), none, (.seq (A []) (nat_lit 0)), A []⟩
noncomputable def o1348 (P : Params) : Obj := ⟨.none, none, (.fields (A [])), A []⟩
noncomputable def o1349 (P : Params) : Obj := ⟨.none, none, (.func (fn (stm 181) (S "_law_begun") 0 .none .none .none .none .none 0)), A []⟩
noncomputable def o1350 (P : Params) : Obj := ⟨(.type "code"), none, (.fields (A [(.str (S "_law_begun") (nat_lit 2171)), (.str (S "_law_begun") (nat_lit 2172)), (.str (S "/claim/cut.py") (nat_lit 2173)), (.int 1018 (nat_lit 0)), (.int 1 (nat_lit 0)), (.int 0 (nat_lit 0)), (.int 0 (nat_lit 0)), (.int 3 (nat_lit 0)), (.ref (nat_lit 1347)), (.bool true), (.int 181 (nat_lit 0)), (.ref (nat_lit 1348)), .none, .none, .none, (.ref (nat_lit 1349)), (.int 2174 (nat_lit 0)), (.int 1018 (nat_lit 0)), (.str (S "/claim/cut.py") (nat_lit 2175))])), A []⟩
noncomputable def o1351 (P : Params) : Obj := ⟨(.type "function"), none, (.func (fn (stm 181) (S "_law_begun") 3 .none .none .none (.str (S "law_qz0071_01") (nat_lit 2118)) (.ref (nat_lit 1350)) 0)), A []⟩
noncomputable def g1352 := fgp (stm 182) "_law_walked" "_law_walked" (nat_lit 1352) (nat_lit 2177) (nat_lit 1021) (nat_lit 2) ["places", "turns", "now", "old", "turn", "whole", "share"] mo17 .none
noncomputable def o1359 (P : Params) : Obj := ⟨(.type "tuple"), none, (.seq (A []) (nat_lit 0)), A []⟩
noncomputable def o1360 (P : Params) : Obj := ⟨.none, none, (.fields (A [])), A []⟩
noncomputable def o1361 (P : Params) : Obj := ⟨.none, none, (.func (fn (stm 183) (S "_law_turns_right") 0 .none .none .none .none .none 0)), A []⟩
noncomputable def o1362 (P : Params) : Obj := ⟨(.type "code"), none, (.fields (A [(.str (S "_law_turns_right") (nat_lit 2190)), (.str (S "_law_turns_right") (nat_lit 2191)), (.str (S "/claim/cut.py") (nat_lit 2192)), (.int 1031 (nat_lit 0)), (.int 2 (nat_lit 0)), (.int 0 (nat_lit 0)), (.int 0 (nat_lit 0)), (.int 3 (nat_lit 0)), (.ref (nat_lit 1359)), (.bool true), (.int 181 (nat_lit 0)), (.ref (nat_lit 1360)), .none, .none, .none, (.ref (nat_lit 1361)), (.int 2193 (nat_lit 0)), (.int 1031 (nat_lit 0)), (.str (S "/claim/cut.py") (nat_lit 2194))])), A []⟩
noncomputable def o1363 (P : Params) : Obj := ⟨(.type "function"), none, (.func (fn (stm 183) (S "_law_turns_right") 3 .none .none .none (.str (S "law_qz0071_01") (nat_lit 2118)) (.ref (nat_lit 1362)) 0)), A []⟩
noncomputable def g1364 := fgp (stm 184) "_law_scaled_right" "_law_scaled_right" (nat_lit 1364) (nat_lit 2196) (nat_lit 1045) (nat_lit 4) ["value", "top", "bottom", "turns", "work", "octets", "due", "turn"] mo17 .none
noncomputable def g1371 := fgp (stm 185) "_law_rounded_right" "_law_rounded_right" (nat_lit 1371) (nat_lit 2210) (nat_lit 1052) (nat_lit 1) ["value", "work"] mo17 .none
noncomputable def o1378 (P : Params) : Obj := ⟨(.type "tuple"), none, (.seq (A []) (nat_lit 0)), A []⟩
noncomputable def o1379 (P : Params) : Obj := ⟨.none, none, (.fields (A [])), A []⟩
noncomputable def o1380 (P : Params) : Obj := ⟨.none, none, (.func (fn (stm 186) (S "_law_far_right") 0 .none .none .none .none .none 0)), A []⟩
noncomputable def o1381 (P : Params) : Obj := ⟨(.type "code"), none, (.fields (A [(.str (S "_law_far_right") (nat_lit 2218)), (.str (S "_law_far_right") (nat_lit 2219)), (.str (S "/claim/cut.py") (nat_lit 2220)), (.int 1055 (nat_lit 0)), (.int 2 (nat_lit 0)), (.int 0 (nat_lit 0)), (.int 0 (nat_lit 0)), (.int 3 (nat_lit 0)), (.ref (nat_lit 1378)), (.bool true), (.int 181 (nat_lit 0)), (.ref (nat_lit 1379)), .none, .none, .none, (.ref (nat_lit 1380)), (.int 2221 (nat_lit 0)), (.int 1055 (nat_lit 0)), (.str (S "/claim/cut.py") (nat_lit 2222))])), A []⟩
noncomputable def o1382 (P : Params) : Obj := ⟨(.type "function"), none, (.func (fn (stm 186) (S "_law_far_right") 3 .none .none .none (.str (S "law_qz0071_01") (nat_lit 2118)) (.ref (nat_lit 1381)) 0)), A []⟩
noncomputable def o1383 (P : Params) : Obj := ⟨(.type "tuple"), none, (.seq (A []) (nat_lit 0)), A []⟩
noncomputable def o1384 (P : Params) : Obj := ⟨.none, none, (.fields (A [])), A []⟩
noncomputable def o1385 (P : Params) : Obj := ⟨.none, none, (.func (fn (stm 187) (S "law") 0 .none .none .none .none .none 0)), A []⟩
noncomputable def o1386 (P : Params) : Obj := ⟨(.type "code"), none, (.fields (A [(.str (S "law") (nat_lit 2224)), (.str (S "law") (nat_lit 2225)), (.str (S "/claim/cut.py") (nat_lit 2226)), (.int 1062 (nat_lit 0)), (.int 1 (nat_lit 0)), (.int 0 (nat_lit 0)), (.int 0 (nat_lit 0)), (.int 3 (nat_lit 0)), (.ref (nat_lit 1383)), (.bool true), (.int 181 (nat_lit 0)), (.ref (nat_lit 1384)), .none, .none, .none, (.ref (nat_lit 1385)), (.int 2227 (nat_lit 0)), (.int 1062 (nat_lit 0)), (.str (S "/claim/cut.py") (nat_lit 2228))])), A []⟩
noncomputable def o1387 (P : Params) : Obj := ⟨(.type "function"), none, (.func (fn (stm 187) (S "law") 3 .none .none .none (.str (S "law_qz0071_01") (nat_lit 2118)) (.ref (nat_lit 1386)) 0)), A []⟩
noncomputable def tree (P : Params) : BT := (.node (o0 P) (.node (o1 P) (.node (o3 P) (.node (o7 P) (.node (o15 P) (.node (o31 P) (.node (o63 P) (.node (o127 P) (.node (F6 g249) (.node (o511 P) (.node (F0 g1023) .nil .nil) .nil) (.node (F1 g766) (.node (F2 g1277) .nil .nil) .nil)) (.node (F1 g382) (.node (F4 g635) (.node (F2 g1149) .nil .nil) .nil) (.node (F3 g892) .nil .nil))) (.node (F6 g185) (.node (F0 g319) (.node (F3 g572) (.node (o1087 P) .nil .nil) .nil) (.node (F2 g829) (.node (F3 g1340) .nil .nil) .nil)) (.node (F1 g446) (.node (F0 g703) (.node (F1 g1214) .nil .nil) .nil) (.node (F6 g953) .nil .nil)))) (.node (F1 g94) (.node (F2 g157) (.node (F3 g284) (.node (F6 g537) (.node (F4 g1051) .nil .nil) .nil) (.node (F5 g794) (.node (F6 g1305) .nil .nil) .nil)) (.node (F5 g410) (.node (F1 g670) (.node (F6 g1177) .nil .nil) .nil) (.node (F0 g927) .nil .nil))) (.node (F3 g220) (.node (F4 g347) (.node (F0 g607) (.node (F5 g1114) .nil .nil) .nil) (.node (F6 g857) (.node (F4 g1371) .nil .nil) .nil)) (.node (F5 g474) (.node (F4 g731) (.node (o1247 P) .nil .nil) .nil) (.node (F3 g988) .nil .nil))))) (.node (o47 P) (.node (o79 P) (.node (F0 g143) (.node (F1 g270) (.node (F4 g523) (.node (F2 g1037) .nil .nil) .nil) (.node (F3 g780) (.node (F4 g1291) .nil .nil) .nil)) (.node (F3 g396) (.node (F6 g649) (.node (F4 g1163) .nil .nil) .nil) (.node (F5 g906) .nil .nil))) (.node (F1 g206) (.node (F2 g333) (.node (F5 g586) (.node (F3 g1100) .nil .nil) .nil) (.node (F4 g843) (.node (o1359 P) .nil .nil) .nil)) (.node (F3 g460) (.node (F2 g717) (.node (F3 g1228) .nil .nil) .nil) (.node (F1 g974) .nil .nil)))) (.node (o111 P) (.node (o175 P) (.node (F5 g298) (.node (F1 g558) (.node (F6 g1065) .nil .nil) .nil) (.node (F0 g815) (.node (F1 g1326) .nil .nil) .nil)) (.node (F0 g431) (.node (F3 g684) (.node (o1199 P) .nil .nil) .nil) (.node (F4 g939) .nil .nil))) (.node (F4 g235) (.node (F6 g361) (.node (F2 g621) (.node (o1135 P) .nil .nil) .nil) (.node (F1 g878) .nil .nil)) (.node (F0 g495) (.node (F6 g745) (.node (o1263 P) .nil .nil) .nil) (.node (F5 g1002) .nil .nil)))))) (.node (F1 g22) (.node (o39 P) (.node (F5 g66) (.node (o135 P) (.node (F0 g263) (.node (F3 g516) (.node (F1 g1030) .nil .nil) .nil) (.node (F2 g773) (.node (F3 g1284) .nil .nil) .nil)) (.node (F2 g389) (.node (F5 g642) (.node (F3 g1156) .nil .nil) .nil) (.node (F4 g899) .nil .nil))) (.node (F0 g199) (.node (F1 g326) (.node (F4 g579) (.node (F2 g1093) .nil .nil) .nil) (.node (F3 g836) (.node (o1351 P) .nil .nil) .nil)) (.node (F2 g453) (.node (F1 g710) (.node (F2 g1221) .nil .nil) .nil) (.node (F0 g967) .nil .nil)))) (.node (o103 P) (.node (F3 g164) (.node (F4 g291) (.node (F0 g551) (.node (F5 g1058) .nil .nil) .nil) (.node (F6 g801) (.node (F0 g1319) .nil .nil) .nil)) (.node (F6 g417) (.node (F2 g677) (.node (o1191 P) .nil .nil) .nil) (.node (o935 P) .nil .nil))) (.node (o231 P) (.node (F5 g354) (.node (F1 g614) (.node (F6 g1121) .nil .nil) .nil) (.node (F0 g871) (.node (o1383 P) .nil .nil) .nil)) (.node (F6 g481) (.node (F5 g738) (.node (F6 g1249) .nil .nil) .nil) (.node (F4 g995) .nil .nil))))) (.node (o55 P) (.node (F0 g87) (.node (F1 g150) (.node (o279 P) (.node (o535 P) (.node (F3 g1044) .nil .nil) .nil) (.node (F4 g787) (.node (o1303 P) .nil .nil) .nil)) (.node (F4 g403) (.node (F0 g663) (.node (F5 g1170) .nil .nil) .nil) (.node (F6 g913) .nil .nil))) (.node (F2 g213) (.node (F3 g340) (.node (F6 g593) (.node (F4 g1107) .nil .nil) .nil) (.node (F5 g850) (.node (F3 g1364) .nil .nil) .nil)) (.node (F4 g467) (.node (F3 g724) (.node (F4 g1235) .nil .nil) .nil) (.node (F2 g981) .nil .nil)))) (.node (F4 g115) (.node (F5 g178) (.node (F6 g305) (.node (F2 g565) (.node (F0 g1079) .nil .nil) .nil) (.node (F1 g822) (.node (F2 g1333) .nil .nil) .nil)) (.node (F0 g439) (.node (F4 g691) (.node (F0 g1207) .nil .nil) .nil) (.node (F5 g946) .nil .nil))) (.node (F5 g242) (.node (F0 g375) (.node (F3 g628) (.node (F1 g1142) .nil .nil) .nil) (.node (F2 g885) .nil .nil)) (.node (F1 g502) (.node (F0 g759) (.node (F1 g1270) .nil .nil) .nil) (.node (F6 g1009) .nil .nil))))))) (.node (o11 P) (.node (o19 P) (.node (o35 P) (.node (F1 g66) (.node (o131 P) (.node (F3 g256) (.node (o515 P) (.node (F4 g1023) .nil .nil) .nil) (.node (F5 g766) (.node (F6 g1277) .nil .nil) .nil)) (.node (F5 g382) (.node (F1 g642) (.node (F6 g1149) .nil .nil) .nil) (.node (F0 g899) .nil .nil))) (.node (F3 g192) (.node (F4 g319) (.node (F0 g579) (.node (o1091 P) .nil .nil) .nil) (.node (F6 g829) (.node (o1347 P) .nil .nil) .nil)) (.node (F5 g446) (.node (F4 g703) (.node (F5 g1214) .nil .nil) .nil) (.node (F3 g960) .nil .nil)))) (.node (F5 g94) (.node (F6 g157) (.node (F0 g291) (.node (F3 g544) (.node (F1 g1058) .nil .nil) .nil) (.node (F2 g801) (.node (F3 g1312) .nil .nil) .nil)) (.node (F2 g417) (.node (F5 g670) (.node (F3 g1184) .nil .nil) .nil) (.node (F4 g927) .nil .nil))) (.node (o227 P) (.node (F1 g354) (.node (F4 g607) (.node (F2 g1121) .nil .nil) .nil) (.node (F3 g864) (.node (o1379 P) .nil .nil) .nil)) (.node (F2 g481) (.node (F1 g738) (.node (F2 g1249) .nil .nil) .nil) (.node (F0 g995) .nil .nil))))) (.node (o51 P) (.node (o83 P) (.node (F4 g143) (.node (F5 g270) (.node (o531 P) (.node (F6 g1037) .nil .nil) .nil) (.node (F0 g787) (.node (o1299 P) .nil .nil) .nil)) (.node (F0 g403) (.node (F3 g656) (.node (F1 g1170) .nil .nil) .nil) (.node (F2 g913) .nil .nil))) (.node (F5 g206) (.node (F6 g333) (.node (F2 g593) (.node (F0 g1107) .nil .nil) .nil) (.node (F1 g850) (.node (o1363 P) .nil .nil) .nil)) (.node (F0 g467) (.node (F6 g717) (.node (F0 g1235) .nil .nil) .nil) (.node (F5 g974) .nil .nil)))) (.node (F0 g115) (.node (F1 g178) (.node (F2 g305) (.node (F5 g558) (.node (F3 g1072) .nil .nil) .nil) (.node (F4 g815) (.node (F5 g1326) .nil .nil) .nil)) (.node (F4 g431) (.node (F0 g691) (.node (o1203 P) .nil .nil) .nil) (.node (F1 g946) .nil .nil))) (.node (F1 g242) (.node (F3 g368) (.node (F6 g621) (.node (o1139 P) .nil .nil) .nil) (.node (F5 g878) .nil .nil)) (.node (F4 g495) (.node (F3 g752) (.node (o1267 P) .nil .nil) .nil) (.node (F2 g1009) .nil .nil)))))) (.node (F5 g22) (.node (o43 P) (.node (o75 P) (.node (F3 g136) (.node (F4 g263) (.node (F0 g523) (.node (F5 g1030) .nil .nil) .nil) (.node (F6 g773) (.node (F0 g1291) .nil .nil) .nil)) (.node (F6 g389) (.node (F2 g649) (.node (F0 g1163) .nil .nil) .nil) (.node (F1 g906) .nil .nil))) (.node (F4 g199) (.node (F5 g326) (.node (F1 g586) (.node (F6 g1093) .nil .nil) .nil) (.node (F0 g843) (.node (F3 g1352) .nil .nil) .nil)) (.node (F6 g453) (.node (F5 g710) (.node (F6 g1221) .nil .nil) .nil) (.node (F4 g967) .nil .nil)))) (.node (o107 P) (.node (o171 P) (.node (F1 g298) (.node (F4 g551) (.node (F2 g1065) .nil .nil) .nil) (.node (F3 g808) (.node (F4 g1319) .nil .nil) .nil)) (.node (F3 g424) (.node (F6 g677) (.node (o1195 P) .nil .nil) .nil) (.node (F0 g939) .nil .nil))) (.node (F0 g235) (.node (F2 g361) (.node (F5 g614) (.node (o1131 P) .nil .nil) .nil) (.node (F4 g871) (.node (o1387 P) .nil .nil) .nil)) (.node (F3 g488) (.node (F2 g745) (.node (o1259 P) .nil .nil) .nil) (.node (F1 g1002) .nil .nil))))) (.node (o59 P) (.node (F4 g87) (.node (F5 g150) (.node (o283 P) (.node (F2 g537) (.node (F0 g1051) .nil .nil) .nil) (.node (F1 g794) (.node (F2 g1305) .nil .nil) .nil)) (.node (F1 g410) (.node (F4 g663) (.node (F2 g1177) .nil .nil) .nil) (.node (F3 g920) .nil .nil))) (.node (F6 g213) (.node (F0 g347) (.node (F3 g600) (.node (F1 g1114) .nil .nil) .nil) (.node (F2 g857) (.node (F0 g1371) .nil .nil) .nil)) (.node (F1 g474) (.node (F0 g731) (.node (o1243 P) .nil .nil) .nil) (.node (F6 g981) .nil .nil)))) (.node (o123 P) (.node (F2 g185) (.node (F3 g312) (.node (F6 g565) (.node (F4 g1079) .nil .nil) .nil) (.node (F5 g822) (.node (F6 g1333) .nil .nil) .nil)) (.node (F4 g439) (.node (o699 P) (.node (F4 g1207) .nil .nil) .nil) (.node (F2 g953) .nil .nil))) (.node (F2 g249) (.node (F4 g375) (.node (F0 g635) (.node (F5 g1142) .nil .nil) .nil) (.node (F6 g885) .nil .nil)) (.node (F5 g502) (.node (F4 g759) (.node (F5 g1270) .nil .nil) .nil) (.node (F3 g1016) .nil .nil)))))))) (.node (o5 P) (.node (o9 P) (.node (o17 P) (.node (o33 P) (.node (o65 P) (.node (o129 P) (.node (F1 g256) (.node (o513 P) (.node (F2 g1023) .nil .nil) .nil) (.node (F3 g766) (.node (F4 g1277) .nil .nil) .nil)) (.node (F3 g382) (.node (F6 g635) (.node (F4 g1149) .nil .nil) .nil) (.node (F5 g892) .nil .nil))) (.node (F1 g192) (.node (F2 g319) (.node (F5 g572) (.node (o1089 P) .nil .nil) .nil) (.node (F4 g829) (.node (F5 g1340) .nil .nil) .nil)) (.node (F3 g446) (.node (F2 g703) (.node (F3 g1214) .nil .nil) .nil) (.node (F1 g960) .nil .nil)))) (.node (F3 g94) (.node (F4 g157) (.node (F5 g284) (.node (F1 g544) (.node (F6 g1051) .nil .nil) .nil) (.node (F0 g801) (.node (F1 g1312) .nil .nil) .nil)) (.node (F0 g417) (.node (F3 g670) (.node (F1 g1184) .nil .nil) .nil) (.node (F2 g927) .nil .nil))) (.node (F5 g220) (.node (F6 g347) (.node (F2 g607) (.node (F0 g1121) .nil .nil) .nil) (.node (F1 g864) (.node (F6 g1371) .nil .nil) .nil)) (.node (F0 g481) (.node (F6 g731) (.node (F0 g1249) .nil .nil) .nil) (.node (F5 g988) .nil .nil))))) (.node (o49 P) (.node (o81 P) (.node (F2 g143) (.node (F3 g270) (.node (F6 g523) (.node (F4 g1037) .nil .nil) .nil) (.node (F5 g780) (.node (F6 g1291) .nil .nil) .nil)) (.node (F5 g396) (.node (F1 g656) (.node (F6 g1163) .nil .nil) .nil) (.node (F0 g913) .nil .nil))) (.node (F3 g206) (.node (F4 g333) (.node (F0 g593) (.node (F5 g1100) .nil .nil) .nil) (.node (F6 g843) (.node (o1361 P) .nil .nil) .nil)) (.node (F5 g460) (.node (F4 g717) (.node (F5 g1228) .nil .nil) .nil) (.node (F3 g974) .nil .nil)))) (.node (o113 P) (.node (o177 P) (.node (F0 g305) (.node (F3 g558) (.node (F1 g1072) .nil .nil) .nil) (.node (F2 g815) (.node (F3 g1326) .nil .nil) .nil)) (.node (F2 g431) (.node (F5 g684) (.node (o1201 P) .nil .nil) .nil) (.node (F6 g939) .nil .nil))) (.node (F6 g235) (.node (F1 g368) (.node (F4 g621) (.node (o1137 P) .nil .nil) .nil) (.node (F3 g878) .nil .nil)) (.node (F2 g495) (.node (F1 g752) (.node (o1265 P) .nil .nil) .nil) (.node (F0 g1009) .nil .nil)))))) (.node (F3 g22) (.node (o41 P) (.node (o73 P) (.node (F1 g136) (.node (F2 g263) (.node (F5 g516) (.node (F3 g1030) .nil .nil) .nil) (.node (F4 g773) (.node (F5 g1284) .nil .nil) .nil)) (.node (F4 g389) (.node (F0 g649) (.node (F5 g1156) .nil .nil) .nil) (.node (F6 g899) .nil .nil))) (.node (F2 g199) (.node (F3 g326) (.node (F6 g579) (.node (F4 g1093) .nil .nil) .nil) (.node (F5 g836) (.node (F1 g1352) .nil .nil) .nil)) (.node (F4 g453) (.node (F3 g710) (.node (F4 g1221) .nil .nil) .nil) (.node (F2 g967) .nil .nil)))) (.node (o105 P) (.node (F5 g164) (.node (F6 g291) (.node (F2 g551) (.node (F0 g1065) .nil .nil) .nil) (.node (F1 g808) (.node (F2 g1319) .nil .nil) .nil)) (.node (F1 g424) (.node (F4 g677) (.node (o1193 P) .nil .nil) .nil) (.node (o937 P) .nil .nil))) (.node (o233 P) (.node (F0 g361) (.node (F3 g614) (.node (o1129 P) .nil .nil) .nil) (.node (F2 g871) (.node (o1385 P) .nil .nil) .nil)) (.node (F1 g488) (.node (F0 g745) (.node (o1257 P) .nil .nil) .nil) (.node (F6 g995) .nil .nil))))) (.node (o57 P) (.node (F2 g87) (.node (F3 g150) (.node (o281 P) (.node (F0 g537) (.node (F5 g1044) .nil .nil) .nil) (.node (F6 g787) (.node (F0 g1305) .nil .nil) .nil)) (.node (F6 g403) (.node (F2 g663) (.node (F0 g1177) .nil .nil) .nil) (.node (F1 g920) .nil .nil))) (.node (F4 g213) (.node (F5 g340) (.node (F1 g600) (.node (F6 g1107) .nil .nil) .nil) (.node (F0 g857) (.node (F5 g1364) .nil .nil) .nil)) (.node (F6 g467) (.node (F5 g724) (.node (F6 g1235) .nil .nil) .nil) (.node (F4 g981) .nil .nil)))) (.node (F6 g115) (.node (F0 g185) (.node (F1 g312) (.node (F4 g565) (.node (F2 g1079) .nil .nil) .nil) (.node (F3 g822) (.node (F4 g1333) .nil .nil) .nil)) (.node (F2 g439) (.node (F6 g691) (.node (F2 g1207) .nil .nil) .nil) (.node (F0 g953) .nil .nil))) (.node (F0 g249) (.node (F2 g375) (.node (F5 g628) (.node (F3 g1142) .nil .nil) .nil) (.node (F4 g885) .nil .nil)) (.node (F3 g502) (.node (F2 g759) (.node (F3 g1270) .nil .nil) .nil) (.node (F1 g1016) .nil .nil))))))) (.node (o13 P) (.node (o21 P) (.node (o37 P) (.node (F3 g66) (.node (o133 P) (.node (F5 g256) (.node (F1 g516) (.node (F6 g1023) .nil .nil) .nil) (.node (F0 g773) (.node (F1 g1284) .nil .nil) .nil)) (.node (F0 g389) (.node (F3 g642) (.node (F1 g1156) .nil .nil) .nil) (.node (F2 g899) .nil .nil))) (.node (F5 g192) (.node (F6 g319) (.node (F2 g579) (.node (F0 g1093) .nil .nil) .nil) (.node (F1 g836) (.node (o1349 P) .nil .nil) .nil)) (.node (F0 g453) (.node (F6 g703) (.node (F0 g1221) .nil .nil) .nil) (.node (F5 g960) .nil .nil)))) (.node (o101 P) (.node (F1 g164) (.node (F2 g291) (.node (F5 g544) (.node (F3 g1058) .nil .nil) .nil) (.node (F4 g801) (.node (F5 g1312) .nil .nil) .nil)) (.node (F4 g417) (.node (F0 g677) (.node (F5 g1184) .nil .nil) .nil) (.node (F6 g927) .nil .nil))) (.node (o229 P) (.node (F3 g354) (.node (F6 g607) (.node (F4 g1121) .nil .nil) .nil) (.node (F5 g864) (.node (o1381 P) .nil .nil) .nil)) (.node (F4 g481) (.node (F3 g738) (.node (F4 g1249) .nil .nil) .nil) (.node (F2 g995) .nil .nil))))) (.node (o53 P) (.node (o85 P) (.node (F6 g143) (.node (o277 P) (.node (o533 P) (.node (F1 g1044) .nil .nil) .nil) (.node (F2 g787) (.node (o1301 P) .nil .nil) .nil)) (.node (F2 g403) (.node (F5 g656) (.node (F3 g1170) .nil .nil) .nil) (.node (F4 g913) .nil .nil))) (.node (F0 g213) (.node (F1 g340) (.node (F4 g593) (.node (F2 g1107) .nil .nil) .nil) (.node (F3 g850) (.node (F1 g1364) .nil .nil) .nil)) (.node (F2 g467) (.node (F1 g724) (.node (F2 g1235) .nil .nil) .nil) (.node (F0 g981) .nil .nil)))) (.node (F2 g115) (.node (F3 g178) (.node (F4 g305) (.node (F0 g565) (.node (F5 g1072) .nil .nil) .nil) (.node (F6 g815) (.node (F0 g1333) .nil .nil) .nil)) (.node (F6 g431) (.node (F2 g691) (.node (o1205 P) .nil .nil) .nil) (.node (F3 g946) .nil .nil))) (.node (F3 g242) (.node (F5 g368) (.node (F1 g628) (.node (o1141 P) .nil .nil) .nil) (.node (F0 g885) .nil .nil)) (.node (F6 g495) (.node (F5 g752) (.node (o1269 P) .nil .nil) .nil) (.node (F4 g1009) .nil .nil)))))) (.node (o29 P) (.node (o45 P) (.node (o77 P) (.node (F5 g136) (.node (F6 g263) (.node (F2 g523) (.node (F0 g1037) .nil .nil) .nil) (.node (F1 g780) (.node (F2 g1291) .nil .nil) .nil)) (.node (F1 g396) (.node (F4 g649) (.node (F2 g1163) .nil .nil) .nil) (.node (F3 g906) .nil .nil))) (.node (F6 g199) (.node (F0 g333) (.node (F3 g586) (.node (F1 g1100) .nil .nil) .nil) (.node (F2 g843) (.node (F5 g1352) .nil .nil) .nil)) (.node (F1 g460) (.node (F0 g717) (.node (F1 g1228) .nil .nil) .nil) (.node (F6 g967) .nil .nil)))) (.node (o109 P) (.node (o173 P) (.node (F3 g298) (.node (F6 g551) (.node (F4 g1065) .nil .nil) .nil) (.node (F5 g808) (.node (F6 g1319) .nil .nil) .nil)) (.node (F5 g424) (.node (F1 g684) (.node (o1197 P) .nil .nil) .nil) (.node (F2 g939) .nil .nil))) (.node (F2 g235) (.node (F4 g361) (.node (F0 g621) (.node (o1133 P) .nil .nil) .nil) (.node (F6 g871) .nil .nil)) (.node (F5 g488) (.node (F4 g745) (.node (o1261 P) .nil .nil) .nil) (.node (F3 g1002) .nil .nil))))) (.node (o61 P) (.node (F6 g87) (.node (F0 g157) (.node (F1 g284) (.node (F4 g537) (.node (F2 g1051) .nil .nil) .nil) (.node (F3 g794) (.node (F4 g1305) .nil .nil) .nil)) (.node (F3 g410) (.node (F6 g663) (.node (F4 g1177) .nil .nil) .nil) (.node (F5 g920) .nil .nil))) (.node (F1 g220) (.node (F2 g347) (.node (F5 g600) (.node (F3 g1114) .nil .nil) .nil) (.node (F4 g857) (.node (F2 g1371) .nil .nil) .nil)) (.node (F3 g474) (.node (F2 g731) (.node (o1245 P) .nil .nil) .nil) (.node (F1 g988) .nil .nil)))) (.node (o125 P) (.node (F4 g185) (.node (F5 g312) (.node (F1 g572) (.node (F6 g1079) .nil .nil) .nil) (.node (F0 g829) (.node (F1 g1340) .nil .nil) .nil)) (.node (F6 g439) (.node (o701 P) (.node (F6 g1207) .nil .nil) .nil) (.node (F4 g953) .nil .nil))) (.node (F4 g249) (.node (F6 g375) (.node (F2 g635) (.node (F0 g1149) .nil .nil) .nil) (.node (F1 g892) .nil .nil)) (.node (o509 P) (.node (F6 g759) (.node (F0 g1277) .nil .nil) .nil) (.node (F5 g1016) .nil .nil))))))))) (.node (o2 P) (.node (o4 P) (.node (o8 P) (.node (o16 P) (.node (o32 P) (.node (o64 P) (.node (o128 P) (.node (F0 g256) (.node (o512 P) (.node (F1 g1023) .nil .nil) .nil) (.node (F2 g766) (.node (F3 g1277) .nil .nil) .nil)) (.node (F2 g382) (.node (F5 g635) (.node (F3 g1149) .nil .nil) .nil) (.node (F4 g892) .nil .nil))) (.node (F0 g192) (.node (F1 g319) (.node (F4 g572) (.node (o1088 P) .nil .nil) .nil) (.node (F3 g829) (.node (F4 g1340) .nil .nil) .nil)) (.node (F2 g446) (.node (F1 g703) (.node (F2 g1214) .nil .nil) .nil) (.node (F0 g960) .nil .nil)))) (.node (F2 g94) (.node (F3 g157) (.node (F4 g284) (.node (F0 g544) (.node (F5 g1051) .nil .nil) .nil) (.node (F6 g794) (.node (F0 g1312) .nil .nil) .nil)) (.node (F6 g410) (.node (F2 g670) (.node (F0 g1184) .nil .nil) .nil) (.node (F1 g927) .nil .nil))) (.node (F4 g220) (.node (F5 g347) (.node (F1 g607) (.node (F6 g1114) .nil .nil) .nil) (.node (F0 g864) (.node (F5 g1371) .nil .nil) .nil)) (.node (F6 g474) (.node (F5 g731) (.node (o1248 P) .nil .nil) .nil) (.node (F4 g988) .nil .nil))))) (.node (o48 P) (.node (o80 P) (.node (F1 g143) (.node (F2 g270) (.node (F5 g523) (.node (F3 g1037) .nil .nil) .nil) (.node (F4 g780) (.node (F5 g1291) .nil .nil) .nil)) (.node (F4 g396) (.node (F0 g656) (.node (F5 g1163) .nil .nil) .nil) (.node (F6 g906) .nil .nil))) (.node (F2 g206) (.node (F3 g333) (.node (F6 g586) (.node (F4 g1100) .nil .nil) .nil) (.node (F5 g843) (.node (o1360 P) .nil .nil) .nil)) (.node (F4 g460) (.node (F3 g717) (.node (F4 g1228) .nil .nil) .nil) (.node (F2 g974) .nil .nil)))) (.node (o112 P) (.node (o176 P) (.node (F6 g298) (.node (F2 g558) (.node (F0 g1072) .nil .nil) .nil) (.node (F1 g815) (.node (F2 g1326) .nil .nil) .nil)) (.node (F1 g431) (.node (F4 g684) (.node (o1200 P) .nil .nil) .nil) (.node (F5 g939) .nil .nil))) (.node (F5 g235) (.node (F0 g368) (.node (F3 g621) (.node (o1136 P) .nil .nil) .nil) (.node (F2 g878) .nil .nil)) (.node (F1 g495) (.node (F0 g752) (.node (o1264 P) .nil .nil) .nil) (.node (F6 g1002) .nil .nil)))))) (.node (F2 g22) (.node (o40 P) (.node (F6 g66) (.node (F0 g136) (.node (F1 g263) (.node (F4 g516) (.node (F2 g1030) .nil .nil) .nil) (.node (F3 g773) (.node (F4 g1284) .nil .nil) .nil)) (.node (F3 g389) (.node (F6 g642) (.node (F4 g1156) .nil .nil) .nil) (.node (F5 g899) .nil .nil))) (.node (F1 g199) (.node (F2 g326) (.node (F5 g579) (.node (F3 g1093) .nil .nil) .nil) (.node (F4 g836) (.node (F0 g1352) .nil .nil) .nil)) (.node (F3 g453) (.node (F2 g710) (.node (F3 g1221) .nil .nil) .nil) (.node (F1 g967) .nil .nil)))) (.node (o104 P) (.node (F4 g164) (.node (F5 g291) (.node (F1 g551) (.node (F6 g1058) .nil .nil) .nil) (.node (F0 g808) (.node (F1 g1319) .nil .nil) .nil)) (.node (F0 g424) (.node (F3 g677) (.node (o1192 P) .nil .nil) .nil) (.node (o936 P) .nil .nil))) (.node (o232 P) (.node (F6 g354) (.node (F2 g614) (.node (o1128 P) .nil .nil) .nil) (.node (F1 g871) (.node (o1384 P) .nil .nil) .nil)) (.node (F0 g488) (.node (F6 g738) (.node (o1256 P) .nil .nil) .nil) (.node (F5 g995) .nil .nil))))) (.node (o56 P) (.node (F1 g87) (.node (F2 g150) (.node (o280 P) (.node (o536 P) (.node (F4 g1044) .nil .nil) .nil) (.node (F5 g787) (.node (o1304 P) .nil .nil) .nil)) (.node (F5 g403) (.node (F1 g663) (.node (F6 g1170) .nil .nil) .nil) (.node (F0 g920) .nil .nil))) (.node (F3 g213) (.node (F4 g340) (.node (F0 g600) (.node (F5 g1107) .nil .nil) .nil) (.node (F6 g850) (.node (F4 g1364) .nil .nil) .nil)) (.node (F5 g467) (.node (F4 g724) (.node (F5 g1235) .nil .nil) .nil) (.node (F3 g981) .nil .nil)))) (.node (F5 g115) (.node (F6 g178) (.node (F0 g312) (.node (F3 g565) (.node (F1 g1079) .nil .nil) .nil) (.node (F2 g822) (.node (F3 g1333) .nil .nil) .nil)) (.node (F1 g439) (.node (F5 g691) (.node (F1 g1207) .nil .nil) .nil) (.node (F6 g946) .nil .nil))) (.node (F6 g242) (.node (F1 g375) (.node (F4 g628) (.node (F2 g1142) .nil .nil) .nil) (.node (F3 g885) .nil .nil)) (.node (F2 g502) (.node (F1 g759) (.node (F2 g1270) .nil .nil) .nil) (.node (F0 g1016) .nil .nil))))))) (.node (o12 P) (.node (o20 P) (.node (o36 P) (.node (F2 g66) (.node (o132 P) (.node (F4 g256) (.node (F0 g516) (.node (F5 g1023) .nil .nil) .nil) (.node (F6 g766) (.node (F0 g1284) .nil .nil) .nil)) (.node (F6 g382) (.node (F2 g642) (.node (F0 g1156) .nil .nil) .nil) (.node (F1 g899) .nil .nil))) (.node (F4 g192) (.node (F5 g319) (.node (F1 g579) (.node (o1092 P) .nil .nil) .nil) (.node (F0 g836) (.node (o1348 P) .nil .nil) .nil)) (.node (F6 g446) (.node (F5 g703) (.node (F6 g1214) .nil .nil) .nil) (.node (F4 g960) .nil .nil)))) (.node (F6 g94) (.node (F0 g164) (.node (F1 g291) (.node (F4 g544) (.node (F2 g1058) .nil .nil) .nil) (.node (F3 g801) (.node (F4 g1312) .nil .nil) .nil)) (.node (F3 g417) (.node (F6 g670) (.node (F4 g1184) .nil .nil) .nil) (.node (F5 g927) .nil .nil))) (.node (o228 P) (.node (F2 g354) (.node (F5 g607) (.node (F3 g1121) .nil .nil) .nil) (.node (F4 g864) (.node (o1380 P) .nil .nil) .nil)) (.node (F3 g481) (.node (F2 g738) (.node (F3 g1249) .nil .nil) .nil) (.node (F1 g995) .nil .nil))))) (.node (o52 P) (.node (o84 P) (.node (F5 g143) (.node (F6 g270) (.node (o532 P) (.node (F0 g1044) .nil .nil) .nil) (.node (F1 g787) (.node (o1300 P) .nil .nil) .nil)) (.node (F1 g403) (.node (F4 g656) (.node (F2 g1170) .nil .nil) .nil) (.node (F3 g913) .nil .nil))) (.node (F6 g206) (.node (F0 g340) (.node (F3 g593) (.node (F1 g1107) .nil .nil) .nil) (.node (F2 g850) (.node (F0 g1364) .nil .nil) .nil)) (.node (F1 g467) (.node (F0 g724) (.node (F1 g1235) .nil .nil) .nil) (.node (F6 g974) .nil .nil)))) (.node (F1 g115) (.node (F2 g178) (.node (F3 g305) (.node (F6 g558) (.node (F4 g1072) .nil .nil) .nil) (.node (F5 g815) (.node (F6 g1326) .nil .nil) .nil)) (.node (F5 g431) (.node (F1 g691) (.node (o1204 P) .nil .nil) .nil) (.node (F2 g946) .nil .nil))) (.node (F2 g242) (.node (F4 g368) (.node (F0 g628) (.node (o1140 P) .nil .nil) .nil) (.node (F6 g878) .nil .nil)) (.node (F5 g495) (.node (F4 g752) (.node (o1268 P) .nil .nil) .nil) (.node (F3 g1009) .nil .nil)))))) (.node (F6 g22) (.node (o44 P) (.node (o76 P) (.node (F4 g136) (.node (F5 g263) (.node (F1 g523) (.node (F6 g1030) .nil .nil) .nil) (.node (F0 g780) (.node (F1 g1291) .nil .nil) .nil)) (.node (F0 g396) (.node (F3 g649) (.node (F1 g1163) .nil .nil) .nil) (.node (F2 g906) .nil .nil))) (.node (F5 g199) (.node (F6 g326) (.node (F2 g586) (.node (F0 g1100) .nil .nil) .nil) (.node (F1 g843) (.node (F4 g1352) .nil .nil) .nil)) (.node (F0 g460) (.node (F6 g710) (.node (F0 g1228) .nil .nil) .nil) (.node (F5 g967) .nil .nil)))) (.node (o108 P) (.node (o172 P) (.node (F2 g298) (.node (F5 g551) (.node (F3 g1065) .nil .nil) .nil) (.node (F4 g808) (.node (F5 g1319) .nil .nil) .nil)) (.node (F4 g424) (.node (F0 g684) (.node (o1196 P) .nil .nil) .nil) (.node (F1 g939) .nil .nil))) (.node (F1 g235) (.node (F3 g361) (.node (F6 g614) (.node (o1132 P) .nil .nil) .nil) (.node (F5 g871) .nil .nil)) (.node (F4 g488) (.node (F3 g745) (.node (o1260 P) .nil .nil) .nil) (.node (F2 g1002) .nil .nil))))) (.node (o60 P) (.node (F5 g87) (.node (F6 g150) (.node (F0 g284) (.node (F3 g537) (.node (F1 g1051) .nil .nil) .nil) (.node (F2 g794) (.node (F3 g1305) .nil .nil) .nil)) (.node (F2 g410) (.node (F5 g663) (.node (F3 g1177) .nil .nil) .nil) (.node (F4 g920) .nil .nil))) (.node (F0 g220) (.node (F1 g347) (.node (F4 g600) (.node (F2 g1114) .nil .nil) .nil) (.node (F3 g857) (.node (F1 g1371) .nil .nil) .nil)) (.node (F2 g474) (.node (F1 g731) (.node (o1244 P) .nil .nil) .nil) (.node (F0 g988) .nil .nil)))) (.node (o124 P) (.node (F3 g185) (.node (F4 g312) (.node (F0 g572) (.node (F5 g1079) .nil .nil) .nil) (.node (F6 g822) (.node (F0 g1340) .nil .nil) .nil)) (.node (F5 g439) (.node (o700 P) (.node (F5 g1207) .nil .nil) .nil) (.node (F3 g953) .nil .nil))) (.node (F3 g249) (.node (F5 g375) (.node (F1 g635) (.node (F6 g1142) .nil .nil) .nil) (.node (F0 g892) .nil .nil)) (.node (F6 g502) (.node (F5 g759) (.node (F6 g1270) .nil .nil) .nil) (.node (F4 g1016) .nil .nil)))))))) (.node (o6 P) (.node (o10 P) (.node (o18 P) (.node (o34 P) (.node (F0 g66) (.node (o130 P) (.node (F2 g256) (.node (o514 P) (.node (F3 g1023) .nil .nil) .nil) (.node (F4 g766) (.node (F5 g1277) .nil .nil) .nil)) (.node (F4 g382) (.node (F0 g642) (.node (F5 g1149) .nil .nil) .nil) (.node (F6 g892) .nil .nil))) (.node (F2 g192) (.node (F3 g319) (.node (F6 g572) (.node (o1090 P) .nil .nil) .nil) (.node (F5 g829) (.node (F6 g1340) .nil .nil) .nil)) (.node (F4 g446) (.node (F3 g703) (.node (F4 g1214) .nil .nil) .nil) (.node (F2 g960) .nil .nil)))) (.node (F4 g94) (.node (F5 g157) (.node (F6 g284) (.node (F2 g544) (.node (F0 g1058) .nil .nil) .nil) (.node (F1 g801) (.node (F2 g1312) .nil .nil) .nil)) (.node (F1 g417) (.node (F4 g670) (.node (F2 g1184) .nil .nil) .nil) (.node (F3 g927) .nil .nil))) (.node (F6 g220) (.node (F0 g354) (.node (F3 g607) (.node (F1 g1121) .nil .nil) .nil) (.node (F2 g864) (.node (o1378 P) .nil .nil) .nil)) (.node (F1 g481) (.node (F0 g738) (.node (F1 g1249) .nil .nil) .nil) (.node (F6 g988) .nil .nil))))) (.node (o50 P) (.node (o82 P) (.node (F3 g143) (.node (F4 g270) (.node (o530 P) (.node (F5 g1037) .nil .nil) .nil) (.node (F6 g780) (.node (o1298 P) .nil .nil) .nil)) (.node (F6 g396) (.node (F2 g656) (.node (F0 g1170) .nil .nil) .nil) (.node (F1 g913) .nil .nil))) (.node (F4 g206) (.node (F5 g333) (.node (F1 g593) (.node (F6 g1100) .nil .nil) .nil) (.node (F0 g850) (.node (o1362 P) .nil .nil) .nil)) (.node (F6 g460) (.node (F5 g717) (.node (F6 g1228) .nil .nil) .nil) (.node (F4 g974) .nil .nil)))) (.node (o114 P) (.node (F0 g178) (.node (F1 g305) (.node (F4 g558) (.node (F2 g1072) .nil .nil) .nil) (.node (F3 g815) (.node (F4 g1326) .nil .nil) .nil)) (.node (F3 g431) (.node (F6 g684) (.node (o1202 P) .nil .nil) .nil) (.node (F0 g946) .nil .nil))) (.node (F0 g242) (.node (F2 g368) (.node (F5 g621) (.node (o1138 P) .nil .nil) .nil) (.node (F4 g878) .nil .nil)) (.node (F3 g495) (.node (F2 g752) (.node (o1266 P) .nil .nil) .nil) (.node (F1 g1009) .nil .nil)))))) (.node (F4 g22) (.node (o42 P) (.node (o74 P) (.node (F2 g136) (.node (F3 g263) (.node (F6 g516) (.node (F4 g1030) .nil .nil) .nil) (.node (F5 g773) (.node (F6 g1284) .nil .nil) .nil)) (.node (F5 g389) (.node (F1 g649) (.node (F6 g1156) .nil .nil) .nil) (.node (F0 g906) .nil .nil))) (.node (F3 g199) (.node (F4 g326) (.node (F0 g586) (.node (F5 g1093) .nil .nil) .nil) (.node (F6 g836) (.node (F2 g1352) .nil .nil) .nil)) (.node (F5 g453) (.node (F4 g710) (.node (F5 g1221) .nil .nil) .nil) (.node (F3 g967) .nil .nil)))) (.node (o106 P) (.node (F6 g164) (.node (F0 g298) (.node (F3 g551) (.node (F1 g1065) .nil .nil) .nil) (.node (F2 g808) (.node (F3 g1319) .nil .nil) .nil)) (.node (F2 g424) (.node (F5 g677) (.node (o1194 P) .nil .nil) .nil) (.node (o938 P) .nil .nil))) (.node (o234 P) (.node (F1 g361) (.node (F4 g614) (.node (o1130 P) .nil .nil) .nil) (.node (F3 g871) (.node (o1386 P) .nil .nil) .nil)) (.node (F2 g488) (.node (F1 g745) (.node (o1258 P) .nil .nil) .nil) (.node (F0 g1002) .nil .nil))))) (.node (o58 P) (.node (F3 g87) (.node (F4 g150) (.node (o282 P) (.node (F1 g537) (.node (F6 g1044) .nil .nil) .nil) (.node (F0 g794) (.node (F1 g1305) .nil .nil) .nil)) (.node (F0 g410) (.node (F3 g663) (.node (F1 g1177) .nil .nil) .nil) (.node (F2 g920) .nil .nil))) (.node (F5 g213) (.node (F6 g340) (.node (F2 g600) (.node (F0 g1114) .nil .nil) .nil) (.node (F1 g857) (.node (F6 g1364) .nil .nil) .nil)) (.node (F0 g474) (.node (F6 g724) (.node (o1242 P) .nil .nil) .nil) (.node (F5 g981) .nil .nil)))) (.node (o122 P) (.node (F1 g185) (.node (F2 g312) (.node (F5 g565) (.node (F3 g1079) .nil .nil) .nil) (.node (F4 g822) (.node (F5 g1333) .nil .nil) .nil)) (.node (F3 g439) (.node (o698 P) (.node (F3 g1207) .nil .nil) .nil) (.node (F1 g953) .nil .nil))) (.node (F1 g249) (.node (F3 g375) (.node (F6 g628) (.node (F4 g1142) .nil .nil) .nil) (.node (F5 g885) .nil .nil)) (.node (F4 g502) (.node (F3 g759) (.node (F4 g1270) .nil .nil) .nil) (.node (F2 g1016) .nil .nil))))))) (.node (o14 P) (.node (F0 g22) (.node (o38 P) (.node (F4 g66) (.node (o134 P) (.node (F6 g256) (.node (F2 g516) (.node (F0 g1030) .nil .nil) .nil) (.node (F1 g773) (.node (F2 g1284) .nil .nil) .nil)) (.node (F1 g389) (.node (F4 g642) (.node (F2 g1156) .nil .nil) .nil) (.node (F3 g899) .nil .nil))) (.node (F6 g192) (.node (F0 g326) (.node (F3 g579) (.node (F1 g1093) .nil .nil) .nil) (.node (F2 g836) (.node (o1350 P) .nil .nil) .nil)) (.node (F1 g453) (.node (F0 g710) (.node (F1 g1221) .nil .nil) .nil) (.node (F6 g960) .nil .nil)))) (.node (o102 P) (.node (F2 g164) (.node (F3 g291) (.node (F6 g544) (.node (F4 g1058) .nil .nil) .nil) (.node (F5 g801) (.node (F6 g1312) .nil .nil) .nil)) (.node (F5 g417) (.node (F1 g677) (.node (F6 g1184) .nil .nil) .nil) (.node (o934 P) .nil .nil))) (.node (o230 P) (.node (F4 g354) (.node (F0 g614) (.node (F5 g1121) .nil .nil) .nil) (.node (F6 g864) (.node (o1382 P) .nil .nil) .nil)) (.node (F5 g481) (.node (F4 g738) (.node (F5 g1249) .nil .nil) .nil) (.node (F3 g995) .nil .nil))))) (.node (o54 P) (.node (o86 P) (.node (F0 g150) (.node (o278 P) (.node (o534 P) (.node (F2 g1044) .nil .nil) .nil) (.node (F3 g787) (.node (o1302 P) .nil .nil) .nil)) (.node (F3 g403) (.node (F6 g656) (.node (F4 g1170) .nil .nil) .nil) (.node (F5 g913) .nil .nil))) (.node (F1 g213) (.node (F2 g340) (.node (F5 g593) (.node (F3 g1107) .nil .nil) .nil) (.node (F4 g850) (.node (F2 g1364) .nil .nil) .nil)) (.node (F3 g467) (.node (F2 g724) (.node (F3 g1235) .nil .nil) .nil) (.node (F1 g981) .nil .nil)))) (.node (F3 g115) (.node (F4 g178) (.node (F5 g305) (.node (F1 g565) (.node (F6 g1072) .nil .nil) .nil) (.node (F0 g822) (.node (F1 g1333) .nil .nil) .nil)) (.node (o438 P) (.node (F3 g691) (.node (o1206 P) .nil .nil) .nil) (.node (F4 g946) .nil .nil))) (.node (F4 g242) (.node (F6 g368) (.node (F2 g628) (.node (F0 g1142) .nil .nil) .nil) (.node (F1 g885) .nil .nil)) (.node (F0 g502) (.node (F6 g752) (.node (F0 g1270) .nil .nil) .nil) (.node (F5 g1009) .nil .nil)))))) (.node (o30 P) (.node (o46 P) (.node (o78 P) (.node (F6 g136) (.node (F0 g270) (.node (F3 g523) (.node (F1 g1037) .nil .nil) .nil) (.node (F2 g780) (.node (F3 g1291) .nil .nil) .nil)) (.node (F2 g396) (.node (F5 g649) (.node (F3 g1163) .nil .nil) .nil) (.node (F4 g906) .nil .nil))) (.node (F0 g206) (.node (F1 g333) (.node (F4 g586) (.node (F2 g1100) .nil .nil) .nil) (.node (F3 g843) (.node (F6 g1352) .nil .nil) .nil)) (.node (F2 g460) (.node (F1 g717) (.node (F2 g1228) .nil .nil) .nil) (.node (F0 g974) .nil .nil)))) (.node (o110 P) (.node (o174 P) (.node (F4 g298) (.node (F0 g558) (.node (F5 g1065) .nil .nil) .nil) (.node (F6 g808) (.node (F0 g1326) .nil .nil) .nil)) (.node (F6 g424) (.node (F2 g684) (.node (o1198 P) .nil .nil) .nil) (.node (F3 g939) .nil .nil))) (.node (F3 g235) (.node (F5 g361) (.node (F1 g621) (.node (o1134 P) .nil .nil) .nil) (.node (F0 g878) .nil .nil)) (.node (F6 g488) (.node (F5 g745) (.node (o1262 P) .nil .nil) .nil) (.node (F4 g1002) .nil .nil))))) (.node (o62 P) (.node (F0 g94) (.node (F1 g157) (.node (F2 g284) (.node (F5 g537) (.node (F3 g1051) .nil .nil) .nil) (.node (F4 g794) (.node (F5 g1305) .nil .nil) .nil)) (.node (F4 g410) (.node (F0 g670) (.node (F5 g1177) .nil .nil) .nil) (.node (F6 g920) .nil .nil))) (.node (F2 g220) (.node (F3 g347) (.node (F6 g600) (.node (F4 g1114) .nil .nil) .nil) (.node (F5 g857) (.node (F3 g1371) .nil .nil) .nil)) (.node (F4 g474) (.node (F3 g731) (.node (o1246 P) .nil .nil) .nil) (.node (F2 g988) .nil .nil)))) (.node (o126 P) (.node (F5 g185) (.node (F6 g312) (.node (F2 g572) (.node (o1086 P) .nil .nil) .nil) (.node (F1 g829) (.node (F2 g1340) .nil .nil) .nil)) (.node (F0 g446) (.node (o702 P) (.node (F0 g1214) .nil .nil) .nil) (.node (F5 g953) .nil .nil))) (.node (F5 g249) (.node (F0 g382) (.node (F3 g635) (.node (F1 g1149) .nil .nil) .nil) (.node (F2 g892) .nil .nil)) (.node (o510 P) (.node (F0 g766) (.node (F1 g1277) .nil .nil) .nil) (.node (F6 g1016) .nil .nil))))))))))
noncomputable def st0 (P : Params) : BT := (BT.set (BT.set (BT.set (prune 15 (tree P) 1 0) 2 (fun _ => boot_o_2 P)) 3 (fun _ => boot_o_3 P)) 12 (fun _ => ⟨.none, none, (.fields (A (List.take 0 (o12L P)))), A []⟩))
noncomputable def st3 (P : Params) : BT := (BT.set (BT.set (prune 59 (tree P) 1 0) 3 (fun _ => ⟨(.type "dict"), none, (.dict (A (E P "__name__" (nat_lit 165) (.str (S "outlinemill.hint_calls") (nat_lit 250)) :: List.take 11 (List.tail (o3L P)))) (nat_lit 12)), A []⟩)) 12 (fun _ => ⟨.none, none, (.fields (A (List.take 9 (o12L P)))), A []⟩))
noncomputable def st7 (P : Params) : BT := (BT.set (BT.set (prune 178 (tree P) 1 0) 3 (fun _ => ⟨(.type "dict"), none, (.dict (A (E P "__name__" (nat_lit 165) (.str (S "outlinemill.hint_code") (nat_lit 420)) :: List.take 16 (List.tail (o3L P)))) (nat_lit 17)), A []⟩)) 12 (fun _ => ⟨.none, none, (.fields (A (List.take 21 (o12L P)))), A []⟩))
noncomputable def st9 (P : Params) : BT := (BT.set (BT.set (prune 284 (tree P) 1 0) 3 (fun _ => ⟨(.type "dict"), none, (.dict (A (E P "__name__" (nat_lit 165) (.str (S "outlinemill.hint_machine") (nat_lit 516)) :: List.take 40 (List.tail (o3L P)))) (nat_lit 41)), A []⟩)) 12 (fun _ => ⟨.none, none, (.fields (A (List.take 45 (o12L P)))), A []⟩))
noncomputable def st11 (P : Params) : BT := (BT.set (BT.set (prune 439 (tree P) 1 0) 3 (fun _ => ⟨(.type "dict"), none, (.dict (A (E P "__name__" (nat_lit 165) (.str (S "outlinemill.hint_marks") (nat_lit 828)) :: List.take 65 (List.tail (o3L P)))) (nat_lit 66)), A []⟩)) 12 (fun _ => ⟨.none, none, (.fields (A (List.take 111 (o12L P)))), A []⟩))
noncomputable def st13 (P : Params) : BT := (BT.set (BT.set (prune 558 (tree P) 1 0) 3 (fun _ => ⟨(.type "dict"), none, (.dict (A (E P "__name__" (nat_lit 165) (.str (S "outlinemill.hint_relations") (nat_lit 1034)) :: List.take 79 (List.tail (o3L P)))) (nat_lit 80)), A []⟩)) 12 (fun _ => ⟨.none, none, (.fields (A (List.take 153 (o12L P)))), A []⟩))
noncomputable def st15 (P : Params) : BT := (BT.set (BT.set (prune 710 (tree P) 1 0) 3 (fun _ => ⟨(.type "dict"), none, (.dict (A (E P "__name__" (nat_lit 165) (.str (S "outlinemill.hint_stack") (nat_lit 1198)) :: List.take 102 (List.tail (o3L P)))) (nat_lit 103)), A []⟩)) 12 (fun _ => ⟨.none, none, (.fields (A (List.take 219 (o12L P)))), A []⟩))
noncomputable def st17 (P : Params) : BT := (BT.set (BT.set (prune 871 (tree P) 1 0) 3 (fun _ => ⟨(.type "dict"), none, (.dict (A (E P "__name__" (nat_lit 165) (.str (S "outlinemill.hint_shifts") (nat_lit 1450)) :: List.take 125 (List.tail (o3L P)))) (nat_lit 126)), A []⟩)) 12 (fun _ => ⟨.none, none, (.fields (A (List.take 288 (o12L P)))), A []⟩))
noncomputable def st19 (P : Params) : BT := (BT.set (BT.set (prune 1016 (tree P) 1 0) 3 (fun _ => ⟨(.type "dict"), none, (.dict (A (E P "__name__" (nat_lit 165) (.str (S "outlinemill.hint_vectors") (nat_lit 1626)) :: List.take 149 (List.tail (o3L P)))) (nat_lit 150)), A []⟩)) 12 (fun _ => ⟨.none, none, (.fields (A (List.take 351 (o12L P)))), A []⟩))
noncomputable def st21 (P : Params) : BT := (BT.set (BT.set (prune 1135 (tree P) 1 0) 3 (fun _ => ⟨(.type "dict"), none, (.dict (A (E P "__name__" (nat_lit 165) (.str (S "outlinemill.hint_work") (nat_lit 1889)) :: List.take 161 (List.tail (o3L P)))) (nat_lit 162)), A []⟩)) 12 (fun _ => ⟨.none, none, (.fields (A (List.take 384 (o12L P)))), A []⟩))
noncomputable def st23 (P : Params) : BT := (BT.set (BT.set (prune 1249 (tree P) 1 0) 3 (fun _ => ⟨(.type "dict"), none, (.dict (A (E P "__name__" (nat_lit 165) (.str (S "outlinemill.hint_zones") (nat_lit 2045)) :: List.take 163 (List.tail (o3L P)))) (nat_lit 164)), A []⟩)) 12 (fun _ => ⟨.none, none, (.fields (A (List.take 390 (o12L P)))), A []⟩))
noncomputable def st25 (P : Params) : BT := (BT.set (BT.set (prune 1305 (tree P) 1 0) 3 (fun _ => ⟨(.type "dict"), none, (.dict (A (List.take 166 (o3L P))) (nat_lit 166)), A []⟩)) 12 (fun _ => ⟨.none, none, (.fields (A (List.take 396 (o12L P)))), A []⟩))
noncomputable def st27 (P : Params) : BT := (prune 1388 (tree P) 1 0)
noncomputable abbrev EV : Env := { scope := PR.main.scope, locals := mainNs, globals := mainNs, cells := [], code := .ref 13, frame := some 14 }
noncomputable def sts (i k : Nat) : List Stmt := List.take k (List.drop i PR.main.body)
noncomputable abbrev SR := @Fast.tw10110043849684766642
noncomputable abbrev TT := @Fast.tw14364793385576792824
theorem sr_eq : @segRunT = @SR := Fast.te10110043849684766642
theorem tt_eq : @treeTable = @TT := Fast.te14364793385576792824
noncomputable abbrev ANN : Option Value := some (.ref (nat_lit 6))
noncomputable abbrev stT (t : BT) (n k : Nat) (os : OsState) : SharedT := ⟨t, n, {}, ⟨[]⟩, {}, k, os⟩
theorem piece_of {w : World} {n : Nat} {t t' : BT} {a k a' k' : Nat} {l : List Stmt} {pos pos' : Pos}
    (h : (fun (p : Program) (b : List Stmt) (os : OsState) => SR TT p w (nat_lit 11) ANN (nat_lit 1) n (stT t a k os) (piecesOf l EV (Code.body b EV) pos [topFrame ⟨0, 0, 0, 0⟩])) = fun (p : Program) (b : List Stmt) (os : OsState) => some (Flow.next, stT t' a' k' os, Code.body b EV, pos'))
    (p : Program) (b : List Stmt) (os : OsState) {N : Nat} {rest : List Stmt} {r : Shared} (kk : topRun treeTable p w (nat_lit 11) ANN N (stT t' a' k' os).abs (restOf rest EV (Code.body b EV) pos' [topFrame ⟨0, 0, 0, 0⟩]) = some r) :
    topRun treeTable p w (nat_lit 11) ANN (n + N) (stT t a k os).abs (restOf (l ++ rest) EV (Code.body b EV) pos [topFrame ⟨0, 0, 0, 0⟩]) = some r := by
  refine piece_app (segRun_of ?_) kk
  rw [sr_eq, tt_eq]
  exact congrFun (congrFun (congrFun h p) b) os
theorem pc1 (w : World) : (fun (p : Program) (b : List Stmt) (os : OsState) => SR TT p w (nat_lit 11) ANN (nat_lit 1) (nat_lit 673) (stT (st0 w.params) (nat_lit 15) (nat_lit 187) os) (piecesOf (sts 0 5) EV (Code.body b EV) ⟨0,0,0,0⟩ [topFrame ⟨0, 0, 0, 0⟩])) = fun (p : Program) (b : List Stmt) (os : OsState) => some (Flow.next, stT (st3 w.params) (nat_lit 59) (nat_lit 252) os, Code.body b EV, ⟨10,0,10,8⟩) := by kernel_rfl
theorem pc2 (w : World) : (fun (p : Program) (b : List Stmt) (os : OsState) => SR TT p w (nat_lit 11) ANN (nat_lit 1) (nat_lit 1079) (stT (st3 w.params) (nat_lit 59) (nat_lit 252) os) (piecesOf (sts 5 6) EV (Code.body b EV) ⟨10,0,10,8⟩ [topFrame ⟨0, 0, 0, 0⟩])) = fun (p : Program) (b : List Stmt) (os : OsState) => some (Flow.next, stT (st7 w.params) (nat_lit 178) (nat_lit 424) os, Code.body b EV, ⟨68,0,68,6⟩) := by kernel_rfl
theorem pc3 (w : World) : (fun (p : Program) (b : List Stmt) (os : OsState) => SR TT p w (nat_lit 11) ANN (nat_lit 1) (nat_lit 786) (stT (st7 w.params) (nat_lit 178) (nat_lit 424) os) (piecesOf (sts 11 25) EV (Code.body b EV) ⟨68,0,68,6⟩ [topFrame ⟨0, 0, 0, 0⟩])) = fun (p : Program) (b : List Stmt) (os : OsState) => some (Flow.next, stT (st9 w.params) (nat_lit 284) (nat_lit 622) os, Code.body b EV, ⟨137,0,209,30⟩) := by kernel_rfl
theorem pc4 (w : World) : (fun (p : Program) (b : List Stmt) (os : OsState) => SR TT p w (nat_lit 11) ANN (nat_lit 1) (nat_lit 740) (stT (st9 w.params) (nat_lit 284) (nat_lit 622) os) (piecesOf (sts 36 28) EV (Code.body b EV) ⟨137,0,209,30⟩ [topFrame ⟨0, 0, 0, 0⟩])) = fun (p : Program) (b : List Stmt) (os : OsState) => some (Flow.next, stT (st11 w.params) (nat_lit 439) (nat_lit 833) os, Code.body b EV, ⟨294,0,294,6⟩) := by kernel_rfl
theorem pc5 (w : World) : (fun (p : Program) (b : List Stmt) (os : OsState) => SR TT p w (nat_lit 11) ANN (nat_lit 1) (nat_lit 721) (stT (st11 w.params) (nat_lit 439) (nat_lit 833) os) (piecesOf (sts 64 16) EV (Code.body b EV) ⟨294,0,294,6⟩ [topFrame ⟨0, 0, 0, 0⟩])) = fun (p : Program) (b : List Stmt) (os : OsState) => some (Flow.next, stT (st13 w.params) (nat_lit 558) (nat_lit 1036) os, Code.body b EV, ⟨404,0,404,8⟩) := by kernel_rfl
theorem pc6 (w : World) : (fun (p : Program) (b : List Stmt) (os : OsState) => SR TT p w (nat_lit 11) ANN (nat_lit 1) (nat_lit 730) (stT (st13 w.params) (nat_lit 558) (nat_lit 1036) os) (piecesOf (sts 80 24) EV (Code.body b EV) ⟨404,0,404,8⟩ [topFrame ⟨0, 0, 0, 0⟩])) = fun (p : Program) (b : List Stmt) (os : OsState) => some (Flow.next, stT (st15 w.params) (nat_lit 710) (nat_lit 1269) os, Code.body b EV, ⟨549,0,553,26⟩) := by kernel_rfl
theorem pc7 (w : World) : (fun (p : Program) (b : List Stmt) (os : OsState) => SR TT p w (nat_lit 11) ANN (nat_lit 1) (nat_lit 729) (stT (st15 w.params) (nat_lit 710) (nat_lit 1269) os) (piecesOf (sts 104 24) EV (Code.body b EV) ⟨549,0,553,26⟩ [topFrame ⟨0, 0, 0, 0⟩])) = fun (p : Program) (b : List Stmt) (os : OsState) => some (Flow.next, stT (st17 w.params) (nat_lit 871) (nat_lit 1484) os, Code.body b EV, ⟨666,0,669,82⟩) := by kernel_rfl
theorem pc8 (w : World) : (fun (p : Program) (b : List Stmt) (os : OsState) => SR TT p w (nat_lit 11) ANN (nat_lit 1) (nat_lit 730) (stT (st17 w.params) (nat_lit 871) (nat_lit 1484) os) (piecesOf (sts 128 26) EV (Code.body b EV) ⟨666,0,669,82⟩ [topFrame ⟨0, 0, 0, 0⟩])) = fun (p : Program) (b : List Stmt) (os : OsState) => some (Flow.next, stT (st19 w.params) (nat_lit 1016) (nat_lit 1718) os, Code.body b EV, ⟨791,0,794,30⟩) := by kernel_rfl
theorem pc9 (w : World) : (fun (p : Program) (b : List Stmt) (os : OsState) => SR TT p w (nat_lit 11) ANN (nat_lit 1) (nat_lit 711) (stT (st19 w.params) (nat_lit 1016) (nat_lit 1718) os) (piecesOf (sts 154 15) EV (Code.body b EV) ⟨791,0,794,30⟩ [topFrame ⟨0, 0, 0, 0⟩])) = fun (p : Program) (b : List Stmt) (os : OsState) => some (Flow.next, stT (st21 w.params) (nat_lit 1135) (nat_lit 1891) os, Code.body b EV, ⟨901,0,901,8⟩) := by kernel_rfl
theorem pc10 (w : World) : (fun (p : Program) (b : List Stmt) (os : OsState) => SR TT p w (nat_lit 11) ANN (nat_lit 1) (nat_lit 793) (stT (st21 w.params) (nat_lit 1135) (nat_lit 1891) os) (piecesOf (sts 169 3) EV (Code.body b EV) ⟨901,0,901,8⟩ [topFrame ⟨0, 0, 0, 0⟩])) = fun (p : Program) (b : List Stmt) (os : OsState) => some (Flow.next, stT (st23 w.params) (nat_lit 1249) (nat_lit 2047) os, Code.body b EV, ⟨964,0,964,8⟩) := by kernel_rfl
theorem pc11 (w : World) : (fun (p : Program) (b : List Stmt) (os : OsState) => SR TT p w (nat_lit 11) ANN (nat_lit 1) (nat_lit 393) (stT (st23 w.params) (nat_lit 1249) (nat_lit 2047) os) (piecesOf (sts 172 3) EV (Code.body b EV) ⟨964,0,964,8⟩ [topFrame ⟨0, 0, 0, 0⟩])) = fun (p : Program) (b : List Stmt) (os : OsState) => some (Flow.next, stT (st25 w.params) (nat_lit 1305) (nat_lit 2120) os, Code.body b EV, ⟨991,0,991,8⟩) := by kernel_rfl
theorem pc12 (w : World) : (fun (p : Program) (b : List Stmt) (os : OsState) => SR TT p w (nat_lit 11) ANN (nat_lit 1) (nat_lit 389) (stT (st25 w.params) (nat_lit 1305) (nat_lit 2120) os) (piecesOf (sts 175 13) EV (Code.body b EV) ⟨991,0,991,8⟩ [topFrame ⟨0, 0, 0, 0⟩])) = fun (p : Program) (b : List Stmt) (os : OsState) => some (Flow.next, stT (st27 w.params) (nat_lit 1388) (nat_lit 2230) os, Code.body b EV, ⟨1062,0,1074,81⟩) := by kernel_rfl
end
section
open PySem PySem.W PyProof.Rows
theorem fin (w : World) (p : Program) (b : List Stmt) (os : OsState) : topRun treeTable p w (nat_lit 11) ANN (nat_lit 2) (stT (st27 w.params) (nat_lit 1388) (nat_lit 2230) os).abs ⟨doneF .next, Code.body b EV, ⟨1062,0,1074,81⟩, [topFrame ⟨0, 0, 0, 0⟩]⟩ = some (stT (st27 w.params) (nat_lit 1388) (nat_lit 2230) os).abs := rfl
theorem chain (w : World) (p : Program) (b : List Stmt) (os : OsState) : topRun treeTable p w (nat_lit 11) ANN ((nat_lit 673) + ((nat_lit 1079) + ((nat_lit 786) + ((nat_lit 740) + ((nat_lit 721) + ((nat_lit 730) + ((nat_lit 729) + ((nat_lit 730) + ((nat_lit 711) + ((nat_lit 793) + ((nat_lit 393) + ((nat_lit 389) + ((nat_lit 2)))))))))))))) (stT (st0 w.params) (nat_lit 15) (nat_lit 187) os).abs (restOf (sts 0 5 ++ (sts 5 6 ++ (sts 11 25 ++ (sts 36 28 ++ (sts 64 16 ++ (sts 80 24 ++ (sts 104 24 ++ (sts 128 26 ++ (sts 154 15 ++ (sts 169 3 ++ (sts 172 3 ++ (sts 175 13 ++ ([]))))))))))))) EV (Code.body b EV) ⟨0, 0, 0, 0⟩ [topFrame ⟨0, 0, 0, 0⟩]) = some (stT (st27 w.params) (nat_lit 1388) (nat_lit 2230) os).abs :=
  piece_of (pc1 w) p b os (piece_of (pc2 w) p b os (piece_of (pc3 w) p b os (piece_of (pc4 w) p b os (piece_of (pc5 w) p b os (piece_of (pc6 w) p b os (piece_of (pc7 w) p b os (piece_of (pc8 w) p b os (piece_of (pc9 w) p b os (piece_of (pc10 w) p b os (piece_of (pc11 w) p b os (piece_of (pc12 w) p b os (piece_nil (fin w p b os)))))))))))))
theorem body_is : behindTheImports PR = sts 0 5 ++ (sts 5 6 ++ (sts 11 25 ++ (sts 36 28 ++ (sts 64 16 ++ (sts 80 24 ++ (sts 104 24 ++ (sts 128 26 ++ (sts 154 15 ++ (sts 169 3 ++ (sts 172 3 ++ (sts 175 13 ++ ([])))))))))))) := by kernel_rfl
noncomputable abbrev HF (P : Params) : Heap := absHeap (st27 P) (nat_lit 1388) {}
theorem blk (w : World) (os : OsState) : segRun treeTable PR w (nat_lit 11) ANN (nat_lit 1) (nat_lit 1) (stT (st0 w.params) (nat_lit 15) (nat_lit 187) os).abs (blockOf (behindTheImports PR) EV (Code.body (behindTheImports PR) EV) ⟨0, 0, 0, 0⟩ [topFrame ⟨0, 0, 0, 0⟩]) = some (.next, (stT (st0 w.params) (nat_lit 15) (nat_lit 187) os).abs, Code.body (behindTheImports PR) EV, ⟨0, 0, 0, 0⟩) := by kernel_rfl
theorem pre (w : World) (os : OsState) : topGo treeTable PR w (nat_lit 11) ANN (nat_lit 12) ⟨boot_heap w.params, ⟨[]⟩, boot_drawn, boot_toks, os⟩ (topStub PR) = some ((stT (st0 w.params) (nat_lit 15) (nat_lit 187) os).abs, ⟨denote treeTable (.body (behindTheImports PR) EV), Code.body (behindTheImports PR) EV, ⟨0, 0, 0, 0⟩, [topFrame ⟨0, 0, 0, 0⟩]⟩) := by kernel_rfl
theorem run_top (w : World) (os : OsState) : topRun treeTable PR w (nat_lit 11) ANN ((nat_lit 12) + ((nat_lit 1) + ((nat_lit 673) + ((nat_lit 1079) + ((nat_lit 786) + ((nat_lit 740) + ((nat_lit 721) + ((nat_lit 730) + ((nat_lit 729) + ((nat_lit 730) + ((nat_lit 711) + ((nat_lit 793) + ((nat_lit 393) + ((nat_lit 389) + ((nat_lit 2)))))))))))))))) ⟨boot_heap w.params, ⟨[]⟩, boot_drawn, boot_toks, os⟩ (topStub PR) = some ⟨HF w.params, ⟨[]⟩, {}, (nat_lit 2230), os⟩ := by
  refine go_top (pre w os) (piece_block (blk w os) ?_)
  have h := chain w PR (behindTheImports PR) os
  rw [← body_is] at h
  exact h
theorem opens_top : ∀ w : World, (fencedOpening treeTable PR w (nat_lit 20000)).map (fun s => (s.heap, s.gens, s.drawn, s.toks)) = some (boot_heap w.params, Array.mk [], boot_drawn, boot_toks) :=
  boot_open (by kernel_rfl) (by kernel_rfl) (fun s => by kernel_rfl)
noncomputable def LOOSE : List Str := [S "MillError", S "HintFault", S "LimitFault", S "Routine", S "Functions", S "Call", S "Place", S "NPUSHB", S "NPUSHW", S "IF", S "ELSE", S "EIF", S "FDEF", S "IDEF", S "ENDF", S "FIRST_PUSHB", S "FIRST_PUSHW", S "BEHIND_PUSHES", S "octet_at", S "is_push", S "push_shape", S "pushed", S "behind", S "behind_branch", S "behind_function", S "JMPR", S "JROT", S "JROF", S "CALL", S "LOOPCALL", S "MOST_CALLS", S "Machine", S "ONE14", S "ONE6", S "muldiv", S "cut_div", S "mul14", S "dot14", S "wrap32", S "signed16", S "whole_root", S "unit_part", S "unit", S "floor6", S "ceiling6", S "apart", S "measured", S "dual_measured", S "place_of", S "touch", S "step_of", S "shifted", S "move_point", S "move_original", S "along_freedom", S "put_both", S "NOUGHT", S "do_gc", S "do_scfs", S "do_md"] ++ [S "crossing", S "do_isect", S "do_alignpts", S "do_utp", S "do_flippt", S "do_flip_row", S "mark_ops", S "Rounding", S "named", S "super_rounding", S "rounded", S "size_of", S "signed_like", S "kept_apart", S "of_single_width", S "do_mdap", S "do_miap", S "refer", S "anchor_of", S "do_mdrp", S "do_mirp", S "do_msirp", S "do_alignrp", S "do_ip", S "relation_ops", S "VERSION", S "do_dup", S "do_pop", S "do_clear", S "do_swap", S "do_depth", S "do_cindex", S "do_mindex", S "do_roll", S "do_instctrl", S "compared", S "do_compare", S "do_not", S "do_odd", S "of_two", S "do_two", S "do_one", S "do_round", S "do_nothing", S "do_ws", S "do_rs", S "do_wcvtp", S "do_wcvtf", S "do_rcvt", S "delta_of", S "do_deltac", S "do_size", S "do_getinfo", S "stack_ops", S "reference", S "do_shp", S "bounds_of", S "shift_row", S "do_shc", S "do_shz"] ++ [S "do_shpix", S "do_deltap", S "drawn_place", S "put_part", S "pair_of", S "draw_between", S "draw_contour", S "do_iup", S "shift_ops", S "point_ops", S "GRID", S "SLANTED_GRID", S "MOST_LOOP", S "axis_of", S "do_axes", S "line_vector", S "two_points", S "do_line", S "do_dual_line", S "do_from_stack", S "do_tell", S "do_free_as_projection", S "do_point", S "do_zone", S "do_loop", S "do_distance", S "do_flip", S "do_rounding", S "do_super", S "vector_ops", S "all_ops", S "LEAST_DOT", S "GraphicsState", S "HintStack", S "HintWork", S "held", S "Zone", S "_law_pool", S "_law_take", S "_law_one", S "_law_held", S "_law_near", S "_law_run", S "_law_begun", S "_law_walked", S "_law_turns_right", S "_law_scaled_right", S "_law_rounded_right", S "_law_far_right"]
noncomputable def VW : Program := { PR with main := { PR.main with body := [stm 187] } }
noncomputable abbrev fuelN : Nat := (nat_lit 12) + ((nat_lit 1) + ((nat_lit 673) + ((nat_lit 1079) + ((nat_lit 786) + ((nat_lit 740) + ((nat_lit 721) + ((nat_lit 730) + ((nat_lit 729) + ((nat_lit 730) + ((nat_lit 711) + ((nat_lit 793) + ((nat_lit 393) + ((nat_lit 389) + ((nat_lit 2)))))))))))))))
theorem le_top : Nat.ble fuelN (nat_lit 20000) = true := by kernel_rfl
theorem size_top (w : World) : ((boot_heap w.params).isNs mainGlobals && (Array.mk ([] : List GenState)).size == 0, (boot_heap w.params).objs.size, (boot_heap w.params).nsMap mainGlobals "__annotations__") = (true, (nat_lit 11), ANN) := by kernel_rfl
end
section
open PySem PySem.W PyProof.Rows
noncomputable abbrev IM : List Str := importedModules PR.main.body
noncomputable abbrev XT : Shared → Bool := fun _ => true
theorem seen_of {q : Program} {loose mods : List Str} {Xt : Shared → Bool} {s : Shared} (hX : Xt s = true) (h1 : seen ((recsOf q).map (·.name)) (ownsOf q) [] { s with gens := #[] } = expectedOf q) (h2 : s.heap.bltView = bltViewBooted)
    (h3a : s.heap.keysOk (looseW q loose) ((recsOf q).map (·.name)) ((litsOf q).map (·.1)) ((clssOf q (looseW q loose)).map (·.name)) = true)
    (h3b : (s.heap.accountedOkI mods && s.heap.isNs mainGlobals && s.heap.isNs builtinsNs && tablesOk q s.heap) = true) (hg : (s.gens.size == 0) = true) (h4 : tabsOk q s = true)
    (h5 : (pinSeenD q (drecsOf q) s, plainSeenE q (looseW q loose) s, plainSeenD q loose s, wideSeen q s, clsSeenW q loose s) = (pinGoodD (drecsOf q), plainGoodE q (looseW q loose), plainGoodD q loose, wideGood q, clsGoodW q loose)) :
    openSeen q loose mods Xt true s = openGood q loose := by
  unfold openSeen openGood
  rw [h1, h2, h4]
  simp only [Prod.mk.injEq] at h5
  simp only [Bool.and_eq_true] at h3b
  rw [h5.1, h5.2.1, h5.2.2.1, h5.2.2.2.1, h5.2.2.2.2, hX, h3a, h3b.1.1.1, h3b.1.1.2, h3b.1.2, h3b.2, if_pos rfl, hg]
  rfl
theorem looks_of {α : Type} {p q : Program} {loose mods : List Str} {Xt : Shared → Bool} {a b : Bool} {y y' : α} {s : Shared} (h0 : a = true) (h : openSeen q loose mods Xt b s = openGood q loose) (hy : y = y') : (a, openSeen q loose mods Xt b s, y) = (true, openGood q loose, y') := by
  rw [h0, h, hy]
noncomputable abbrev SF (w : World) (os : OsState) : Shared := ⟨HF w.params, ⟨[]⟩, {}, (nat_lit 2230), os⟩
theorem l0 (w : World) : (fun os => ((staticsOk IM (boot_heap w.params) (HF w.params) && namesBound PR (HF w.params) && gensDone (SF w os) && laidKept (boot_heap w.params) (HF w.params)))) = (fun _ => true) := by unfold namesBound; rw [Fast.sDec_eq, Fast.te18344453789297297638]; kernel_rfl
theorem l1 (w : World) : (fun os => seen ((recsOf VW).map (·.name)) (ownsOf VW) [] { SF w os with gens := #[] }) = fun _ => expectedOf VW := by kernel_rfl
theorem l2 (w : World) : (fun os => (SF w os).heap.bltView) = fun _ => bltViewBooted := by kernel_rfl
theorem l3a (w : World) : (HF w.params).keysOk (looseW VW LOOSE) ((recsOf VW).map (·.name)) ((litsOf VW).map (·.1)) ((clssOf VW (looseW VW LOOSE)).map (·.name)) = true := by rw [Fast.te10880121769531294198, Fast.te821141287760084731, Fast.te3399658132070893891, Fast.te7409074990110511671, Fast.te13664370479719496447]; kernel_rfl
theorem l3b (w : World) : ((HF w.params).accountedOkI IM && (HF w.params).isNs mainGlobals && (HF w.params).isNs builtinsNs && tablesOk VW (HF w.params)) = true := by kernel_rfl
theorem l4 (w : World) : (fun os => tabsOk VW (SF w os)) = fun _ => true := by kernel_rfl
theorem l5 (w : World) : (fun os => (pinSeenD VW (drecsOf VW) (SF w os), plainSeenE VW (looseW VW LOOSE) (SF w os), plainSeenD VW LOOSE (SF w os), wideSeen VW (SF w os), clsSeenW VW LOOSE (SF w os))) = fun _ => (pinGoodD (drecsOf VW), plainGoodE VW (looseW VW LOOSE), plainGoodD VW LOOSE, wideGood VW, clsGoodW VW LOOSE) := by rw [Fast.te16090120013241838585, Fast.te2386780881361962483, Fast.te11698064438423848299, Fast.te7317090234206586261, Fast.te7369524293546568484]; kernel_rfl
theorem seen_top (w : World) (os : OsState) : openSeen VW LOOSE IM XT true (SF w os) = openGood VW LOOSE :=
  seen_of (q := VW) (loose := LOOSE) (mods := IM) (Xt := XT) (s := SF w os) rfl (congrFun (l1 w) os) (congrFun (l2 w) os) (l3a w) (l3b w) rfl (congrFun (l4 w) os) (congrFun (l5 w) os)
theorem looks_top (w : World) : (fun os => ((staticsOk IM (boot_heap w.params) (HF w.params) && namesBound PR (HF w.params) && gensDone (SF w os) && laidKept (boot_heap w.params) (HF w.params)), openSeen VW LOOSE IM XT true (SF w os), (fun s : Shared => s.heap) (SF w os))) = fun _ => (true, openGood VW LOOSE, HF w.params) :=
  funext fun os => looks_of (p := PR) (congrFun (l0 w) os) (seen_top w os) rfl
theorem left : LeftO PR VW LOOSE XT (fun s => s.heap) (fun w => HF w.params) (nat_lit 20000) :=
  LeftO.of_pieces (p := PR) (q := VW) (loose := LOOSE) (Xt := XT) (Yf := fun s => s.heap) (Ya := fun w => HF w.params) (N := nat_lit 20000) (g0 := true) (M := fuelN) (H₀ := boot_heap) (H₁ := HF) (gs₀ := Array.mk []) (gs₁ := Array.mk []) (d₀ := boot_drawn) (d₁ := {}) (k₀ := boot_toks) (k₁ := (nat_lit 2230)) (m₀ := (nat_lit 11)) (ann := ANN) opens_top size_top run_top le_top looks_top
end
section
open PySem PySem.W PyProof.Rows
noncomputable abbrev RW : OpenLaw := PySem.Challenge.rw_qz0071_01
noncomputable abbrev AskF := Scope → Str → Option Pos → Bool
noncomputable def inLs (L : List Str) (x : Str) : Bool := L.any fun y => Fast.sEq y x
noncomputable def pickA (f1 f2 f3 : AskF) (f4 : Str → AskF) (L : List Str) (b c : Bool) (n0 : Str) : TablesWhole.Alg Bool :=
  ⟨fun sc n p => or (and (f1 sc n p) (and (f2 sc n p) (and (f3 sc n p) (not (inLs L n))))) (cond b (cond c (f1 sc n p) (f2 sc n p)) (cond c (f3 sc n p) (f4 n0 sc n p))),
    fun _ _ _ ok => or ok (cond b true (cond c ok true)), fun _ => true, true, false, fun a b => a && b⟩
noncomputable abbrev algF (f : AskF) (c : Bool → Bool) : TablesWhole.Alg Bool := ⟨f, fun _ _ _ ok => c ok, fun _ => true, true, false, fun a b => a && b⟩
theorem pickA_al {f1 f2 f3 : AskF} {f4 : Str → AskF} {L : List Str} (b c : Bool) (n0 : Str) (hn : n0 ∈ L) (h4 : ∀ n0 ∈ L, ∀ sc x p, (x == n0) = false → f4 n0 sc x p = true) :
    pickA f1 f2 f3 f4 L b c n0 = algF (cond b (cond c f1 f2) (cond c f3 (f4 n0))) (fun ok => cond b true (cond c ok true)) := by
  have h5 : ∀ sc x p, inLs L x = false → f4 n0 sc x p = true := by
    intro sc x p h
    refine h4 n0 hn sc x p ?_
    rw [inLs, List.any_eq_false] at h
    have := h n0 hn
    rw [Fast.sEq_iff] at this
    exact beq_eq_false_iff_ne.mpr fun e => this e.symm
  unfold pickA algF
  congr 1
  · funext sc x p
    have key : ∀ f g i d e : Bool, (d = false → e = true) → or (and f (and g (and i (not d)))) (cond b (cond c f g) (cond c i e)) = cond b (cond c f g) (cond c i e) := by cases b <;> cases c <;> decide
    refine (key _ _ _ _ _ (h5 sc x p)).trans ?_
    cases b <;> cases c <;> rfl
  · funext _ _ _ ok
    cases b <;> cases c <;> cases ok <;> rfl
theorem oneWalk {m : Module} {f1 f2 f3 : AskF} {f4 : Str → AskF} {L : List Str} (n1 : Str) (hn : n1 ∈ L) (h4 : ∀ n0 ∈ L, ∀ sc x p, (x == n0) = false → f4 n0 sc x p = true)
    (h : (fun b c n0 => TablesWhole.wModule (pickA f1 f2 f3 f4 L b c n0) m) = fun _ _ _ => true) :
    TablesWhole.wModule (algF f1 fun _ => true) m = true ∧ TablesWhole.wModule (algF f2 fun _ => true) m = true ∧ TablesWhole.wModule (algF f3 id) m = true ∧ ∀ n0 ∈ L, TablesWhole.wModule (algF (f4 n0) fun _ => true) m = true := by
  have k : ∀ b c n0, n0 ∈ L → TablesWhole.wModule (algF (cond b (cond c f1 f2) (cond c f3 (f4 n0))) (fun ok => cond b true (cond c ok true))) m = true := by
    intro b c n0 q
    rw [← pickA_al b c n0 q h4]
    exact congrFun (congrFun (congrFun h b) c) n0
  exact ⟨k true true n1 hn, k true false n1 hn, k false true n1 hn, fun n0 q => k false false n0 q⟩
noncomputable abbrev L3 : List Str := [Str.ofString "vars", Str.ofString "dir", Str.ofString "locals"]
theorem sd_all : namesResolve RW.row.prog = true ∧ (namesMeet RW.row.prog RW.row.prog.main.body fun x n => attrL n) = true ∧ TablesWhole.wModule TablesWhole.holds RW.row.prog.main = true ∧
    ∀ n0 ∈ L3, (namesMeet RW.row.prog RW.row.prog.main.body fun sc x => x != n0 || !(sc.names.lookup x == some .globalImplicit || sc.names.lookup x == some .globalExplicit)) = true := by
  unfold namesResolve namesMeet TablesWhole.holds
  refine oneWalk (L := L3) (m := RW.row.prog.main) (Str.ofString "vars") (.head _) ?_ ?_
  · intro n0 _ sc x p h
    show (!(x == n0) || _) = true
    rw [h]; rfl
  · unfold pickA inLs
    rw [Fast.te6116379765354995101, Fast.te15985051520779696433, Fast.te18344453789297297638, Fast.named_eq, Fast.te17868728402115742887, Fast.sDec_eq]
    kernel_rfl
theorem sre1 : (!RW.row.prog.main.body.any fromSre) = true := by kernel_rfl
theorem sre2 : (sreNames RW.row.prog.main.body).isEmpty = true := by kernel_rfl
theorem sd0 : sreFenced RW.row.prog.main = true := by unfold sreFenced; rw [sre1, sre2]; rfl
theorem sd1 : ((moduleNames RW.row.prog.main.body).isEmpty || lookedIntoSs (moduleNames RW.row.prog.main.body) RW.row.prog.main.body) = true := by kernel_rfl
theorem sd2 : namesResolve RW.row.prog = true := sd_all.1
theorem sd3 : (RW.row.prog.boundNames.all fun n => !worldNames.contains n) = true := by kernel_rfl
theorem bare0 : List.filter (readsOut RW.row.prog RW.row.prog.main.body) [Str.ofString "vars", Str.ofString "dir", Str.ofString "locals"] = [] :=
  List.filter_eq_nil_iff.mpr fun n hn => by
    unfold readsOut
    rw [sd_all.2.2.2 n hn]
    decide
theorem strict0 : (!(importedModules RW.row.prog.main.body).all cThrough.contains) = false := by kernel_rfl
theorem sd4 : noRoadLSs { strict := !(importedModules RW.row.prog.main.body).all cThrough.contains, foot := none, bare := List.filter (readsOut RW.row.prog RW.row.prog.main.body) [Str.ofString "vars", Str.ofString "dir", Str.ofString "locals"] } RW.row.prog.main.body = true := by rw [bare0, strict0, Fast.te8326940854005059898]; kernel_rfl
theorem sd5 : (namesMeet RW.row.prog RW.row.prog.main.body fun x n => attrL n) = true := sd_all.2.1
theorem sd6 : RW.row.loose.isEmpty = true := by kernel_rfl
theorem sd7 : RW.row.makers.isEmpty = true := by kernel_rfl
theorem sd8 : (List.isEmpty RW.row.records || RW.row.raises.all fun ct => ct.fst != ExcName.builtin "AttributeError" && ct.fst != ExcName.builtin "TypeError") = true := by kernel_rfl
theorem sd9 : (RW.row.raises.all fun ct => match ct.fst with | ExcName.builtin n => !RW.row.prog.boundNames.contains (Str.ofString n) && !ofTheWorld.contains n | ExcName.own name => true) = true := by kernel_rfl
theorem sd10 : decide (List.map (fun x => x.fst) RW.row.records).Nodup = true := by kernel_rfl
theorem sd11 : (List.all RW.row.records fun x => !x.fst.opensWith (Str.ofString "__") && !builtinNamed x.fst && RW.row.prog.boundNames.contains x.fst && x.snd.all fun f => !f.fst.opensWith (Str.ofString "__")) = true := by kernel_rfl
theorem sd12 : RW.row.solid = true := by kernel_rfl
theorem sd13 : RW.row.pre.litsOk = true := by kernel_rfl
theorem sd14 : RW.row.post.litsOk = true := by kernel_rfl
theorem sd15 : (RW.row.raises.all fun x => x.snd.litsOk) = true := by kernel_rfl
theorem sd16 : (RW.row.mutates.all fun i => match RW.row.args[i]? with | some sh => !sh.arms.any WShape.isObj | none => false) = true := by kernel_rfl
theorem sd17 : (RW.row.within.all fun i => decide (i < RW.row.args.length)) = true := by kernel_rfl
theorem sd18 : Option.all (fun i => decide (i < RW.row.args.length)) RW.row.same = true := by kernel_rfl
theorem sd19 : RW.row.prog.boundNames.contains RW.row.name = true := by kernel_rfl
theorem sd20 : (!startupNames.contains RW.row.name) = true := by kernel_rfl
theorem sd21 : decide (RW.foot ≤ (behindTheImports RW.prog).length) = true := by kernel_rfl
theorem sd22 : RW.footing.all footLine = true := by rw [Fast.te10501279942588096481]; kernel_rfl
theorem sd23 : noClassBlock RW.prog RW.footing = true := by rw [Fast.te8179353310426384613]; kernel_rfl
theorem sd24 : Option.all (fun n => decide (63 ≤ n)) RW.most = true := by kernel_rfl
theorem sd25 : Option.all (fun n => decide (2 ^ 63 ≤ n)) RW.bound = true := by kernel_rfl
theorem sd26 : noRoadLSs { strict := true, foot := some RW.bound', writes := RW.writes, may := RW.may } RW.footing = true := by rw [Fast.te8326940854005059898]; kernel_rfl
theorem sd27 : defStands RW.about RW.above = true := by rw [Fast.te9558739934217749035]; kernel_rfl
theorem sd28 : RW.namesIt = true := by rw [Fast.te16286561074155671207]; kernel_rfl
theorem sd29 : ([Str.ofString "type", Str.ofString "isinstance", Str.ofString "issubclass", Str.ofString "getattr", Str.ofString "hasattr"].all fun n => RW.about != [n]) = true := by kernel_rfl
theorem sd30 : (RW.bound'.all fun n => !builtinNamed n || RW.about == [n] || !RW.reads n) = true := by rw [Fast.te797321630700447069, Fast.named_eq]; kernel_rfl
theorem sd31 : (!RW.writes || (List.flatMap importedNames RW.prog.main.body).all fun n => !RW.reads n) = true := by kernel_rfl
theorem sd32 : ((List.flatMap importedNames RW.prog.main.body).all fun n => !RW.reads n || (drawsOf n RW.prog.main.body).all fun mn => mn.snd != Str.ofString "attrgetter" && mn.snd != Str.ofString "methodcaller") = true := by kernel_rfl
theorem sd33 : (namesMeet RW.prog RW.footing fun sc n => (![Str.ofString "type", Str.ofString "isinstance", Str.ofString "issubclass", Str.ofString "getattr", Str.ofString "hasattr"].contains n || List.lookup n sc.names == some NameKind.globalImplicit) && (RW.may != some n || sc.kind == ScopeKind.module || List.lookup n sc.names == some NameKind.globalImplicit)) = true := by rw [Fast.te17119622794617984870]; kernel_rfl
theorem sd34 : RW.own.contains RW.name = true := by kernel_rfl
theorem sd35 : (RW.own.eraseDups.length == RW.own.length) = true := by kernel_rfl
theorem sd36 : (RW.own.all fun n => !builtinNamed n) = true := by kernel_rfl
theorem sd37 : (namesMeet RW.prog RW.above fun x n => !RW.own.contains n) = true := by rw [Fast.te17119622794617984870]; kernel_rfl
theorem sd38 : (namesMeet RW.prog RW.footing fun sc n => sc.kind == ScopeKind.module || List.lookup n sc.names != some NameKind.globalExplicit) = true := by rw [Fast.te17119622794617984870]; kernel_rfl
theorem said : PySem.Challenge.rw_qz0071_01.wellSaid = true := by
  unfold OpenLaw.wellSaid OpenRow.wellSaid OpenRow.partSaid looksOpen
  repeat' (with_reducible refine look_both ?_ ?_)
  · exact sd0
  · exact sd1
  · exact sd2
  · exact sd3
  · exact sd4
  · exact sd5
  · exact sd6
  · exact sd7
  · exact sd8
  · exact sd9
  · exact sd10
  · exact sd11
  · exact sd12
  · exact sd13
  · exact sd14
  · exact sd15
  · exact sd16
  · exact sd17
  · exact sd18
  · exact sd19
  · exact sd20
  · exact sd21
  · exact sd22
  · exact sd23
  · exact sd24
  · exact sd25
  · exact sd26
  · exact sd27
  · exact sd28
  · exact sd29
  · exact sd30
  · exact sd31
  · exact sd32
  · exact sd33
  · exact sd34
  · exact sd35
  · exact sd36
  · exact sd37
  · exact sd38
end
section
open PySem PySem.W PyProof.Rows
noncomputable def KK (P : Params) : Frag :=
  (nat_lit 2, o2 P) ::
  (nat_lit 3, o3 P) ::
  (nat_lit 15, o15 P) ::
  (nat_lit 27, F5 g22) ::
  (nat_lit 28, F6 g22) ::
  (nat_lit 29, o29 P) ::
  (nat_lit 30, o30 P) ::
  (nat_lit 31, o31 P) ::
  (nat_lit 32, o32 P) ::
  (nat_lit 35, o35 P) ::
  (nat_lit 42, o42 P) ::
  (nat_lit 43, o43 P) ::
  (nat_lit 44, o44 P) ::
  (nat_lit 47, o47 P) ::
  (nat_lit 54, o54 P) ::
  (nat_lit 55, o55 P) ::
  (nat_lit 56, o56 P) ::
  (nat_lit 71, F5 g66) ::
  (nat_lit 72, F6 g66) ::
  (nat_lit 73, o73 P) ::
  (nat_lit 74, o74 P) ::
  (nat_lit 75, o75 P) ::
  (nat_lit 76, o76 P) ::
  (nat_lit 77, o77 P) ::
  (nat_lit 92, F5 g87) ::
  (nat_lit 93, F6 g87) ::
  (nat_lit 99, F5 g94) ::
  (nat_lit 100, F6 g94) ::
  (nat_lit 101, o101 P) ::
  (nat_lit 102, o102 P) ::
  (nat_lit 103, o103 P) ::
  (nat_lit 104, o104 P) ::
  (nat_lit 105, o105 P) ::
  (nat_lit 120, F5 g115) ::
  (nat_lit 121, F6 g115) ::
  (nat_lit 122, o122 P) ::
  (nat_lit 123, o123 P) ::
  (nat_lit 124, o124 P) ::
  (nat_lit 125, o125 P) ::
  (nat_lit 126, o126 P) ::
  (nat_lit 141, F5 g136) ::
  (nat_lit 142, F6 g136) ::
  (nat_lit 148, F5 g143) ::
  (nat_lit 149, F6 g143) ::
  (nat_lit 155, F5 g150) ::
  (nat_lit 156, F6 g150) ::
  (nat_lit 162, F5 g157) ::
  (nat_lit 163, F6 g157) ::
  (nat_lit 169, F5 g164) ::
  (nat_lit 170, F6 g164) ::
  (nat_lit 171, o171 P) ::
  (nat_lit 172, o172 P) ::
  (nat_lit 173, o173 P) ::
  (nat_lit 174, o174 P) ::
  (nat_lit 175, o175 P) ::
  (nat_lit 183, F5 g178) ::
  (nat_lit 184, F6 g178) ::
  (nat_lit 190, F5 g185) ::
  (nat_lit 191, F6 g185) ::
  (nat_lit 197, F5 g192) ::
  (nat_lit 198, F6 g192) ::
  (nat_lit 204, F5 g199) ::
  (nat_lit 205, F6 g199) ::
  (nat_lit 211, F5 g206) ::
  (nat_lit 212, F6 g206) ::
  (nat_lit 218, F5 g213) ::
  (nat_lit 219, F6 g213) ::
  (nat_lit 225, F5 g220) ::
  (nat_lit 226, F6 g220) ::
  (nat_lit 234, o234 P) ::
  (nat_lit 240, F5 g235) ::
  (nat_lit 241, F6 g235) ::
  (nat_lit 247, F5 g242) ::
  (nat_lit 248, F6 g242) ::
  (nat_lit 254, F5 g249) ::
  (nat_lit 255, F6 g249) ::
  (nat_lit 261, F5 g256) ::
  (nat_lit 262, F6 g256) ::
  (nat_lit 268, F5 g263) ::
  (nat_lit 269, F6 g263) ::
  (nat_lit 275, F5 g270) ::
  (nat_lit 276, F6 g270) ::
  (nat_lit 277, o277 P) ::
  (nat_lit 278, o278 P) ::
  (nat_lit 279, o279 P) ::
  (nat_lit 280, o280 P) ::
  (nat_lit 281, o281 P) ::
  (nat_lit 289, F5 g284) ::
  (nat_lit 290, F6 g284) ::
  (nat_lit 296, F5 g291) ::
  (nat_lit 297, F6 g291) ::
  (nat_lit 303, F5 g298) ::
  (nat_lit 304, F6 g298) ::
  (nat_lit 310, F5 g305) ::
  (nat_lit 311, F6 g305) ::
  (nat_lit 317, F5 g312) ::
  (nat_lit 318, F6 g312) ::
  (nat_lit 324, F5 g319) ::
  (nat_lit 325, F6 g319) ::
  (nat_lit 331, F5 g326) ::
  (nat_lit 332, F6 g326) ::
  (nat_lit 338, F5 g333) ::
  (nat_lit 339, F6 g333) ::
  (nat_lit 345, F5 g340) ::
  (nat_lit 346, F6 g340) ::
  (nat_lit 352, F5 g347) ::
  (nat_lit 353, F6 g347) ::
  (nat_lit 359, F5 g354) ::
  (nat_lit 360, F6 g354) ::
  (nat_lit 366, F5 g361) ::
  (nat_lit 367, F6 g361) ::
  (nat_lit 373, F5 g368) ::
  (nat_lit 374, F6 g368) ::
  (nat_lit 380, F5 g375) ::
  (nat_lit 381, F6 g375) ::
  (nat_lit 387, F5 g382) ::
  (nat_lit 388, F6 g382) ::
  (nat_lit 394, F5 g389) ::
  (nat_lit 395, F6 g389) ::
  (nat_lit 401, F5 g396) ::
  (nat_lit 402, F6 g396) ::
  (nat_lit 408, F5 g403) ::
  (nat_lit 409, F6 g403) ::
  (nat_lit 415, F5 g410) ::
  (nat_lit 416, F6 g410) ::
  (nat_lit 422, F5 g417) ::
  (nat_lit 423, F6 g417) ::
  (nat_lit 429, F5 g424) ::
  (nat_lit 430, F6 g424) ::
  (nat_lit 436, F5 g431) ::
  (nat_lit 437, F6 g431) ::
  (nat_lit 438, o438 P) ::
  (nat_lit 444, F5 g439) ::
  (nat_lit 445, F6 g439) ::
  (nat_lit 451, F5 g446) ::
  (nat_lit 452, F6 g446) ::
  (nat_lit 458, F5 g453) ::
  (nat_lit 459, F6 g453) ::
  (nat_lit 465, F5 g460) ::
  (nat_lit 466, F6 g460) ::
  (nat_lit 472, F5 g467) ::
  (nat_lit 473, F6 g467) ::
  (nat_lit 479, F5 g474) ::
  (nat_lit 480, F6 g474) ::
  (nat_lit 486, F5 g481) ::
  (nat_lit 487, F6 g481) ::
  (nat_lit 493, F5 g488) ::
  (nat_lit 494, F6 g488) ::
  (nat_lit 500, F5 g495) ::
  (nat_lit 501, F6 g495) ::
  (nat_lit 507, F5 g502) ::
  (nat_lit 508, F6 g502) ::
  (nat_lit 521, F5 g516) ::
  (nat_lit 522, F6 g516) ::
  (nat_lit 528, F5 g523) ::
  (nat_lit 529, F6 g523) ::
  (nat_lit 530, o530 P) ::
  (nat_lit 531, o531 P) ::
  (nat_lit 532, o532 P) ::
  (nat_lit 533, o533 P) ::
  (nat_lit 534, o534 P) ::
  (nat_lit 542, F5 g537) ::
  (nat_lit 543, F6 g537) ::
  (nat_lit 549, F5 g544) ::
  (nat_lit 550, F6 g544) ::
  (nat_lit 556, F5 g551) ::
  (nat_lit 557, F6 g551) ::
  (nat_lit 563, F5 g558) ::
  (nat_lit 564, F6 g558) ::
  (nat_lit 570, F5 g565) ::
  (nat_lit 571, F6 g565) ::
  (nat_lit 577, F5 g572) ::
  (nat_lit 578, F6 g572) ::
  (nat_lit 584, F5 g579) ::
  (nat_lit 585, F6 g579) ::
  (nat_lit 591, F5 g586) ::
  (nat_lit 592, F6 g586) ::
  (nat_lit 598, F5 g593) ::
  (nat_lit 599, F6 g593) ::
  (nat_lit 605, F5 g600) ::
  (nat_lit 606, F6 g600) ::
  (nat_lit 612, F5 g607) ::
  (nat_lit 613, F6 g607) ::
  (nat_lit 619, F5 g614) ::
  (nat_lit 620, F6 g614) ::
  (nat_lit 626, F5 g621) ::
  (nat_lit 627, F6 g621) ::
  (nat_lit 633, F5 g628) ::
  (nat_lit 634, F6 g628) ::
  (nat_lit 640, F5 g635) ::
  (nat_lit 641, F6 g635) ::
  (nat_lit 647, F5 g642) ::
  (nat_lit 648, F6 g642) ::
  (nat_lit 654, F5 g649) ::
  (nat_lit 655, F6 g649) ::
  (nat_lit 661, F5 g656) ::
  (nat_lit 662, F6 g656) ::
  (nat_lit 668, F5 g663) ::
  (nat_lit 669, F6 g663) ::
  (nat_lit 675, F5 g670) ::
  (nat_lit 676, F6 g670) ::
  (nat_lit 682, F5 g677) ::
  (nat_lit 683, F6 g677) ::
  (nat_lit 689, F5 g684) ::
  (nat_lit 690, F6 g684) ::
  (nat_lit 696, F5 g691) ::
  (nat_lit 697, F6 g691) ::
  (nat_lit 698, o698 P) ::
  (nat_lit 701, o701 P) ::
  (nat_lit 702, o702 P) ::
  (nat_lit 708, F5 g703) ::
  (nat_lit 709, F6 g703) ::
  (nat_lit 715, F5 g710) ::
  (nat_lit 716, F6 g710) ::
  (nat_lit 722, F5 g717) ::
  (nat_lit 723, F6 g717) ::
  (nat_lit 729, F5 g724) ::
  (nat_lit 730, F6 g724) ::
  (nat_lit 736, F5 g731) ::
  (nat_lit 737, F6 g731) ::
  (nat_lit 743, F5 g738) ::
  (nat_lit 744, F6 g738) ::
  (nat_lit 750, F5 g745) ::
  (nat_lit 751, F6 g745) ::
  (nat_lit 757, F5 g752) ::
  (nat_lit 758, F6 g752) ::
  (nat_lit 764, F5 g759) ::
  (nat_lit 765, F6 g759) ::
  (nat_lit 771, F5 g766) ::
  (nat_lit 772, F6 g766) ::
  (nat_lit 778, F5 g773) ::
  (nat_lit 779, F6 g773) ::
  (nat_lit 785, F5 g780) ::
  (nat_lit 786, F6 g780) ::
  (nat_lit 792, F5 g787) ::
  (nat_lit 793, F6 g787) ::
  (nat_lit 799, F5 g794) ::
  (nat_lit 800, F6 g794) ::
  (nat_lit 806, F5 g801) ::
  (nat_lit 807, F6 g801) ::
  (nat_lit 813, F5 g808) ::
  (nat_lit 814, F6 g808) ::
  (nat_lit 820, F5 g815) ::
  (nat_lit 821, F6 g815) ::
  (nat_lit 827, F5 g822) ::
  (nat_lit 828, F6 g822) ::
  (nat_lit 834, F5 g829) ::
  (nat_lit 835, F6 g829) ::
  (nat_lit 841, F5 g836) ::
  (nat_lit 842, F6 g836) ::
  (nat_lit 848, F5 g843) ::
  (nat_lit 849, F6 g843) ::
  (nat_lit 855, F5 g850) ::
  (nat_lit 856, F6 g850) ::
  (nat_lit 862, F5 g857) ::
  (nat_lit 863, F6 g857) ::
  (nat_lit 869, F5 g864) ::
  (nat_lit 870, F6 g864) ::
  (nat_lit 876, F5 g871) ::
  (nat_lit 877, F6 g871) ::
  (nat_lit 883, F5 g878) ::
  (nat_lit 884, F6 g878) ::
  (nat_lit 890, F5 g885) ::
  (nat_lit 891, F6 g885) ::
  (nat_lit 897, F5 g892) ::
  (nat_lit 898, F6 g892) ::
  (nat_lit 904, F5 g899) ::
  (nat_lit 905, F6 g899) ::
  (nat_lit 911, F5 g906) ::
  (nat_lit 912, F6 g906) ::
  (nat_lit 918, F5 g913) ::
  (nat_lit 919, F6 g913) ::
  (nat_lit 925, F5 g920) ::
  (nat_lit 926, F6 g920) ::
  (nat_lit 932, F5 g927) ::
  (nat_lit 933, F6 g927) ::
  (nat_lit 934, o934 P) ::
  (nat_lit 937, o937 P) ::
  (nat_lit 938, o938 P) ::
  (nat_lit 944, F5 g939) ::
  (nat_lit 945, F6 g939) ::
  (nat_lit 951, F5 g946) ::
  (nat_lit 952, F6 g946) ::
  (nat_lit 958, F5 g953) ::
  (nat_lit 959, F6 g953) ::
  (nat_lit 965, F5 g960) ::
  (nat_lit 966, F6 g960) ::
  (nat_lit 972, F5 g967) ::
  (nat_lit 973, F6 g967) ::
  (nat_lit 979, F5 g974) ::
  (nat_lit 980, F6 g974) ::
  (nat_lit 986, F5 g981) ::
  (nat_lit 987, F6 g981) ::
  (nat_lit 993, F5 g988) ::
  (nat_lit 994, F6 g988) ::
  (nat_lit 1000, F5 g995) ::
  (nat_lit 1001, F6 g995) ::
  (nat_lit 1007, F5 g1002) ::
  (nat_lit 1008, F6 g1002) ::
  (nat_lit 1014, F5 g1009) ::
  (nat_lit 1015, F6 g1009) ::
  (nat_lit 1021, F5 g1016) ::
  (nat_lit 1022, F6 g1016) ::
  (nat_lit 1028, F5 g1023) ::
  (nat_lit 1029, F6 g1023) ::
  (nat_lit 1035, F5 g1030) ::
  (nat_lit 1036, F6 g1030) ::
  (nat_lit 1042, F5 g1037) ::
  (nat_lit 1043, F6 g1037) ::
  (nat_lit 1049, F5 g1044) ::
  (nat_lit 1050, F6 g1044) ::
  (nat_lit 1056, F5 g1051) ::
  (nat_lit 1057, F6 g1051) ::
  (nat_lit 1063, F5 g1058) ::
  (nat_lit 1064, F6 g1058) ::
  (nat_lit 1070, F5 g1065) ::
  (nat_lit 1071, F6 g1065) ::
  (nat_lit 1077, F5 g1072) ::
  (nat_lit 1078, F6 g1072) ::
  (nat_lit 1084, F5 g1079) ::
  (nat_lit 1085, F6 g1079) ::
  (nat_lit 1098, F5 g1093) ::
  (nat_lit 1099, F6 g1093) ::
  (nat_lit 1105, F5 g1100) ::
  (nat_lit 1106, F6 g1100) ::
  (nat_lit 1112, F5 g1107) ::
  (nat_lit 1113, F6 g1107) ::
  (nat_lit 1119, F5 g1114) ::
  (nat_lit 1120, F6 g1114) ::
  (nat_lit 1126, F5 g1121) ::
  (nat_lit 1127, F6 g1121) ::
  (nat_lit 1128, o1128 P) ::
  (nat_lit 1129, o1129 P) ::
  (nat_lit 1130, o1130 P) ::
  (nat_lit 1131, o1131 P) ::
  (nat_lit 1132, o1132 P) ::
  (nat_lit 1147, F5 g1142) ::
  (nat_lit 1148, F6 g1142) ::
  (nat_lit 1154, F5 g1149) ::
  (nat_lit 1155, F6 g1149) ::
  (nat_lit 1161, F5 g1156) ::
  (nat_lit 1162, F6 g1156) ::
  (nat_lit 1168, F5 g1163) ::
  (nat_lit 1169, F6 g1163) ::
  (nat_lit 1175, F5 g1170) ::
  (nat_lit 1176, F6 g1170) ::
  (nat_lit 1182, F5 g1177) ::
  (nat_lit 1183, F6 g1177) ::
  (nat_lit 1189, F5 g1184) ::
  (nat_lit 1190, F6 g1184) ::
  (nat_lit 1191, o1191 P) ::
  (nat_lit 1192, o1192 P) ::
  (nat_lit 1193, o1193 P) ::
  (nat_lit 1194, o1194 P) ::
  (nat_lit 1195, o1195 P) ::
  (nat_lit 1205, o1205 P) ::
  (nat_lit 1206, o1206 P) ::
  (nat_lit 1212, F5 g1207) ::
  (nat_lit 1213, F6 g1207) ::
  (nat_lit 1219, F5 g1214) ::
  (nat_lit 1220, F6 g1214) ::
  (nat_lit 1226, F5 g1221) ::
  (nat_lit 1227, F6 g1221) ::
  (nat_lit 1233, F5 g1228) ::
  (nat_lit 1234, F6 g1228) ::
  (nat_lit 1240, F5 g1235) ::
  (nat_lit 1241, F6 g1235) ::
  (nat_lit 1242, o1242 P) ::
  (nat_lit 1243, o1243 P) ::
  (nat_lit 1244, o1244 P) ::
  (nat_lit 1245, o1245 P) ::
  (nat_lit 1246, o1246 P) ::
  (nat_lit 1254, F5 g1249) ::
  (nat_lit 1255, F6 g1249) ::
  (nat_lit 1263, o1263 P) ::
  (nat_lit 1264, o1264 P) ::
  (nat_lit 1265, o1265 P) ::
  (nat_lit 1268, o1268 P) ::
  (nat_lit 1269, o1269 P) ::
  (nat_lit 1275, F5 g1270) ::
  (nat_lit 1276, F6 g1270) ::
  (nat_lit 1282, F5 g1277) ::
  (nat_lit 1283, F6 g1277) ::
  (nat_lit 1289, F5 g1284) ::
  (nat_lit 1290, F6 g1284) ::
  (nat_lit 1296, F5 g1291) ::
  (nat_lit 1297, F6 g1291) ::
  (nat_lit 1298, o1298 P) ::
  (nat_lit 1299, o1299 P) ::
  (nat_lit 1300, o1300 P) ::
  (nat_lit 1301, o1301 P) ::
  (nat_lit 1302, o1302 P) ::
  (nat_lit 1310, F5 g1305) ::
  (nat_lit 1311, F6 g1305) ::
  (nat_lit 1317, F5 g1312) ::
  (nat_lit 1318, F6 g1312) ::
  (nat_lit 1324, F5 g1319) ::
  (nat_lit 1325, F6 g1319) ::
  (nat_lit 1331, F5 g1326) ::
  (nat_lit 1332, F6 g1326) ::
  (nat_lit 1338, F5 g1333) ::
  (nat_lit 1339, F6 g1333) ::
  (nat_lit 1345, F5 g1340) ::
  (nat_lit 1346, F6 g1340) ::
  (nat_lit 1347, o1347 P) ::
  (nat_lit 1350, o1350 P) ::
  (nat_lit 1351, o1351 P) ::
  (nat_lit 1357, F5 g1352) ::
  (nat_lit 1358, F6 g1352) ::
  (nat_lit 1359, o1359 P) ::
  (nat_lit 1362, o1362 P) ::
  (nat_lit 1363, o1363 P) ::
  (nat_lit 1369, F5 g1364) ::
  (nat_lit 1370, F6 g1364) ::
  (nat_lit 1376, F5 g1371) ::
  (nat_lit 1377, F6 g1371) ::
  (nat_lit 1378, o1378 P) ::
  (nat_lit 1381, o1381 P) ::
  (nat_lit 1382, o1382 P) ::
  (nat_lit 1383, o1383 P) ::
  (nat_lit 1386, o1386 P) ::
  (nat_lit 1387, o1387 P) ::
  []
theorem kk_st (P : Params) : (KK P).map (fun p => (st27 P).get p.1) = (KK P).map (fun p => some p.2) := by kernel_rfl
theorem kk_ok (P : Params) : (KK P).all (fun p => !p.2.isFreed && Nat.blt p.1 (nat_lit 1388)) = true := by kernel_rfl
theorem in_of_tree {K : Frag} {t : BT} {n : Nat} {l : Life} (h1 : K.map (fun p => t.get p.1) = K.map (fun p => some p.2)) (h2 : K.all (fun p => !p.2.isFreed && Nat.blt p.1 n) = true) : K.In (absHeap t n l) := by
  refine Frag.in_of (as := K.map (·.1)) rfl ?_
  rw [List.map_map]
  refine List.map_congr_left fun p hp => ?_
  have e1 : t.get p.1 = some p.2 := by
    exact (List.map_inj_left.mp h1) p hp
  have e2 := List.all_eq_true.mp h2 p hp
  obtain ⟨e3, e4⟩ := Bool.and_eq_true_iff.mp e2
  show (absHeap t n l).get? p.1 = some p.2
  have lt : p.1 < n := Nat.le_of_ble_eq_true e4
  unfold Heap.get?
  rw [absHeap_at, if_pos lt, e1]
  obtain ⟨a, c, d, dt, sl⟩ := p
  cases dt <;> first | rfl | (simp [Obj.isFreed] at e3)
theorem kk_in (P : Params) : (KK P).In (HF P) := in_of_tree (kk_st P) (kk_ok P)
noncomputable def recAt : Stmt → DefRec
  | .FunctionDef n a b _ _ _ sc _ _ pos => ⟨n, a, b, sc, pos⟩
  | s => ⟨Str.ofString "", ⟨[], [], none, [], [], none, []⟩, [], ⟨.module, [], false, false, []⟩, s.pos⟩
theorem hdef : defOf VW RW.row.name = some (recAt (stm 187), []) := by kernel_rfl
theorem hprog : RW.row.prog.theDef RW.row.name = some ((recAt (stm 187)).params, (recAt (stm 187)).body, (recAt (stm 187)).scope) := by kernel_rfl
theorem hkw : kwWritten? (recAt (stm 187)).params.kwonlyargs (recAt (stm 187)).params.kw_defaults = some [] := by kernel_rfl
theorem hok : (chainsOk VW && opensWell RW.row.prog && (frees RW.row.toRowW && RW.row.within.isEmpty)) = true := by kernel_rfl
theorem htab : TablesWhole.wProgram TablesWhole.holds RW.row.prog = true := by
  unfold TablesWhole.wProgram
  rw [sd_all.2.2.1]
  kernel_rfl
theorem hbare : RW.row.prog.bare := ⟨rfl, rfl, rfl, rfl, rfl, htab⟩
theorem hprom : RW.row.toRowW.promised := ⟨[WData.list []], by decide +kernel, by decide +kernel⟩
noncomputable abbrev YP (w : World) (h : Heap) : Prop := (KK w.params).In h
noncomputable abbrev XPT (_ : Str → Option Value) (_ : Heap) : Prop := True
theorem head (call : WalkO VW LOOSE XPT YP RW.row.toRowW (recAt (stm 187)) [] fun f vs => PySem.call f vs) : PySem.Challenge.rw_qz0071_01.Holds :=
  holds_law said fun k1 => holds_open (r := RW.row) (q := VW) (loose := LOOSE) (Xt := XT) (XP := XPT) (Yf := fun s => s.heap) (Ya := fun w => HF w.params) (YP := YP) (d := recAt (stm 187)) (kwd := []) (N := nat_lit 20000)
    left (fun w s e => by rw [show s.heap = HF w.params from e]; exact kk_in w.params) (fun _ _ _ x k => Frag.In.keeps x k) (fun _ _ => trivial) (fun _ _ _ _ _ => trivial) hdef hprog hkw (fun _ _ => recFacts_nil rfl) rfl k1 hok hbare hprom call
end
section
open PySem PySem.W PySem.Calls PySem.Spec PyProof.Rows
noncomputable abbrev Objs := List (Addr × Obj)
noncomputable abbrev ads (l : Objs) : List Nat := @List.map (Addr × Obj) Nat (fun p => p.1) l
theorem ads_app (a b : Objs) : ads (a ++ b) = ads a ++ ads b := List.map_append
theorem ads_mem {p : Addr × Obj} {l : Objs} (h : p ∈ l) : p.1 ∈ ads l := List.mem_map_of_mem h
theorem mem_ads {b : Addr} {l : Objs} (h : b ∈ ads l) : ∃ o, (b, o) ∈ l := by
  obtain ⟨⟨b', o⟩, hp, rfl⟩ := List.mem_map.mp h
  exact ⟨o, hp⟩
structure Post (h h' : Heap) (objs objs' new : Objs) : Prop where
  kept : ∀ b o, b ∉ ads objs → h.get? b = some o → h'.get? b = some o
  led : ∀ p ∈ new ++ objs', h'.get? p.1 = some p.2
  fresh : ∀ p ∈ new, h.get? p.1 = none
  nd : (ads new).Nodup
inductive Emb : Objs → Objs → Objs → Objs → Prop
  | nil {N} : Emb [] [] N N
  | skip {o o' N N' p} : Emb o o' N N' → Emb o o' (p :: N) (p :: N')
  | take {o o' N N' a x x'} : Emb o o' N N' → Emb ((a, x) :: o) ((a, x') :: o') ((a, x) :: N) ((a, x') :: N')
theorem Emb.ads_eq {o o' N N' : Objs} (E : Emb o o' N N') : ads N' = ads N ∧ ads o' = ads o := by
  induction E with
  | nil => exact ⟨rfl, rfl⟩
  | skip _ ih => exact ⟨congrArg (List.cons _) ih.1, ih.2⟩
  | take _ ih => exact ⟨congrArg (List.cons _) ih.1, congrArg (List.cons _) ih.2⟩
theorem Emb.sub {o o' N N' : Objs} (E : Emb o o' N N') : o.Sublist N := by
  induction E with
  | nil => exact List.nil_sublist _
  | skip _ ih => exact .cons _ ih
  | take _ ih => exact .cons_cons _ ih
theorem Emb.all : ∀ {o o' : Objs}, ads o' = ads o → Emb o o' o o'
  | [], [], _ => .nil
  | [], _ :: _, h => by cases h
  | _ :: _, [], h => by cases h
  | (a, x) :: o, (a', x') :: o', h => by
    obtain ⟨h1, h2⟩ := List.cons.inj h
    have h1' : a' = a := h1
    subst h1'
    exact .take (Emb.all h2)
theorem Emb.cases {o o' N N' : Objs} (E : Emb o o' N N') (nd : (ads N).Nodup) : ∀ p ∈ N', p ∈ o' ∨ (p ∈ N ∧ p.1 ∉ ads o) := by
  induction E with
  | nil => exact fun p hp => .inr ⟨hp, fun h => nomatch h⟩
  | @skip o o' N N' q E ih =>
    intro p hp
    have nd' := List.nodup_cons.mp nd
    rcases List.mem_cons.mp hp with rfl | hp
    · exact .inr ⟨.head _, fun h => nd'.1 ((E.sub.map (·.1)).subset h)⟩
    · rcases ih nd'.2 p hp with h | h
      · exact .inl h
      · exact .inr ⟨.tail _ h.1, h.2⟩
  | @take o o' N N' a x x' E ih =>
    intro p hp
    have nd' := List.nodup_cons.mp nd
    rcases List.mem_cons.mp hp with rfl | hp
    · exact .inl (.head _)
    · rcases ih nd'.2 p hp with h | h
      · exact .inl (.tail _ h)
      · refine .inr ⟨.tail _ h.1, fun q => ?_⟩
        rcases List.mem_cons.mp q with e | q
        · have z := ads_mem h.1; rw [show p.1 = a from e] at z; exact nd'.1 z
        · exact h.2 q
inductive Sel (a : Addr) (o : Obj) : Objs → Objs → Prop
  | here {objs r} : objs.Sublist r → Sel a o objs ((a, o) :: r)
  | skip {objs r p} : Sel a o objs r → Sel a o objs (p :: r)
  | take {objs r p} : Sel a o objs r → Sel a o (p :: objs) (p :: r)
theorem Sel.here2 {a b : Addr} {o p : Obj} {objs r : Objs} (ea : a = b) (eo : o = p) (S : objs.Sublist r) : Sel a o objs ((b, p) :: r) := by subst ea eo; exact .here S
theorem sub_take {a b : Addr} {o p : Obj} {l r : Objs} (ea : a = b) (eo : o = p) (S : l.Sublist r) : ((a, o) :: l).Sublist ((b, p) :: r) := by subst ea eo; exact .cons_cons _ S
theorem Emb.take2 {a b : Addr} {x y x' : Obj} {o o' N N' : Objs} (ea : a = b) (eo : x = y) (E : Emb o o' N N') : Emb ((a, x) :: o) ((a, x') :: o') ((b, y) :: N) ((b, x') :: N') := by subst ea eo; exact .take E
theorem mem_here2 {a b : Addr} {o p : Obj} {r : Objs} (ea : a = b) (eo : o = p) : (a, o) ∈ (b, p) :: r := by subst ea eo; exact .head _
theorem Sel.ok {a : Addr} {o : Obj} {objs N : Objs} (s : Sel a o objs N) (nd : (ads N).Nodup) : (a, o) ∈ N ∧ a ∉ ads objs := by
  induction s with
  | here S => exact ⟨.head _, fun q => (List.nodup_cons.mp nd).1 ((S.map (·.1)).subset q)⟩
  | skip s ih => have := ih (List.nodup_cons.mp nd).2; exact ⟨.tail _ this.1, this.2⟩
  | take s ih =>
    have nd' := List.nodup_cons.mp nd
    have := ih nd'.2
    refine ⟨.tail _ this.1, fun q => ?_⟩
    rcases List.mem_cons.mp q with e | q
    · exact nd'.1 (by have z := ads_mem this.1; rw [show (a, o).1 = _ from e] at z; exact z)
    · exact this.2 q
section
variable {g h h' : Heap} {L : Addr} {m : Str → Option Value} {objs objs' new N N' : Objs}
theorem Post.use (P : Post h h' objs objs' new) (F : Fr g L h m) (Nw : News g L h N) (nd : (ads N).Nodup) (E : Emb objs objs' N N') : Fr g L h' m ∧ News g L h' (new ++ N') ∧ (ads (new ++ N')).Nodup := by
  have sub : ∀ b, b ∈ ads objs → b ∈ ads N := fun b hb => (E.sub.map (·.1)).subset hb
  have gN : ∀ b, b ∈ ads objs → b ≠ L ∧ g.get? b = none := fun b hb => by
    obtain ⟨o, ho⟩ := mem_ads (sub b hb)
    exact ⟨(Nw _ ho).2.1, (Nw _ ho).2.2⟩
  obtain ⟨oL, es, ep, hL, r⟩ := F.ns
  refine ⟨⟨⟨oL, es, ep, P.kept L oL (fun q => (gN L q).1 rfl) hL, r⟩, fun b o e => P.kept b o (fun q => by rw [(gN b q).2] at e; cases e) (F.keep b o e), F.above⟩, fun p hp => ?_, ?_⟩
  · rcases List.mem_append.mp hp with hp | hp
    · refine ⟨P.led p (List.mem_append_left _ hp), fun q => ?_, ?_⟩
      · have := P.fresh p hp; rw [q, hL] at this; cases this
      · cases q : g.get? p.1 with
        | none => rfl
        | some o => have := F.keep _ _ q; rw [P.fresh p hp] at this; cases this
    · rcases E.cases nd p hp with q | ⟨q, n⟩
      · have ha : p.1 ∈ ads objs := by rw [← E.ads_eq.2]; exact ads_mem q
        exact ⟨P.led p (List.mem_append_right _ q), (gN _ ha).1, (gN _ ha).2⟩
      · exact ⟨P.kept _ _ n (Nw p q).1, (Nw p q).2⟩
  · rw [ads_app, E.ads_eq.1, List.nodup_append]
    refine ⟨P.nd, nd, fun a ha b hb e => ?_⟩
    subst e
    obtain ⟨⟨a', o⟩, hp, rfl⟩ := List.mem_map.mp ha
    obtain ⟨o', ho'⟩ := mem_ads hb
    have := (Nw _ ho').1
    rw [P.fresh _ hp] at this; cases this
theorem hide_none : ∀ (l : List Addr) {h : Heap} {b : Addr}, (hideAll h l).get? b = none → b ∉ l → h.get? b = none := fun l h b e n => by
  cases q : h.get? b with
  | none => rfl
  | some o => rw [hideAll_get l q n] at e; cases e
structure Gd (g h : Heap) (l : List Addr) : Prop where
  eq : g = hideAll h l
theorem post0 (G : Gd g h (ads objs)) (F : Fr g L h' m) (Nw : News g L h' N) (S : objs'.Sublist N) : Post h h' objs objs' [] := by
  cases G.eq
  exact ⟨fun b o hb q => F.keep b o (hideAll_get _ q hb), fun p hp => (Nw p (S.subset hp)).1, fun p hp => (nomatch hp), List.nodup_nil⟩
theorem postN (G : Gd g h (ads objs)) (F : Fr g L h' m) (Nw : News g L h' N) (nd : (ads N).Nodup) (S : (new ++ objs').Sublist N) (e : ads objs' = ads objs) : Post h h' objs objs' new := by
  cases G.eq
  have nd' : (ads (new ++ objs')).Nodup := List.Nodup.sublist (S.map (·.1)) nd
  rw [ads_app, List.nodup_append] at nd'
  refine ⟨fun b o hb q => F.keep b o (hideAll_get _ q hb), fun p hp => (Nw p (S.subset hp)).1, fun p hp => ?_, nd'.1⟩
  refine hide_none _ (Nw p (S.subset (List.mem_append_left _ hp))).2.2 fun q => ?_
  exact nd'.2.2 _ (ads_mem hp) p.1 (by rw [e]; exact q) rfl
end
theorem nd_sub {N N0 : Objs} (nd : (ads N0).Nodup) (S : N.Sublist N0) : (ads N).Nodup := List.Nodup.sublist (S.map _) nd
theorem nd_subl {N : Objs} {l : List Nat} (nd : l.Nodup) (S : (ads N).Sublist l) : (ads N).Nodup := List.Nodup.sublist S nd
theorem nd_sel {N0 objs : Objs} {a : Addr} {o : Obj} (nd : (ads N0).Nodup) (s : Sel a o objs N0) : a ∉ ads objs := (s.ok nd).2
theorem nin_allLt {r : Addr} : ∀ {l : Objs}, AllLt r l → r ∉ ads l
  | [], _ => fun h => nomatch h
  | p :: l, h => fun q => (List.mem_cons.mp q).elim (fun e => Nat.lt_irrefl _ (e ▸ h.1)) (nin_allLt h.2)
theorem nin_led {r : Addr} {l l' : Objs} (h : ∀ p ∈ l, p.1 < r) (e : ads l' = ads l) : r ∉ ads l' := fun q => by
  rw [e] at q; obtain ⟨o, ho⟩ := mem_ads q; exact Nat.lt_irrefl _ (h _ ho)
theorem nin_lt {r : Addr} {l : List Addr} (h : ∀ a ∈ l, a < r) : r ∉ l := fun q => Nat.lt_irrefl _ (h _ q)
inductive Fact
  | tup (a : Addr) (l : List Value)
  | obj (a : Addr) (o : Obj)
noncomputable def Facts (h : Heap) : List Fact → Prop
  | [] => True
  | .tup a l :: r => IsTup h a l.toArray ∧ Facts h r
  | .obj a o :: r => h.get? a = some o ∧ Facts h r
theorem Facts.nil {h : Heap} : Facts h [] := trivial
theorem Facts.tup {h : Heap} {a : Addr} {l : List Value} {r : List Fact} (x : IsTup h a l.toArray) (y : Facts h r) : Facts h (.tup a l :: r) := ⟨x, y⟩
theorem Facts.obj {h : Heap} {a : Addr} {o : Obj} {r : List Fact} (x : h.get? a = some o) (y : Facts h r) : Facts h (.obj a o :: r) := ⟨x, y⟩
theorem Facts.app {h : Heap} : ∀ {T U : List Fact}, Facts h T → Facts h U → Facts h (T ++ U)
  | [], _, _, y => y
  | .tup _ _ :: _, _, x, y => ⟨x.1, Facts.app x.2 y⟩
  | .obj _ _ :: _, _, x, y => ⟨x.1, Facts.app x.2 y⟩
theorem Facts.left {h : Heap} : ∀ {T U : List Fact}, Facts h (T ++ U) → Facts h T
  | [], _, _ => trivial
  | .tup _ _ :: _, _, x => ⟨x.1, Facts.left x.2⟩
  | .obj _ _ :: _, _, x => ⟨x.1, Facts.left x.2⟩
theorem Facts.right {h : Heap} : ∀ {T U : List Fact}, Facts h (T ++ U) → Facts h U
  | [], _, y => y
  | .tup _ _ :: _, _, x => Facts.right (T := _) x.2
  | .obj _ _ :: _, _, x => Facts.right (T := _) x.2
theorem Facts.mono {h h' : Heap} (k : ∀ a o, h.get? a = some o → h'.get? a = some o) : ∀ {T : List Fact}, Facts h T → Facts h' T
  | [], _ => trivial
  | .tup _ _ :: _, x => ⟨let ⟨o, ho, r⟩ := x.1; ⟨o, k _ _ ho, r⟩, Facts.mono k x.2⟩
  | .obj _ _ :: _, x => ⟨k _ _ x.1, Facts.mono k x.2⟩
structure Br (g : Heap) (N objs : Objs) (H : Heap) : Prop where
  go : ∀ {a : Addr} {o : Obj}, g.get? a = some o → H.get? a = some o
  no : ∀ {a : Addr} {o : Obj}, Sel a o objs N → H.get? a = some o
theorem Br.gt {g H : Heap} {N objs : Objs} (B : Br g N objs H) {a : Addr} {l : Array Value} (x : IsTup g a l) : IsTup H a l := let ⟨o, ho, r⟩ := x; ⟨o, B.go ho, r⟩
theorem Br.nt {g H : Heap} {N objs : Objs} (B : Br g N objs H) {a : Addr} {l : Array Value} {n : Nat} {d : Option Addr} {sl : Array (Option Value)} (s : Sel a { cls := .type "tuple", dict := d, data := .seq l n, slots := sl } objs N) : IsTup H a l :=
  ⟨_, B.no s, rfl, _, rfl⟩
def FsP (g : Heap) (N objs : Objs) (T : List Fact) : Prop := ∀ H, Br g N objs H → Facts H T
section
variable {g : Heap} {N objs : Objs} {T : List Fact} {a : Addr} {o : Obj} {l : List Value} {n : Nat} {d : Option Addr} {sl : Array (Option Value)}
theorem FsP.nil : FsP g N objs [] := fun _ _ => Facts.nil
theorem FsP.objG (e : g.get? a = some o) (r : FsP g N objs T) : FsP g N objs (.obj a o :: T) := fun H B => Facts.obj (B.go e) (r H B)
theorem FsP.objN (s : Sel a o objs N) (r : FsP g N objs T) : FsP g N objs (.obj a o :: T) := fun H B => Facts.obj (B.no s) (r H B)
theorem FsP.tupG (e : IsTup g a l.toArray) (r : FsP g N objs T) : FsP g N objs (.tup a l :: T) := fun H B => Facts.tup (B.gt e) (r H B)
theorem FsP.tupN (s : Sel a { cls := .type "tuple", dict := d, data := .seq l.toArray n, slots := sl } objs N) (r : FsP g N objs T) : FsP g N objs (.tup a l :: T) := fun H B => Facts.tup (B.nt s) (r H B)
end
theorem room {a c k d r : Nat} (h : a + d < r) (e : Nat.ble (c + k) d = true) : a + c + k < r := by
  have := Nat.le_of_ble_eq_true e
  (first | lia | omega)
theorem room1 {a k d r : Nat} (h : a + d < r) (e : Nat.ble k d = true) : a + k < r := room (c := 0) h (by rw [Nat.zero_add]; exact e)
theorem room0 {a d r : Nat} (h : a + d < r) : a < r := Nat.lt_of_le_of_lt (Nat.le_add_right a d) h
theorem room2 {a b c k d r : Nat} (h : a + d < r) (e : Nat.ble (b + c + k) d = true) : a + b + c + k < r := by
  have := Nat.le_of_ble_eq_true e
  (first | lia | omega)
noncomputable def Pre (w : World) (h : Heap) (objs : Objs) (T : List Fact) : Prop := ∃ lo mean mg mb g, (KK w.params).In g ∧ Top VW lo mean mg mb g ∧ (∀ b o, g.get? b = some o → h.get? b = some o) ∧ (∀ p ∈ objs, h.get? p.1 = some p.2 ∧ g.get? p.1 = none) ∧ (ads objs).Nodup ∧ Facts (hideAll h (ads objs)) T
theorem Pre.of {w : World} {lo : List Str} {mean : ExcName → Option Value} {mg mb : Str → Option Value} {g h : Heap} {L : Addr} {m : Str → Option Value} {N objs : Objs} {T : List Fact} (F : Fr g L h m) (Nw : News g L h N) (nd : (ads N).Nodup) (S : objs.Sublist N) (X : (KK w.params).In g) (Tp : Top VW lo mean mg mb g)
    (fs : FsP g N objs T) : Pre w h objs T := by
  have hN : ∀ p ∈ objs, h.get? p.1 = some p.2 ∧ g.get? p.1 = none := fun p hp => ⟨(Nw p (S.subset hp)).1, (Nw p (S.subset hp)).2.2⟩
  refine ⟨lo, mean, mg, mb, g, X, Tp, F.keep, hN, List.Nodup.sublist (S.map (·.1)) nd, fs _ ⟨fun {a o} e => hideAll_get _ (F.keep _ _ e) fun q => ?_, fun {a o} s => ?_⟩⟩
  · obtain ⟨o', ho⟩ := mem_ads q
    rw [(hN _ ho).2] at e; cases e
  · have := s.ok nd
    exact hideAll_get _ (Nw _ this.1).1 this.2
theorem Pre.led {w : World} {h : Heap} {objs : Objs} {T : List Fact} (P : Pre w h objs T) : ∀ p ∈ objs, h.get? p.1 = some p.2 := by
  obtain ⟨_, _, _, _, _, _, _, _, L, _⟩ := P
  exact fun p hp => (L p hp).1
theorem Pre.nd {w : World} {h : Heap} {objs : Objs} {T : List Fact} (P : Pre w h objs T) : (ads objs).Nodup := by
  obtain ⟨_, _, _, _, _, _, _, _, _, nd, _⟩ := P
  exact nd
theorem Pre.narrow {w : World} {h : Heap} {objs N : Objs} {T T' : List Fact} (P : Pre w h N T) (S : objs.Sublist N) (fs : ∀ g H, Facts g T → Br g N objs H → Facts H T') : Pre w h objs T' := by
  obtain ⟨lo, mean, mg, mb, g, X, Tp, k, L, nd, hT⟩ := P
  refine ⟨lo, mean, mg, mb, g, X, Tp, k, fun p hp => L p (S.subset hp), List.Nodup.sublist (S.map (·.1)) nd, fs _ _ hT ⟨fun {a o} e => hideAll_get _ (of_hideAll _ e) fun q => ?_, fun {a o} s => ?_⟩⟩
  · have : a ∈ ads N := (S.map (·.1)).subset q
    rw [hideAll_none _ this] at e; cases e
  · have := s.ok nd
    exact hideAll_get _ (L _ this.1).1 this.2
theorem Pre.next {w : World} {h h' : Heap} {objs objs' new : Objs} {T T' : List Fact} (P : Pre w h objs T) (Q : Post h h' objs objs' new) (e : ads objs' = ads objs)
    (fs : ∀ H, Facts H T → (∀ p ∈ new, H.get? p.1 = some p.2) → Facts H T') : Pre w h' objs' T' := by
  obtain ⟨lo, mean, mg, mb, g, X, Tp, k, L, nd, hTT⟩ := P
  refine ⟨lo, mean, mg, mb, g, X, Tp, fun b o q => Q.kept b o (fun z => ?_) (k b o q), fun p hp => ⟨Q.led p (List.mem_append_right _ hp), ?_⟩, by rw [e]; exact nd, fs _ (Facts.mono (fun a o q => ?_) hTT) fun p hp => ?_⟩
  · obtain ⟨o', ho⟩ := mem_ads z
    rw [(L _ ho).2] at q; cases q
  · have : p.1 ∈ ads objs := by rw [← e]; exact ads_mem hp
    obtain ⟨o', ho⟩ := mem_ads this
    exact (L _ ho).2
  · rw [e]
    have hni : a ∉ ads objs := fun z => by rw [hideAll_none _ z] at q; cases q
    exact hideAll_get _ (Q.kept _ _ hni (of_hideAll _ q)) hni
  · refine hideAll_get _ (Q.led _ (List.mem_append_left _ hp)) fun z => ?_
    rw [e] at z
    obtain ⟨o', ho⟩ := mem_ads z
    have h1 := (L _ ho).1
    rw [Q.fresh _ hp] at h1; cases h1
theorem Post.sub {h h' : Heap} {objs objs' new new' : Objs} (Q : Post h h' objs objs' new) (S : new'.Sublist new) : Post h h' objs objs' new' :=
  ⟨Q.kept, fun p hp => Q.led p ((List.Sublist.append S (List.Sublist.refl _)).subset hp), fun p hp => Q.fresh p (S.subset hp), List.Nodup.sublist (S.map _) Q.nd⟩
theorem Post.widen {h h' : Heap} {objs objs' new N N' : Objs} (Q : Post h h' objs objs' new) (L : ∀ p ∈ N, h.get? p.1 = some p.2) (nd : (ads N).Nodup) (E : Emb objs objs' N N') : Post h h' N N' new := by
  have sub : ∀ b, b ∈ ads objs → b ∈ ads N := fun b hb => (E.sub.map (·.1)).subset hb
  refine ⟨fun b o hb q => Q.kept b o (fun z => hb (sub b z)) q, fun p hp => ?_, Q.fresh, Q.nd⟩
  rcases List.mem_append.mp hp with hp | hp
  · exact Q.led p (List.mem_append_left _ hp)
  · rcases E.cases nd p hp with q | ⟨q, n⟩
    · exact Q.led p (List.mem_append_right _ q)
    · exact Q.kept _ _ n (L p q)
theorem Post.trans {h h₁ h₂ : Heap} {objs o₁ o₂ n₁ n₂ : Objs} (L : ∀ p ∈ objs, h.get? p.1 = some p.2) (Q : Post h h₁ objs o₁ n₁) (e : ads o₁ = ads objs) (Q' : Post h₁ h₂ o₁ o₂ n₂) : Post h h₂ objs o₂ (n₂ ++ n₁) := by
  have inO1 : ∀ b, b ∈ ads objs → ∃ o, h₁.get? b = some o := fun b hb => by
    rw [← e] at hb
    obtain ⟨o, hp⟩ := mem_ads hb; exact ⟨_, Q.led _ (List.mem_append_right _ hp)⟩
  have n1 : ∀ p ∈ n₁, p.1 ∉ ads o₁ := fun p hp z => by
    rw [e] at z
    obtain ⟨o, ho⟩ := mem_ads z
    have := L _ ho
    rw [Q.fresh p hp] at this; cases this
  refine ⟨fun b o hb q => Q'.kept b o (by rw [e]; exact hb) (Q.kept b o hb q), fun p hp => ?_, fun p hp => ?_, ?_⟩
  · rcases List.mem_append.mp hp with hp | hp
    · rcases List.mem_append.mp hp with hp | hp
      · exact Q'.led p (List.mem_append_left _ hp)
      · exact Q'.kept _ _ (n1 p hp) (Q.led p (List.mem_append_left _ hp))
    · exact Q'.led p (List.mem_append_right _ hp)
  · rcases List.mem_append.mp hp with hp | hp
    · cases q : h.get? p.1 with
      | none => rfl
      | some o =>
        by_cases hb : p.1 ∈ ads objs
        · obtain ⟨o', ho'⟩ := inO1 _ hb
          rw [Q'.fresh p hp] at ho'; cases ho'
        · have := Q.kept _ _ hb q
          rw [Q'.fresh p hp] at this; cases this
    · exact Q.fresh p hp
  · rw [ads_app, List.nodup_append]
    refine ⟨Q'.nd, Q.nd, fun a ha b hb ee => ?_⟩
    subst ee
    obtain ⟨p, hp, ep⟩ := List.mem_map.mp ha
    obtain ⟨q, hq, eq⟩ := List.mem_map.mp hb
    have h1 := Q'.fresh p hp
    have h2 := Q.led q (List.mem_append_left _ hq)
    have e1 : p.1 = a := ep
    have e2 : q.1 = a := eq
    rw [e1] at h1
    rw [e2, h1] at h2; cases h2
theorem item_L {prog : Program} {w : World} {A : Around} {E : Value → Shared → Prop} {s : Shared} {value slice : Expr} {l : Addr} {vs : List Value} {k : Int} {u : Tok} {v : Value} {Q : Value → Shared → Prop}
    (hl : s.heap.IsList l vs.toArray) (h0 : 0 ≤ k) (hhi : k < 2 ^ 63) (hx : vs[k.toNat]? = some v) (h : Q v s)
    (hs : subscripted slice false (.ref l) (.int k u) = operate [.ref l, .int k u] (getItem (.ref l) (.int k u)) := by with_unfolding_all rfl) :
    wpAny (model prog w) A (subscriptTail value slice (.ref l) (.int k u)) Q E s :=
  tail_any hl.typeIs slot_list_getitem.lookup (wpAny_getItem_list hl h0 hhi (by simpa using hx) h) hs
theorem Fr.lst' {g h : Heap} {L a : Addr} {m : Str → Option Value} {items : Array Value} {n : Nat} {d : Option Addr} {sl : Array (Option Value)} (F : Fr g L h m) (x : g.get? a = some { cls := .type "list", dict := d, data := .seq items n, slots := sl }) : h.IsList a items :=
  ⟨_, F.keep _ _ x, rfl, _, rfl⟩
theorem inst_ss {g h : Heap} {L x C dx : Addr} {m : Str → Option Value} {od : Obj} (F : Fr g L h m) (h1 : g.get? x = some (instObj C dx)) (h2 : g.get? dx = some od) : InstAt h x (instObj C dx) C (some od) := ⟨F.keep _ _ h1, rfl, rfl, F.keep _ _ h2⟩
theorem inst_sn {g h : Heap} {L x C dx : Addr} {m : Str → Option Value} {od : Obj} {N : Objs} (F : Fr g L h m) (Nw : News g L h N) (h1 : g.get? x = some (instObj C dx)) (h2 : (dx, od) ∈ N) : InstAt h x (instObj C dx) C (some od) := ⟨F.keep _ _ h1, rfl, rfl, (Nw _ h2).1⟩
inductive Rep (d : Addr) (o o' : Obj) : Objs → Objs → Prop
  | head {r} : Rep d o o' ((d, o) :: r) ((d, o') :: r)
  | tail {p r r'} : Rep d o o' r r' → Rep d o o' (p :: r) (p :: r')
theorem Rep.head2 {d b : Addr} {o p o' : Obj} {r : Objs} (ea : d = b) (eo : o = p) : Rep d o o' ((b, p) :: r) ((b, o') :: r) := by subst ea eo; exact .head
theorem Rep.ads_eq {d : Addr} {o o' : Obj} {N N' : Objs} (R : Rep d o o' N N') : ads N' = ads N := by
  induction R with
  | head => rfl
  | tail _ ih => exact congrArg (List.cons _) ih
theorem Rep.mem {d : Addr} {o o' : Obj} {N N' : Objs} (R : Rep d o o' N N') : d ∈ ads N := by
  induction R with
  | head => exact .head _
  | tail _ ih => exact .tail _ ih
theorem Rep.upd {d : Addr} {o o' : Obj} {N N' : Objs} (R : Rep d o o' N N') (nd : (ads N).Nodup) : Upd d o o' N N' := by
  induction R with
  | head => exact .head fun p hp e => (List.nodup_cons.mp nd).1 (by have q := ads_mem hp; have e2 : p.1 = d := e; rw [e2] at q; exact q)
  | tail R ih => exact .tail (fun e => (List.nodup_cons.mp nd).1 (by have := R.mem; rw [← e] at this; exact this)) (ih (List.nodup_cons.mp nd).2)
theorem Rep.nd {d : Addr} {o o' : Obj} {N N' : Objs} (R : Rep d o o' N N') (nd : (ads N).Nodup) : (ads N').Nodup := by rw [R.ads_eq]; exact nd
section
variable {prog : Program} {w : World} {A : Around} {E : Value → Shared → Prop} {gs : Array GenState} {dr : Drawn} {tk : Nat} {os : OsState} {hH : Heap} {K : Frag} {x C dx L D : Addr} {h₀ : Heap} {m : Str → Option Value} {news news' : List (Addr × Obj)} {ox od : Obj} {es es' : List DictEntry} {n n' : Nat} {name : Str} {v : Value} {its : Array Value}
theorem set_dictN {Q : Unit → Shared → Prop} (F : Fr h₀ L hH m) (X₀ : K.In h₀) (N : News h₀ L hH news) (nd : (ads news).Nodup) (I : InstAt hH x ox C (some (dictOf es n))) (hd : ox.dict = some dx)
    (hs : findIn K (.ref C) "__setattr__" = some (some (.builtin "object.__setattr__"))) (hp : plainOver K C = true) (ht : takerIn K C name = some none) (hh : hasDictIn K C = true) (hl : (getL name es).isSome = true)
    (e : (putL name (PyData.keyHash w.params name) (.str name (tk + 1)) v es, putN name es n) = (es', n')) (R : Rep dx (dictOf es n) (dictOf es' n') news news') (hz : es'.length ≤ 1000)
    (h : let q := news'; let qt := tk + 2; ∀ h', Fr h₀ L h' m → News h₀ L h' q → Q () ⟨h', gs, dr, qt, os⟩) :
    wpAny (model prog w) A (setAttr (.ref x) name v) Q E ⟨hH, gs, dr, tk, os⟩ :=
  set_dict F X₀ N I hd hs hp ht hh hl e (R.upd nd) hz h
theorem ki_setN {k : Int} {t : Tok} {q : List Value} {Q : Unit → Shared → Prop} (F : Fr h₀ L hH m) (N : News h₀ L hH news) (nd : (ads news).Nodup) (h0 : 0 ≤ k) (hfit : k < 2 ^ 63) (e : ki_setL its.toList k.toNat v = some q) (R : Rep D (listOf its n) (listOf q.toArray n) news news')
    (h : let q := news'; ∀ h', Fr h₀ L h' m → News h₀ L h' q → Q () ⟨h', gs, dr, tk, os⟩) : wpAny (model prog w) A (setItem (.ref D) (.int k t) v) Q E ⟨hH, gs, dr, tk, os⟩ :=
  ki_set F N h0 hfit e (R.upd nd) h
theorem append_N {Q : Value → Shared → Prop} (F : Fr h₀ L hH m) (N : News h₀ L hH news) (nd : (ads news).Nodup) (R : Rep D (listOf its n) (listOf (its.push v) (n + 1)) news news')
    (hsz : its.size ≤ sizeLine) (h : let q := news'; ∀ h', Fr h₀ L h' m → News h₀ L h' q → Q .none ⟨h', gs, dr, tk, os⟩) : wpAny (model prog w) A (call (.builtin "list.append") [.ref D, v]) Q E ⟨hH, gs, dr, tk, os⟩ :=
  append_K F N (R.upd nd) (h) hsz
theorem kl_popN {p : List Value} {y : Value} {Q : Value → Shared → Prop} (F : Fr h₀ L hH m) (N : News h₀ L hH news) (nd : (ads news).Nodup) (e : kl_last its.toList = some (p, y)) (R : Rep D (listOf its n) (listOf p.toArray (n + 1)) news news')
    (hz : its.toList.length ≤ sizeLine) (h : let q := news'; ∀ h', Fr h₀ L h' m → News h₀ L h' q → Q y ⟨h', gs, dr, tk, os⟩) : wpAny (model prog w) A (call (.builtin "list.pop") [.ref D]) Q E ⟨hH, gs, dr, tk, os⟩ :=
  kl_pop F N e (R.upd nd) hz h
end
theorem kset3 {a b c v : Value} {i : Int} (h0 : 0 ≤ i) (h1 : i < 3) : ki_setL [a, b, c] i.toNat v = some ([a, b, c].set i.toNat v) := by
  obtain rfl | rfl | rfl : i = 0 ∨ i = 1 ∨ i = 2 := by (first | lia | omega)
  all_goals rfl
structure IxR (l : List Value) (i : Int) (v : Addr) : Prop where
  out : l[i.toNat]? = some (.ref v)
structure IxT (l : List Value) (i : Int) (v : Addr) : Prop where
  out : l[i.toNat]? = some (.ref v)
noncomputable abbrev AA (dp un : Nat) (fr : Option (List Env)) (gd : Option (List Code)) : Around := { handled := none, depth := dp, frames := fr, guards := gd, units := un }
theorem enter {w : World} {A : Around} {h0 : Heap} {gs : Array GenState} {dr : Drawn} {tk0 : Nat} {os : OsState} {objs : Objs} {T : List Fact} {R : Result → Shared → Prop} {name qual : Str} {params : Arguments} {body : List Stmt} {scope : Scope} {dV kV doc pm cdv ct oc : Value} {an od : Option Addr} {osl : Array (Option Value)} {f : Addr} {args : Args} {binds : List (Str × Value)}
    (P : Pre w h0 objs T) (ho : (KK w.params).lookup f = some ⟨oc, od, .func (fnOf name qual params body scope dV kV doc pm an cdv ct), osl⟩) (hcd : codeIn (KK w.params) cdv qual = true) (hroom : A.depth < recursionLimit)
    (hbind : BindsTo ⟨h0, gs, dr, tk0, os⟩ (fnOf name qual params body scope dV kV doc pm an cdv ct) args binds) (hloc : ∀ y ∈ binds, scope.names.lookup y.1 = some .local)
    (h : let qN : List (Addr × Obj) := objs; let qm := fun y => binds.reverse.lookup y; ∀ lo mean mg mb L' h₁ g, Gd g h0 (ads qN) → Fr g L' h₁ qm → News g L' h₁ qN → (ads qN).Nodup → (KK w.params).In g → Top VW lo mean mg mb g → Facts g T →
      wpAny (model PR w) (A.deeper (envOf qual scope L' f cdv)) (execs body (envOf qual scope L' f cdv))
        (fun fl s' => R (.ok (.ret (match fl with | .ret v => v | _ => .none))) s')
        (fun e s' => wpAny (model PR w) (A.deeper (envOf qual scope L' f cdv)) (leaving (envOf qual scope L' f cdv) e) (fun _ s'' => R (.error e) s'') (fun e' s'' => R (.error e') s'') s')
        ⟨h₁, gs, dr, tk0 + binds.length, os⟩)
    (hco : scope.isCoroutine = false) (hgen : scope.isGenerator = false) (hk : scope.kind = .function)
    (hcell : ∀ x ∈ scope.names, x.2 ≠ .cell) : codeAny (model PR w) A (.call (.ref f) args) R ⟨h0, gs, dr, tk0, os⟩ := by
  obtain ⟨lo, mean, mg, mb, g, X, T, k, L, nd, hT⟩ := P
  have kg : ∀ b o, g.get? b = some o → (hideAll h0 (ads objs)).get? b = some o := fun b o e => hideAll_get _ (k b o e) fun q => by
    obtain ⟨o', ho⟩ := mem_ads q
    rw [(L _ ho).2] at e; cases e
  have X' := X.keeps k
  refine codeAny_call_def (fd := fnOf name qual params body scope dV kV doc pm an cdv ct) (body := body) (binds := binds) hroom (X' _ _ ho) rfl (T.nolimit.keeps k) (codeRec_of X' hcd) rfl hbind hcell hloc (fun h₁ hns hk₁ => ?_) hco hgen hk
  exact h lo mean mg mb h0.objs.size h₁ _ ⟨rfl⟩ ⟨hns, fun b o e => hk₁ b o (of_hideAll _ e), Nat.le_of_eq (hideAll_size _ _)⟩
    (fun p hp => ⟨hk₁ _ _ (L p hp).1, Nat.ne_of_lt (Heap.lt_size (L p hp).1), hideAll_none _ (ads_mem hp)⟩) nd (X.keeps kg) (T.keeps kg) hT
end
section
open PySem PySem.W PySem.Calls PySem.Spec PyProof.Rows
theorem enterC {w : World} {A : Around} {h0 : Heap} {gs : Array GenState} {dr : Drawn} {tk0 : Nat} {os : OsState} {objs : Objs} {T : List Fact} {R : Result → Shared → Prop} {name qual : Str} {params : Arguments} {body : List Stmt} {scope : Scope} {dV kV doc pm cdv ct oc : Value} {an od : Option Addr} {osl : Array (Option Value)} {f : Addr} {args : Args} {binds : List (Str × Value)}
    (P : Pre w h0 objs T) (ho : (KK w.params).lookup f = some ⟨oc, od, .func (fnOf name qual params body scope dV kV doc pm an cdv ct), osl⟩) (hcd : codeIn (KK w.params) cdv qual = true) (hroom : A.depth < recursionLimit)
    (hbind : BindsTo ⟨h0, gs, dr, tk0, os⟩ (fnOf name qual params body scope dV kV doc pm an cdv ct) args binds) (hkind : (binds.all fun y => scope.names.lookup y.1 == some .local || scope.names.lookup y.1 == some .cell) = true)
    (hnd : ((cellsFrom 0 scope.names []).map (·.1)).Nodup)
    (h : let qN : List (Addr × Obj) := objs; ∀ lo mean mg mb L' h₁ g tk cells, Gd g h0 (ads qN) → Fr g L' h₁ (bindL (envOfC qual scope L' f cdv).kindOf binds fun _ => none) → News g L' h₁ (cells ++ qN) →
      CellsAre (bindC (envOfC qual scope L' f cdv).kindOf binds fun _ => none) (cellsFrom (L' + 1) scope.names []) cells → (∀ p ∈ qN, p.1 < L') → (ads qN).Nodup → (KK w.params).In g → Top VW lo mean mg mb g → Facts g T →
      wpAny (model PR w) (A.deeper (envOfC qual scope L' f cdv)) (execs body (envOfC qual scope L' f cdv))
        (fun fl s' => R (.ok (.ret (match fl with | .ret v => v | _ => .none))) s')
        (fun e s' => wpAny (model PR w) (A.deeper (envOfC qual scope L' f cdv)) (leaving (envOfC qual scope L' f cdv) e) (fun _ s'' => R (.error e) s'') (fun e' s'' => R (.error e') s'') s')
        ⟨h₁, gs, dr, tk, os⟩)
    (hco : scope.isCoroutine = false) (hgen : scope.isGenerator = false) (hk : scope.kind = .function) : codeAny (model PR w) A (.call (.ref f) args) R ⟨h0, gs, dr, tk0, os⟩ := by
  obtain ⟨lo, mean, mg, mb, g, X, T, k, L, nd, hT⟩ := P
  have kg : ∀ b o, g.get? b = some o → (hideAll h0 (ads objs)).get? b = some o := fun b o e => hideAll_get _ (k b o e) fun q => by
    obtain ⟨o', ho⟩ := mem_ads q
    rw [(L _ ho).2] at e; cases e
  have X' := X.keeps k
  have hcd' := codeRec_of X' hcd
  refine codeAny_call_function (fd := fnOf name qual params body scope dV kV doc pm an cdv ct) hroom (X' _ _ ho) rfl hco hgen rfl hcd' (hbind _ _ _ _ ?_)
  refine wpAny_newFunctionEnv_cells hk (kindsX hkind _) fun env' he s' x => ?_
  subst he
  refine ⟨(T.nolimit.keeps k).keeps x.toInCall.keep, codeAny_func ?_⟩
  obtain ⟨h₁, tk, rfl, _⟩ := x.done
  have hk₁ := x.toInCall.keep
  obtain ⟨cells, NC, Y⟩ := Cl.news (h₀ := h0) (Nat.le_refl _) fun n c hm => ⟨x.cell n c (lookup_of_mem_nodup (cellsFrom_names scope.names 0 (h0.objs.size + 1) [] [] rfl ▸ hnd) hm), x.above n c hm⟩
  refine h lo mean mg mb h0.objs.size h₁ _ tk cells ⟨rfl⟩ ⟨x.toInCall.ns, fun b o e => hk₁ b o (of_hideAll _ e), Nat.le_of_eq (hideAll_size _ _)⟩ (fun p hp => ?_) Y (fun p hp => Heap.lt_size (L p hp).1) nd (X.keeps kg) (T.keeps kg) hT
  rcases List.mem_append.mp hp with hp | hp
  · refine ⟨(NC p hp).1, (NC p hp).2.1, ?_⟩
    cases q : (hideAll h0 (ads objs)).get? p.1 with
    | none => rfl
    | some o => have := of_hideAll _ q; rw [(NC p hp).2.2] at this; cases this
  · exact ⟨hk₁ _ _ (L p hp).1, Nat.ne_of_lt (Heap.lt_size (L p hp).1), hideAll_none _ (ads_mem hp)⟩
theorem ndC1 {g h : Heap} {L a : Addr} {o : Obj} {objs : Objs} (N : News g L h ((a, o) :: objs)) (nd : (ads objs).Nodup) (l : ∀ p ∈ objs, p.1 < L) (ha : L < a) : (ads ((a, o) :: objs)).Nodup :=
  List.nodup_cons.mpr ⟨fun q => by obtain ⟨o', ho⟩ := mem_ads q; exact Nat.lt_irrefl _ (Nat.lt_trans (l _ ho) ha), nd⟩
theorem ndC2 {g h : Heap} {L a b : Addr} {o o2 : Obj} {objs : Objs} (N : News g L h ((a, o) :: (b, o2) :: objs)) (nd : (ads objs).Nodup) (l : ∀ p ∈ objs, p.1 < L) (ha : L < a) (hb : L < b) (hab : a ≠ b) : (ads ((a, o) :: (b, o2) :: objs)).Nodup :=
  List.nodup_cons.mpr ⟨fun q => by
    rcases List.mem_cons.mp q with e | q
    · exact hab e
    · obtain ⟨o', ho⟩ := mem_ads q; exact Nat.lt_irrefl _ (Nat.lt_trans (l _ ho) ha),
   List.nodup_cons.mpr ⟨fun q => by obtain ⟨o', ho⟩ := mem_ads q; exact Nat.lt_irrefl _ (Nat.lt_trans (l _ ho) hb), nd⟩⟩
end
section
open PySem PySem.W PySem.Calls PySem.Spec PyProof.Rows
theorem len1 {α : Type} {l : List α} (h : l.length = 1) : ∃ a, l = [a] := by
  cases l with
  | nil => cases h
  | cons a l => exact ⟨a, congrArg (List.cons a) (List.eq_nil_of_length_eq_zero (Nat.succ.inj h))⟩
theorem lenS {α : Type} {l : List α} {n : Nat} (h : l.length = n + 1) : ∃ a t, l = a :: t ∧ t.length = n := by
  cases l with
  | nil => cases h
  | cons a l => exact ⟨a, l, rfl, Nat.succ.inj h⟩
theorem len2 {α : Type} {l : List α} (h : l.length = 2) : ∃ a b, l = [a, b] := by
  obtain ⟨a, t, e, h1⟩ := lenS h
  obtain ⟨b, e1⟩ := len1 h1
  exact ⟨a, b, e1 ▸ e⟩
theorem len4 {α : Type} {l : List α} (h : l.length = 4) : ∃ a b c d, l = [a, b, c, d] := by
  obtain ⟨a, t, e, h1⟩ := lenS h
  obtain ⟨b, t1, e1, h2⟩ := lenS h1
  obtain ⟨c, d, e2⟩ := len2 h2
  exact ⟨a, b, c, d, by rw [e, e1, e2]⟩
theorem nin_ne {r : Addr} {l : List Addr} (h : ∀ a ∈ l, a ≠ r) : r ∉ l := fun q => h _ q rfl
section
variable {prog : Program} {w : World} {A : Around} {E : Value → Shared → Prop} {s : Shared} {g : Heap} {L r : Addr} {m : Str → Option Value} {Q : Value → Shared → Prop} {news : Objs} {a b : Int} {t u v : Tok}
theorem lr_core {n : Nat} (hh : A.handled = none) (F : Fr g L s.heap m) (N : News g L s.heap news) (hr : IsRange s.heap r a b 1 t u v) (hs : Builtin.Range.small a b 1 = true) (hn : Builtin.Range.rangeSize a b 1 = (n : Int)) (hl : n ≤ 2 ^ 24)
    (h : ∀ h' tk D acc k, ItemsOf (fun i v => ∃ t, v = .int (a + i * 1) t) acc n → Fr g L h' m → News g L h' ((D, listOf acc k) :: news) → (∀ p ∈ news, p.1 < D) → Q (.ref D) { s with heap := h', toks := tk }) :
    wpAny (model prog w) A (call (.type "list") [.ref r]) Q E s := by
  refine call_list_range hh hr hs hn hl fun h' tk acc c' hk hS' hacc => ?_
  refine h h' tk s.heap.objs.size acc c' hacc (F.keeps hk) (fun p hp => ?_) fun p hp => Heap.lt_size (N p hp).1
  rcases List.mem_cons.mp hp with rfl | hp
  · refine ⟨hS', Nat.ne_of_gt F.ns.lt, ?_⟩
    cases e : g.get? s.heap.objs.size with
    | none => rfl
    | some o => exact absurd (Heap.lt_size (F.keep _ _ e)) (Nat.lt_irrefl _)
  · exact ⟨hk _ _ (N p hp).1, (N p hp).2⟩
theorem lr0 (hh : A.handled = none) (F : Fr g L s.heap m) (N : News g L s.heap news) (hr : IsRange s.heap r a b 1 t u v) (hs : Builtin.Range.small a b 1 = true) (hn : Builtin.Range.rangeSize a b 1 = ((0 : Nat) : Int))
    (h : ∀ h' tk D k, Fr g L h' m → News g L h' ((D, listOf #[] k) :: news) → (∀ p ∈ news, p.1 < D) → Q (.ref D) { s with heap := h', toks := tk }) :
    wpAny (model prog w) A (call (.type "list") [.ref r]) Q E s := by
  refine lr_core hh F N hr hs hn (by decide) fun h' tk D acc k hi F' N' l => ?_
  have : acc = #[] := Array.eq_empty_of_size_eq_zero hi.1
  subst this
  exact h h' tk D k F' N' l
theorem lr2 {x0 x1 : Int} (hh : A.handled = none) (F : Fr g L s.heap m) (N : News g L s.heap news) (hr : IsRange s.heap r a b 1 t u v) (hs : Builtin.Range.small a b 1 = true) (hn : Builtin.Range.rangeSize a b 1 = ((2 : Nat) : Int)) (e0 : a = x0) (e1 : a + 1 = x1)
    (h : ∀ h' tk D k t0 t1, Fr g L h' m → News g L h' ((D, listOf #[.int x0 t0, .int x1 t1] k) :: news) → (∀ p ∈ news, p.1 < D) → Q (.ref D) { s with heap := h', toks := tk }) :
    wpAny (model prog w) A (call (.type "list") [.ref r]) Q E s := by
  refine lr_core hh F N hr hs hn (by decide) fun h' tk D acc k hi F' N' l => ?_
  obtain ⟨l⟩ := acc
  obtain ⟨h1, h2⟩ := hi
  obtain ⟨p, q, rfl⟩ := len2 h1
  obtain ⟨t0, rfl⟩ := h2 0 p rfl
  obtain ⟨t1, rfl⟩ := h2 1 q rfl
  have z0 : a + ((0 : Nat) : Int) * 1 = x0 := by (first | lia | omega)
  have z1 : a + ((1 : Nat) : Int) * 1 = x1 := by (first | lia | omega)
  rw [z0, z1] at N'
  exact h h' tk D k t0 t1 F' N' ‹_›
end
end
section
open PySem PySem.W PySem.Calls PySem.Spec PyProof.Rows
open Sem (wp)
section
open PySem.W.KBw
variable {prog : Program} {w : World} {A : Around} {E : Value → Shared → Prop} {s : Shared} {b : Array UInt8} {t : Tok} {g : Heap} {L : Addr} {m : Str → Option Value} {news : Objs}
theorem hint_bytes {Q : Bool → Shared → Prop} (h : Q false s) : wpAny (model prog w) A (Builtin.List.listLengthHint (.bytes b t)) Q E s := by
  unfold Builtin.List.listLengthHint
  with_reducible refine wpAny_bind (wpAny_specialOf (typeIs_bytes s b t) FB.slot_bytes_len.lookup ?_)
  generalize hid : ("bytes.__len__" : String) = id0
  wp_delta
  rw [show splitId id0 = some ("bytes", "__len__") from by subst hid; decide +kernel]
  subst hid
  refine wpAny_bind (wpAny_isInstance (T := "bytes") (b := true) (typeIs_bytes s b t) (by rw [isSubtype_type]; kernel_rfl) ?_)
  refine wpAny_ite_split (fun hab => absurd hab (by decide)) (fun _ => ?_)
  refine wpAny_ite_split (fun _ => ?_) (fun hab => absurd (by decide +kernel) hab)
  refine wpAny_bind (wpAny_typeOf (T := "bytes") (typeIs_bytes s b t) ?_)
  exact wpAny_pure h
noncomputable abbrev BI (b : Array UInt8) (i : Nat) (v : Value) : Prop := ∃ c u, b[i]? = some c ∧ v = .int (c.toNat : Int) u
theorem extend_bytes {R : Result → Shared → Prop} (hh : A.handled = none) (hlen : b.size ≤ 2 ^ 20) (S : Addr) (res : Value) (c₀ : Nat) (hS : s.heap.get? S = some { cls := .type "list", data := .seq #[] c₀ })
    (hR : ∀ h' tk acc' c', (∀ b o, b ≠ S → s.heap.get? b = some o → h'.get? b = some o) → h'.get? S = some { cls := .type "list", dict := none, data := .seq acc' c', slots := #[] } →
      ItemsOf (BI b) acc' b.size → R (.ok (.ret res)) { s with heap := h', toks := tk }) :
    wpAny (model prog w) A.in1 (Builtin.List.listExtendWith (.ref S) (.bytes b t) res)
      (fun fin s' => match fin with | .done f => R (.ok f) s' | .again c' => c'.quiet = true ∧ codeAny (model prog w) A c' R s') (fun e s' => R (.error e) s') s := by
  have hSlt : S < s.heap.objs.size := Heap.lt_size hS
  have hSI : S ≠ s.heap.objs.size := Nat.ne_of_lt hSlt
  have hSf : S ∉ [s.heap.objs.size] := fun hm => hSI (List.mem_singleton.mp hm)
  have W := (KBw.walks (prog := prog) (w := w) (A := A.in1) hh s.heap.objs.size b t).toS
  have key : ∀ (h : Heap) (c₁ tk : Nat), IsBytesIter h s.heap.objs.size b t 0 → (∀ b o, b ≠ S → s.heap.get? b = some o → h.get? b = some o) →
      h.get? S = some { cls := .type "list", data := .seq #[] c₁ } → codeAny (model prog w) A (.builtin "list.extend.loop" ⟨[.ref S, .ref s.heap.objs.size, res], []⟩) R { s with heap := h, toks := tk } := by
    intro h c₁ tk hit hk hS₁
    refine codeAny_extend_loopS W (by rw [sizeLine_eq]; (first | lia | omega)) S hSf res b.size 0 _ #[] c₁ rfl (Nat.zero_le _) hit hS₁ (ItemsOf.nil _) fun s' acc' c' hm hS' hacc => ?_
    rw [Moved.eq_with hm]
    refine hR s'.heap s'.toks acc' c' (fun b o hb e => hm.heap b o (fun hmem => ?_) (hk b o hb e)) hS' hacc
    rcases List.mem_cons.mp hmem with e' | hmem
    · exact hb e'
    · exact absurd (Heap.lt_size e) (by rw [List.mem_singleton.mp hmem]; exact Nat.lt_irrefl _)
  unfold Builtin.List.listExtendWith
  refine wpAny_bind (wpAny_typeOf (T := "bytes") (typeIs_bytes s b t) ?_)
  have h1 : Builtin.List.listSameRef (.ref S) (.bytes b t) = false := rfl
  have h2 : (Value.type "bytes" == Value.type "list") = false := by decide
  have h3 : (Value.type "bytes" == Value.type "tuple") = false := by decide
  simp only [h1, h2, h3, Bool.or_false, Bool.false_eq_true, if_false]
  refine wpAny_bind (pyIter_bytes ?_)
  refine wpAny_bind (wpAny_holding (hint_bytes ?_))
  have hit₁ : IsBytesIter (s.heap.push { cls := .type "bytes_iterator", data := .fields #[.bytes b t, .int 0 0] }) s.heap.objs.size b t 0 := ⟨_, Heap.get?_push_size _ rfl, rfl, rfl⟩
  have hS₁ := Heap.get?_push_of_some { cls := .type "bytes_iterator", data := .fields #[.bytes b t, .int 0 0] } hS
  refine wpAny_ite_split (fun hab => absurd hab (by decide)) (fun _ => wpAny_pure ⟨plainId_quiet PySem.F.plain_extend_loop _, key _ c₀ _ hit₁ (fun b o _ e => Heap.get?_push_of_some _ e) hS₁⟩)
theorem init_bytes {R : Result → Shared → Prop} (hh : A.handled = none) (hlen : b.size ≤ 2 ^ 20) (S : Addr) (hS : s.heap.get? S = some { cls := .type "list", data := .seq #[] })
    (hR : ∀ h' tk acc' c', (∀ b o, b ≠ S → s.heap.get? b = some o → h'.get? b = some o) → h'.get? S = some { cls := .type "list", dict := none, data := .seq acc' c', slots := #[] } →
      ItemsOf (BI b) acc' b.size → R (.ok (.ret .none)) { s with heap := h', toks := tk }) :
    wpAny (model prog w) A.in1 (Builtin.«list.__init__» ⟨[.ref S, .bytes b t], []⟩)
      (fun fin s' => match fin with | .done f => R (.ok f) s' | .again c' => c'.quiet = true ∧ codeAny (model prog w) A c' R s') (fun e s' => R (.error e) s') s := by
  show wpAny _ _ (do let old ← Builtin.List.listItems (.ref S); Builtin.List.listUpdate (.ref S) (fun _ => #[]); letGo old.toList.reverse; Builtin.List.listExtendWith (.ref S) (.bytes b t) .none) _ _ s
  refine wpAny_bind ?_
  unfold Builtin.List.listItems
  refine wpAny_bind (wpAny_seqItems hS rfl (wpAny_pure ?_))
  show wpAny _ _ (updateSeq S (fun _ => #[]) >>= fun _ => letGo (#[] : Array Value).toList.reverse >>= fun _ => Builtin.List.listExtendWith (.ref S) (.bytes b t) .none) _ _ s
  refine wpAny_bind (wpAny_updateSeq hS rfl ?_)
  have hS₂ := Heap.get?_update_self (Obj.mapSeq (fun _ => (#[] : Array Value))) hS rfl
  have oth : ∀ b o, b ≠ S → s.heap.get? b = some o → (s.heap.update S (Obj.mapSeq (fun _ => (#[] : Array Value)))).get? b = some o :=
    fun b o hb e => (Heap.get?_update_other _ _ (Ne.symm hb)).trans e
  refine wpAny_bind (wpAny_letGo ?_)
  refine extend_bytes hh hlen S .none _ hS₂ fun h' tk acc' c' hk hS' hacc => ?_
  exact hR h' tk acc' c' (fun b o hb e => hk b o hb (oth b o hb e)) hS' hacc
theorem list_bytes {Q : Value → Shared → Prop} (hh : A.handled = none) (hlen : b.size ≤ 2 ^ 20) (F : Fr g L s.heap m) (N : News g L s.heap news)
    (h : ∀ h' tk D acc k, ItemsOf (BI b) acc b.size → Fr g L h' m → News g L h' ((D, listOf acc k) :: news) → (∀ p ∈ news, p.1 < D) → Q (.ref D) { s with heap := h', toks := tk }) :
    wpAny (model prog w) A (call (.type "list") [.bytes b t]) Q E s := by
  refine callType_codes (Q₁ := fun obj s₁ => obj = .ref s.heap.objs.size ∧ s₁ = { s with heap := s.heap.push { cls := .type "list", data := .seq #[] } }) PySem.F.called_list (PySem.F.typeCall_list_1 _) PySem.F.entry_list_init
    (code_list_new _ ⟨rfl, rfl⟩) fun obj s₁ h₁ => ?_
  obtain ⟨rfl, rfl⟩ := h₁
  have hS : (s.heap.push { cls := .type "list", data := .seq #[] }).get? s.heap.objs.size = some { cls := .type "list", data := .seq #[] } := Heap.get?_push_size _ rfl
  refine ⟨⟨_, hS, rfl⟩, PySem.F.args_list_init_2 _ _, init_bytes (A := A.in1) hh hlen _ hS fun h' tk acc' c' hk hS' hacc => ?_⟩
  have hk' : ∀ b o, s.heap.get? b = some o → h'.get? b = some o := fun b o e => hk b o (Nat.ne_of_lt (Heap.lt_size e)) (Heap.get?_push_of_some _ e)
  refine ⟨rfl, h h' tk s.heap.objs.size acc' c' hacc (F.keeps hk') (fun p hp => ?_) fun p hp => Heap.lt_size (N p hp).1⟩
  rcases List.mem_cons.mp hp with rfl | hp
  · refine ⟨hS', Nat.ne_of_gt F.ns.lt, ?_⟩
    cases e : g.get? s.heap.objs.size with
    | none => rfl
    | some o => exact absurd (Heap.lt_size (F.keep _ _ e)) (Nat.lt_irrefl _)
  · exact ⟨hk' _ _ (N p hp).1, (N p hp).2⟩
theorem BI.is {i : Nat} {v : Value} {x : Int} {ks : List Int} (hb : bInts b = ks) (hx : ks[i]? = some x) (h : BI b i v) : ∃ u, v = .int x u := by
  obtain ⟨c, u, hc, rfl⟩ := h
  have := ints_get hc
  rw [hb, hx] at this
  exact ⟨u, by rw [Option.some.inj this]⟩
theorem lb1 {Q : Value → Shared → Prop} {x0 : Int} (hh : A.handled = none) (hb : bInts b = [x0]) (F : Fr g L s.heap m) (N : News g L s.heap news)
    (h : ∀ h' tk D k t0, Fr g L h' m → News g L h' ((D, listOf #[.int x0 t0] k) :: news) → (∀ p ∈ news, p.1 < D) → Q (.ref D) { s with heap := h', toks := tk }) :
    wpAny (model prog w) A (call (.type "list") [.bytes b t]) Q E s := by
  have hz : b.size = 1 := by rw [← ints_length, hb]; rfl
  refine list_bytes hh (by (first | lia | omega)) F N fun h' tk D acc k hi F' N' l => ?_
  rw [hz] at hi
  obtain ⟨l⟩ := acc
  obtain ⟨h1, h2⟩ := hi
  obtain ⟨p, rfl⟩ := len1 h1
  obtain ⟨t0, rfl⟩ := (h2 0 p rfl).is hb rfl
  exact h h' tk D k t0 F' N' ‹_›
theorem lb4 {Q : Value → Shared → Prop} {x0 x1 x2 x3 : Int} (hh : A.handled = none) (hb : bInts b = [x0, x1, x2, x3]) (F : Fr g L s.heap m) (N : News g L s.heap news)
    (h : ∀ h' tk D k t0 t1 t2 t3, Fr g L h' m → News g L h' ((D, listOf #[.int x0 t0, .int x1 t1, .int x2 t2, .int x3 t3] k) :: news) → (∀ p ∈ news, p.1 < D) → Q (.ref D) { s with heap := h', toks := tk }) :
    wpAny (model prog w) A (call (.type "list") [.bytes b t]) Q E s := by
  have hz : b.size = 4 := by rw [← ints_length, hb]; rfl
  refine list_bytes hh (by (first | lia | omega)) F N fun h' tk D acc k hi F' N' l => ?_
  rw [hz] at hi
  obtain ⟨l⟩ := acc
  obtain ⟨h1, h2⟩ := hi
  obtain ⟨p, q, r, u, rfl⟩ := len4 h1
  obtain ⟨t0, rfl⟩ := (h2 0 p rfl).is hb rfl
  obtain ⟨t1, rfl⟩ := (h2 1 q rfl).is hb rfl
  obtain ⟨t2, rfl⟩ := (h2 2 r rfl).is hb rfl
  obtain ⟨t3, rfl⟩ := (h2 3 u rfl).is hb rfl
  exact h h' tk D k t0 t1 t2 t3 F' N' ‹_›
theorem clip_in {n : Nat} {i : Int} (h0 : 0 ≤ i) (h1 : i ≤ n) : clipAt n i = i.toNat := by
  obtain ⟨k, rfl⟩ := Int.eq_ofNat_of_zero_le h0
  rw [show ((k : Int)) = (k : Int) from rfl, clipAt_nat]
  (first | lia | omega)
theorem slc {c : Array UInt8} {ks l : List Int} {lo hi : Int} {a n : Nat} (hc : bInts c = List.take (clipAt ks.length hi - clipAt ks.length lo) (List.drop (clipAt ks.length lo) ks))
    (h0 : 0 ≤ lo) (h1 : lo ≤ hi) (h2 : hi ≤ ks.length) (ha : a = lo.toNat) (hn : lo + n = hi) (hl : (ks.drop a).take n = l) : bInts c = l := by
  rw [hc, ← hl]
  rw [clip_in h0 (by (first | lia | omega)), clip_in (by (first | lia | omega)) h2, ha, show hi.toNat - lo.toNat = n from by (first | lia | omega)]
end
end
section
open PySem PySem.W PySem.Calls PySem.Spec PyProof.Rows
open Sem (wp)
theorem under_make {A : Around} {C : Addr} {pos : List Value} {kw : List (Str × Value)} (hh : A.handled = none) : ∃ fr gd, A.under (.builtin "type.__call__" ⟨.ref C :: pos, kw⟩) = AA (A.depth + 1) (A.units + 1) fr gd := by
  obtain ⟨h, d, f, g, u⟩ := A
  cases hh
  exact ⟨_, _, rfl⟩
theorem make_ct {w : World} {A : Around} {E : Value → Shared → Prop} {h0 : Heap} {gs : Array GenState} {dr : Drawn} {tk : Nat} {os : OsState} {Q : Value → Shared → Prop} {g : Heap} {L C fI : Addr} {m : Str → Option Value} {news : Objs} {pos : List Value} {kw : List (Str × Value)} (hh : A.handled = none) (F : Fr g L h0 m) (X : (KK w.params).In g) (N : News g L h0 news) (nd : (ads news).Nodup) (hm : makesIn (KK w.params) C = true) (hi : findIn (KK w.params) (.ref C) "__init__" = some (some (.ref fI))) (hf : isFn (KK w.params) (.ref fI) = true)
    (h : ∀ x dx h' fr gd, Fr g L h' m → News g L h' ((x, instObj C dx) :: (dx, dictOf [] 0) :: news) → (ads ((x, instObj C dx) :: (dx, dictOf [] 0) :: news)).Nodup → (∀ p ∈ news, p.1 < dx) → dx < x →
      codeAny (model PR w) (AA (A.depth + 1) (A.units + 1) fr gd) (.call (.ref fI) ⟨.ref x :: pos, kw⟩) (InitBack x fun r s' => match r with | .ok (.ret v) => Q v s' | .ok _ => False | .error e => E e s') ⟨h', gs, dr, tk, os⟩) :
    wpAny (model PR w) A (call (.ref C) pos kw) Q E ⟨h0, gs, dr, tk, os⟩ := by
  refine call_cls F X N hm hi hf fun x dx h' F' N' l1 l2 => ?_
  obtain ⟨fr, gd, e⟩ := under_make (A := A) (C := C) (pos := pos) (kw := kw) hh
  rw [e]
  refine h x dx h' fr gd F' N' ?_ l1 l2
  refine List.nodup_cons.mpr ⟨fun q => ?_, List.nodup_cons.mpr ⟨fun q => ?_, nd⟩⟩
  · rcases List.mem_cons.mp q with q | q
    · exact Nat.ne_of_gt l2 q
    · obtain ⟨o, ho⟩ := mem_ads q
      exact Nat.lt_irrefl _ (Nat.lt_trans (l1 _ ho) l2)
  · obtain ⟨o, ho⟩ := mem_ads q
    exact Nat.lt_irrefl _ (l1 _ ho)
theorem Pre.kin {w : World} {h : Heap} {objs : Objs} {T : List Fact} (P : Pre w h objs T) : (KK w.params).In h := by
  obtain ⟨_, _, _, _, g, X, _, k, _⟩ := P
  exact X.keeps k
end
section
open PySem PySem.W PySem.Calls PySem.Spec PyProof.Rows PyProof.V
open Sem (wp)
section
variable {prog : Program} {w : World} {A : Around} {E : Value → Shared → Prop} {s : Shared} {env : Env} {h₀ : Heap} {x : Str} {body : List Stmt} {Q : Flow → Shared → Prop}
theorem rngJ {r : Addr} {a₀ b₀ : Int} {t₀ u₀ v₀ : Tok} {n : Nat} {m₀ : Str → Option Value} {news : Objs} (J : Nat → (Str → Option Value) → Objs → Prop)
    (hh : A.handled = none) (hr : IsRange s.heap r a₀ b₀ 1 t₀ u₀ v₀) (hsmall : Builtin.Range.small a₀ b₀ 1 = true) (hn : Builtin.Range.rangeSize a₀ b₀ 1 = (n : Int)) (F : Fr h₀ env.locals s.heap m₀) (N : News h₀ env.locals s.heap news) (hj : J 0 m₀ news)
    (turn : ∀ (i : Nat) t m₁ nx h tk own, i < n → nx.map (·.1) = news.map (·.1) → OwnOff own (news.map (·.1)) → J i m₁ nx → Fr h₀ env.locals h (fun y => if y = x then some (.int (a₀ + (i : Int)) t) else m₁ y) → News h₀ env.locals h (nx ++ own) →
      wpAny (model prog w) A (execs body env) (InvPostN h₀ env.locals (J (i + 1)) own (news.map (·.1)) { s with heap := h, toks := tk } Q) E { s with heap := h, toks := tk })
    (done : ∀ m₁ nx h tk, J n m₁ nx → Fr h₀ env.locals h m₁ → News h₀ env.locals h nx → Q .next { s with heap := h, toks := tk }) :
    wpAny (model prog w) A (pyIter (.ref r)) (fun it s₂ => LoopAtV prog w A h₀ env x body Q E it s₂) E s := by
  refine wpAny_pyIter_range hr hsmall ?_
  have W : Walks prog w A s.heap.objs.size [s.heap.objs.size] [s.heap.objs.size] n (fun i v => i < n ∧ ∃ t, v = .int (a₀ + i * 1) t)
      (fun i h => IsRangeIter h s.heap.objs.size (a₀ + (i : Nat) * 1) ((n : Int) - (i : Nat)) 1) := (Walks.range hh _ a₀ 1 n).bound
  refine loop_invN J W ?_ ?_ ?_ ?_ (by show IsRangeIter _ _ _ _ _; rw [hn]; simpa using Heap.get?_push_size _ rfl) (F.push _) (fun p hp => ⟨Heap.get?_push_of_some _ (N p hp).1, (N p hp).2⟩) hj ?_ done
  · intro hm
    exact absurd F.ns.lt ((List.mem_singleton.mp hm) ▸ Nat.lt_irrefl _)
  · intro b hb
    rw [List.mem_singleton.mp hb]
    exact next_is_new F
  · intro p hp hI
    exact absurd (Heap.lt_size (N p hp).1) ((List.mem_singleton.mp hI) ▸ Nat.lt_irrefl _)
  · intro p hp hI
    exact absurd (Heap.lt_size (N p hp).1) ((List.mem_singleton.mp hI) ▸ Nat.lt_irrefl _)
  · rintro i v m₁ nx h tk own hi ⟨_, t, rfl⟩ hads hoff hJ F₁ N₁
    have e1 : a₀ + (i : Int) * 1 = a₀ + (i : Int) := by (first | lia | omega)
    rw [e1] at F₁
    exact turn i t m₁ nx h tk own hi hads hoff hJ F₁ N₁
theorem tplJ {ax : Addr} {lo : Obj} {vs : List Value} {nn : Nat} {n : Nat} {m₀ : Str → Option Value} {all news : Objs} (J : Nat → (Str → Option Value) → Objs → Prop)
    (hh : A.handled = none) (F : Fr h₀ env.locals s.heap m₀) (Na : News h₀ env.locals s.heap all) (hax : (ax, lo) ∈ all) (hc : lo.cls = .type "tuple") (hd : lo.data = .seq vs.toArray nn) (hn : vs.length = n)
    (N : News h₀ env.locals s.heap news) (hne : ∀ p ∈ news, p.1 ≠ ax) (hj : J 0 m₀ news)
    (turn : ∀ (i : Nat) v m₁ nx h tk own, vs[i]? = some v → nx.map (·.1) = news.map (·.1) → OwnOff own (news.map (·.1)) → J i m₁ nx → Fr h₀ env.locals h (fun y => if y = x then some v else m₁ y) → News h₀ env.locals h (nx ++ own) →
      wpAny (model prog w) A (execs body env) (InvPostN h₀ env.locals (J (i + 1)) own (news.map (·.1)) { s with heap := h, toks := tk } Q) E { s with heap := h, toks := tk })
    (done : ∀ m₁ nx h tk, J n m₁ nx → Fr h₀ env.locals h m₁ → News h₀ env.locals h nx → Q .next { s with heap := h, toks := tk }) :
    wpAny (model prog w) A (pyIter (.ref ax)) (fun it s₂ => LoopAtV prog w A h₀ env x body Q E it s₂) E s := by
  have hax' := Na _ hax
  have hl : s.heap.IsTuple ax vs.toArray := ⟨lo, hax'.1, hc, nn, hd⟩
  have hlt : ax < s.heap.objs.size := Heap.lt_size hax'.1
  have hne' : ax ≠ s.heap.objs.size := Nat.ne_of_lt hlt
  refine wpAny_pyIter_tuple hl ?_
  have W := Walks.tuple (prog := prog) (w := w) (A := A) hh s.heap.objs.size ax hne' vs.toArray
  have hsz : vs.toArray.size = n := by simpa using hn
  rw [hsz] at W
  refine loop_invN J W ?_ ?_ ?_ ?_ ⟨⟨_, Heap.get?_push_size _ rfl, rfl, rfl⟩, hl.at fun o e => Heap.get?_push_of_some _ e⟩ (F.push _) (fun p hp => ⟨Heap.get?_push_of_some _ (N p hp).1, (N p hp).2⟩) hj ?_ done
  · intro hm
    rcases List.mem_cons.mp hm with e | hm
    · exact absurd F.ns.lt (e ▸ Nat.lt_irrefl _)
    · exact hax'.2.1 (List.mem_singleton.mp hm).symm
  · intro b hb
    rw [List.mem_singleton.mp hb]
    exact next_is_new F
  · intro p hp hI
    exact absurd (Heap.lt_size (N p hp).1) ((List.mem_singleton.mp hI) ▸ Nat.lt_irrefl _)
  · intro p hp hI
    rcases List.mem_cons.mp hI with e | hI
    · exact absurd (Heap.lt_size (N p hp).1) (e ▸ Nat.lt_irrefl _)
    · exact hne p hp (List.mem_singleton.mp hI)
  · rintro i v m₁ nx h tk own hi hP hads hoff hJ F₁ N₁
    have hP' : vs[i]? = some v := by simpa using hP
    exact turn i v m₁ nx h tk own hP' hads hoff hJ F₁ N₁
noncomputable def AtX (x : Str) (m₀ m : Str → Option Value) : Prop := ∀ z, z ≠ x → m z = m₀ z
theorem AtX.refl {m₀ : Str → Option Value} : AtX x m₀ m₀ := fun _ _ => rfl
theorem AtX.fr {m₀ m : Str → Option Value} {g h : Heap} {L : Addr} {v : Option Value} (a : AtX x m₀ m) (F : Fr g L h (fun y => if y = x then v else m y)) : Fr g L h (fun y => if y = x then v else m₀ y) := by
  have e : (fun y => if y = x then v else m y) = fun y => if y = x then v else m₀ y := by
    funext y
    by_cases q : y = x
    · simp [q]
    · simp only [if_neg q]; exact a y q
  rw [← e]; exact F
theorem AtX.out {m₀ m : Str → Option Value} {g h : Heap} {L : Addr} (a : AtX x m₀ m) (F : Fr g L h m) : Fr g L h (fun y => if y = x then m x else m₀ y) := by
  have e : m = fun y => if y = x then m x else m₀ y := by
    funext y
    by_cases q : y = x
    · simp [q]
    · simp only [if_neg q]; exact a y q
  rw [← e]; exact F
theorem AtX.of {m₀ : Str → Option Value} {v : Option Value} : AtX x m₀ (fun y => if y = x then v else m₀ y) := fun z hz => if_neg hz
noncomputable def TabS (w : World) (d : Addr) (x : Str) (m₀ : Str → Option Value) (kvs : List (Int × Value)) (m : Str → Option Value) (nx : Objs) : Prop := ∃ o, nx = [(d, o)] ∧ AtX x m₀ m ∧ o.IsDictOf (PySem.intKind PR w) kvs
noncomputable def TabG (g : List (Int × Value) → Int → List (Int × Value)) : Prop := ∀ kvs k, (g kvs k).length ≤ kvs.length + 2
theorem tabFold_len {g : List (Int × Value) → Int → List (Int × Value)} (hg : TabG g) : ∀ (l : List Int) (kvs : List (Int × Value)), (l.foldl g kvs).length ≤ kvs.length + 2 * l.length
  | [], kvs => Nat.le_refl _
  | k :: l, kvs => by
    have h1 := tabFold_len hg l (g kvs k)
    have h2 := hg kvs k
    simp only [List.foldl_cons, List.length_cons]
    (first | lia | omega)
theorem tabT {ax d : Addr} {lo o : Obj} {vs : List Value} {ks : List Int} {nn : Nat} {m₀ : Str → Option Value} {all : Objs} {kvs : List (Int × Value)} (g : List (Int × Value) → Int → List (Int × Value)) (hg : TabG g)
    (hh : A.handled = none) (F : Fr h₀ env.locals s.heap m₀) (Na : News h₀ env.locals s.heap all) (hax : (ax, lo) ∈ all) (hc : lo.cls = .type "tuple") (hdd : lo.data = .seq vs.toArray nn) (hi : IntsAre vs ks)
    (hdm : (d, o) ∈ all) (hne : d ≠ ax) (hd : o.IsDictOf (PySem.intKind PR w) kvs) (hz : kvs.length + 2 * ks.length ≤ 2000)
    (turn : ∀ (k : Int) t o' kvs' h tk own, (∀ p ∈ own, p.1 ≠ d) → o'.IsDictOf (PySem.intKind PR w) kvs' → kvs'.length ≤ 2000 → Fr h₀ env.locals h (fun y => if y = x then some (.int k t) else m₀ y) → News h₀ env.locals h ((d, o') :: own) →
      wpAny (model prog w) A (execs body env) (InvPostN h₀ env.locals (TabS w d x m₀ (g kvs' k)) own [d] { s with heap := h, toks := tk } Q) E { s with heap := h, toks := tk })
    (done : ∀ u o' h tk, o'.IsDictOf (PySem.intKind PR w) (ks.foldl g kvs) → Fr h₀ env.locals h (fun y => if y = x then u else m₀ y) → News h₀ env.locals h [(d, o')] → Q .next { s with heap := h, toks := tk }) :
    wpAny (model prog w) A (pyIter (.ref ax)) (fun it s₂ => LoopAtV prog w A h₀ env x body Q E it s₂) E s := by
  refine tplJ (n := ks.length) (news := [(d, o)]) (fun i m nx => TabS w d x m₀ ((ks.take i).foldl g kvs) m nx) hh F Na hax hc hdd hi.length (fun p hp => Na p (by rw [List.mem_singleton.mp hp]; exact hdm)) (fun p hp => by rw [List.mem_singleton.mp hp]; exact hne) ⟨o, rfl, AtX.refl, hd⟩ ?_ ?_
  · rintro i v m₁ nx h tk own hv _ hoff ⟨o', rfl, ha, hd'⟩ F₁ N₁
    have hlt : i < vs.length := (List.getElem?_eq_some_iff.mp hv).1
    have hlt' : i < ks.length := by rw [← hi.length]; exact hlt
    obtain ⟨k, hk⟩ : ∃ k, ks[i]? = some k := ⟨_, List.getElem?_eq_getElem hlt'⟩
    obtain ⟨t, hx⟩ := hi.get i k hk
    rw [hv] at hx
    cases hx
    have hs : (ks.take (i + 1)).foldl g kvs = g ((ks.take i).foldl g kvs) k := by
      rw [List.take_add_one, hk]; simp
    rw [hs]
    refine turn k t o' _ h tk own (fun p hp => hoff p hp d (.head _)) hd' ?_ (ha.fr F₁) N₁
    have h1 := tabFold_len hg (ks.take i) kvs
    have h2 : (ks.take i).length ≤ ks.length := by rw [List.length_take]; (first | lia | omega)
    (first | lia | omega)
  · rintro m₁ nx h tk ⟨o', rfl, ha, hd'⟩ F₁ N₁
    rw [List.take_length] at hd'
    exact done (m₁ x) o' h tk hd' (ha.out F₁) N₁
theorem tabR {r d : Addr} {o : Obj} {a₀ b₀ : Int} {t₀ u₀ v₀ : Tok} {n : Nat} {m₀ : Str → Option Value} {all : Objs} {kvs : List (Int × Value)} (g : List (Int × Value) → Int → List (Int × Value)) (hg : TabG g)
    (hh : A.handled = none) (hr : IsRange s.heap r a₀ b₀ 1 t₀ u₀ v₀) (hsmall : Builtin.Range.small a₀ b₀ 1 = true) (hn : Builtin.Range.rangeSize a₀ b₀ 1 = (n : Int)) (F : Fr h₀ env.locals s.heap m₀) (Na : News h₀ env.locals s.heap all)
    (hdm : (d, o) ∈ all) (hd : o.IsDictOf (PySem.intKind PR w) kvs) (hz : kvs.length + 2 * n ≤ 2000)
    (turn : ∀ (k : Int) t o' kvs' h tk own, (∀ p ∈ own, p.1 ≠ d) → o'.IsDictOf (PySem.intKind PR w) kvs' → kvs'.length ≤ 2000 → Fr h₀ env.locals h (fun y => if y = x then some (.int k t) else m₀ y) → News h₀ env.locals h ((d, o') :: own) →
      wpAny (model prog w) A (execs body env) (InvPostN h₀ env.locals (TabS w d x m₀ (g kvs' k)) own [d] { s with heap := h, toks := tk } Q) E { s with heap := h, toks := tk })
    (done : ∀ u o' h tk, o'.IsDictOf (PySem.intKind PR w) ((rangeKs a₀ n).foldl g kvs) → Fr h₀ env.locals h (fun y => if y = x then u else m₀ y) → News h₀ env.locals h [(d, o')] → Q .next { s with heap := h, toks := tk }) :
    wpAny (model prog w) A (pyIter (.ref r)) (fun it s₂ => LoopAtV prog w A h₀ env x body Q E it s₂) E s := by
  refine rngJ (news := [(d, o)]) (fun i m nx => TabS w d x m₀ (((rangeKs a₀ n).take i).foldl g kvs) m nx) hh hr hsmall hn F (fun p hp => Na p (by rw [List.mem_singleton.mp hp]; exact hdm)) ⟨o, rfl, AtX.refl, hd⟩ ?_ ?_
  · rintro i t m₁ nx h tk own hi _ hoff ⟨o', rfl, ha, hd'⟩ F₁ N₁
    have hk' : (rangeKs a₀ n)[i]? = some (a₀ + (i : Int)) := by simp [rangeKs, hi]
    have hs : ((rangeKs a₀ n).take (i + 1)).foldl g kvs = g (((rangeKs a₀ n).take i).foldl g kvs) (a₀ + (i : Int)) := by
      rw [List.take_add_one, hk']; simp
    rw [hs]
    refine turn _ t o' _ h tk own (fun p hp => hoff p hp d (.head _)) hd' ?_ (ha.fr F₁) N₁
    have h1 := tabFold_len hg ((rangeKs a₀ n).take i) kvs
    have h2 : ((rangeKs a₀ n).take i).length ≤ n := by rw [List.length_take]; (first | lia | omega)
    (first | lia | omega)
  · rintro m₁ nx h tk ⟨o', rfl, ha, hd'⟩ F₁ N₁
    rw [List.take_of_length_le (Nat.le_of_eq (rangeKs_length _ _))] at hd'
    exact done (m₁ x) o' h tk hd' (ha.out F₁) N₁
end
theorem tab_end {w : World} {d : Addr} {x : Str} {m₀ m' : Str → Option Value} {kvs : List (Int × Value)} {g : Heap} {L : Addr} {own : Objs} {o' : Obj} {s₁ : Shared} {h' : Heap} {tk : Nat} (F : Fr g L h' m') (N : News g L h' ((d, o') :: own)) (ha : AtX x m₀ m') (hd : o'.IsDictOf (PySem.intKind PR w) kvs) :
    InvEndN g L (TabS w d x m₀ kvs) own [d] s₁ { s₁ with heap := h', toks := tk } :=
  InvEndN.intro (nx := [(d, o')]) F N ⟨o', rfl, ha, hd⟩ rfl (fun p hp => by rw [List.mem_singleton.mp hp]; exact .head _) (fun p hp => .tail _ hp)
section
variable {w : World} {A : Around} {E : Value → Shared → Prop} {s : Shared} {g : Heap} {L d e : Addr} {m : Str → Option Value} {o o2 : Obj} {kvs kvs2 : List (Int × Value)}
theorem upd_K {own rest : Objs} {Q : Value → Shared → Prop} (F : Fr g L s.heap m) (N : News g L s.heap ((d, o) :: rest)) (nd : (ads ((d, o) :: rest)).Nodup) (h2 : (e, o2) ∈ rest) (hd : o.IsDictOf (PySem.intKind PR w) kvs) (hd2 : o2.IsDictOf (PySem.intKind PR w) kvs2) (lo : (e == sysModules) = false) (hsz : kvs.length + kvs2.length ≤ 2000)
    (h : ∀ h' o', Fr g L h' m → News g L h' ((d, o') :: rest) → o'.IsDictOf (PySem.intKind PR w) (merged kvs kvs2) → Q .none { s with heap := h' }) : wpAny (model PR w) A (call (.builtin "dict.update") [.ref d, .ref e]) Q E s := by
  have hm := N (d, o) (.head _)
  have hD : s.heap.DictOf (PySem.intKind PR w) d kvs := Heap.dictOf_iff.mpr ⟨o, hm.1, hd⟩
  have hD2 : s.heap.DictOf (PySem.intKind PR w) e kvs2 := Heap.dictOf_iff.mpr ⟨o2, (N _ (.tail _ h2)).1, hd2⟩
  have ndd := List.nodup_cons.mp nd
  have hne : d ≠ e := fun q => ndd.1 (by have z := ads_mem h2; rw [← q] at z; exact z)
  refine call_meetsIn PySem.F.slot_dict_update hD.typeIs PySem.F.entry_dict_update (PySem.F.args_dict_update_2 _ _) (meets_dict_update _ d e hne lo)
    ⟨kvs, kvs2, hD, hD2, (by rw [sizeLine_eq]; (first | lia | omega)), fun h' hmm _ hs => ?_⟩
  obtain ⟨o', ho', hd'⟩ := Heap.dictOf_iff.mp hmm
  exact h h' o' (F.change hs hm.2.1 hm.2.2) (News.setIn (own := []) (rest := rest) N (fun p hp => (nomatch hp)) (fun p hp q => ndd.1 (by have z := ads_mem hp; rw [q] at z; exact z)) hs ho') hd'
theorem dictof_K {all : Objs} {Q : Value → Shared → Prop} (F : Fr g L s.heap m) (N : News g L s.heap all) (hbig : g.NoLimit) (he : (e, o) ∈ all) (hd : o.IsDictOf (PySem.intKind PR w) kvs) (lo : (e == sysModules) = false) (hsz : kvs.length ≤ 2000)
    (h : ∀ D h' o', Fr g L h' m → News g L h' ((D, o') :: all) → (∀ p ∈ all, p.1 < D) → (D == sysModules) = false → o'.IsDictOf (PySem.intKind PR w) kvs → Q (.ref D) { s with heap := h' }) : wpAny (model PR w) A (call (.type "dict") [.ref e]) Q E s := by
  have hD : s.heap.DictOf (PySem.intKind PR w) e kvs := Heap.dictOf_iff.mpr ⟨o, (N _ he).1, hd⟩
  refine kt_call_dict lo hD (by rw [sizeLine_eq]; (first | lia | omega)) fun h' hm hs => ?_
  obtain ⟨o', ho', hd'⟩ := Heap.dictOf_iff.mp hm
  have N1 := News.push F N { cls := .type "dict", data := .dict #[] }
  exact h _ h' o' ((F.push _).change hs (N1 _ (.head _)).2.1 (N1.fresh (.head _))) (N1.setHead N.apart hs ho') (fun p hp => Heap.lt_size (N p hp).1) (F.notModules (modules_low hbig)) hd'
end
end
section
open PySem PySem.W PySem.Calls PySem.Spec PyProof.Rows PyProof.V
open Sem (wp)
theorem fold_ {α : Type} {M : Model} {A : Around} {t : Sem α} {Q : α → Shared → Prop} {E : Value → Shared → Prop} {s : Shared} (h : let q := Q; let e := E; wpAny M A t q e s) : wpAny M A t Q E s := h
noncomputable def Ev (M : Model) (A : Around) (env : Env) (h : Heap) (e : Expr) (v : Tok → Value) (k : Nat) : Prop :=
  ∀ (Q E : Value → Shared → Prop) (s : Shared), s.heap = h → Q (v s.toks) { s with toks := s.toks + k } → wpAny M A (eval e env) Q E s
noncomputable def Evs (M : Model) (A : Around) (env : Env) (h : Heap) (es : List Expr) (vs : Tok → List Value) (k : Nat) : Prop :=
  ∀ (Q : List Value → Shared → Prop) (E : Value → Shared → Prop) (pos : Pos) (s : Shared), s.heap = h → Q (vs s.toks) { s with toks := s.toks + k } → wpAny M A (spliced (backTo pos (starEach es env))) Q E s
noncomputable def nmLoc (env : Env) (x : Str) : Bool := decide (env.scope.kind = .function) && decide (env.kindOf x = some .local) && !(x == ("__debug__" : Str))
noncomputable def nmGlo (env : Env) (x : Str) : Bool := decide (env.scope.kind = .function) && decide (env.kindOf x = some .globalImplicit) && !(x == ("__debug__" : Str))
structure Own (K : Frag) (C : Addr) (nm : Str) : Prop where
  g : plainGet K C nm = true
  hh : hasDictIn K C = true
  ha : ∃ attr, findIn K (.ref C) nm = some attr ∧ noGet K attr = true
structure Meth (K : Frag) (C : Addr) (nm : Str) (f : Addr) : Prop where
  g : plainGet K C nm = true
  hf : findIn K (.ref C) nm = some (some (.ref f))
  ht : isFn K (.ref f) = true
  hk : keepIn K (.ref f) = true
theorem Own.mk' {K : Frag} {C : Addr} {nm : Str} {attr : Option Value} (g : plainGet K C nm = true) (hh : hasDictIn K C = true) (ha : findIn K (.ref C) nm = some attr) (hn : noGet K attr = true) : Own K C nm := ⟨g, hh, attr, ha, hn⟩
section
variable {w : World} {M : Model} {A : Around} {E : Value → Shared → Prop} {Q : Value → Shared → Prop} {s : Shared} {g h : Heap} {L a : Addr} {m mg mb : Str → Option Value} {cn : Str} {cs : Scope} {ccd : Value} {cl : List (Str × Addr)} {env : Env} {e e1 e2 : Expr} {es : List Expr} {v : Tok → Value} {vs : Tok → List Value} {k k1 k2 : Nat} {x nm : Str} {pos xp apos : Pos} {news : Objs}
theorem Ev.use {gs : Array GenState} {dr : Drawn} {tk : Nat} {os : OsState} (x : Ev M A env h e v k) (hq : Q (v tk) ⟨h, gs, dr, tk + k, os⟩) : wpAny M A (eval e env) Q E ⟨h, gs, dr, tk, os⟩ := x Q E ⟨h, gs, dr, tk, os⟩ rfl hq
theorem Ev.nameL {u : Value} (F : Fr g L h m) (hv : some u = m x) (hc : true = nmLoc (envX cn cs L a ccd cl) x) : Ev M A (envX cn cs L a ccd cl) h (.Name x pos) (fun _ => u) 0 := by
  intro Q E s hs hq
  subst hs
  simp only [nmLoc, Bool.true_eq, Bool.and_eq_true, decide_eq_true_eq, Bool.not_eq_true'] at hc
  exact nameX_L F hv.symm hq hc.1.1 hc.1.2 hc.2
theorem Ev.nameK {K : Frag} {p : Program} {loose : List Str} {mean : ExcName → Option Value} {u : Value} (F : Fr g L h m) (X : K.In g) (T : Top p loose mean mg mb g) (hv : nsIn K mainGlobals x = some (some u)) (hc : true = nmGlo (envX cn cs L a ccd cl) x) : Ev M A (envX cn cs L a ccd cl) h (.Name x pos) (fun _ => u) 0 := by
  intro Q E s hs hq
  subst hs
  simp only [nmGlo, Bool.true_eq, Bool.and_eq_true, decide_eq_true_eq, Bool.not_eq_true'] at hc
  exact nameX_K F X (topRead_of T) hv hq hc.1.1 hc.1.2 hc.2
theorem Ev.int {i : Int} {kk : Nat} : Ev M A env h (.Constant (.int i) kk pos) (fun t => .int i t) 1 := fun Q E s hs hq => wpAny_Constant_int hq
theorem Ev.bool {i : Bool} {kk : Nat} : Ev M A env h (.Constant (.bool i) kk pos) (fun t => .bool i) 0 := fun Q E s hs hq => Constant_bool hq
theorem Ev.str {i : Str} {kk : Nat} : Ev M A env h (.Constant (.str i) kk pos) (fun t => .str i t) 1 := fun Q E s hs hq => Constant_str hq
theorem Ev.own {o : Expr} {y C dx : Addr} {n : Nat} {en' : List DictEntry} {u : Value} (h1 : Ev (model PR w) A env h o (fun _ => .ref y) k) (F : Fr g L h m) (X : (KK w.params).In g) (I : InstAt h y (instObj C dx) C (some (dictOf en' n))) (O : Own (KK w.params) C nm) (hl : getL nm en' = some (some u)) (hv : handedIn u = true)
    (he : eval (.Attribute o nm pos) env = (do
      let o' ← eval o env
      standAt pos.atName
      let r ← holding [o'] (getAttr o' nm true)
      letTemporaryGo o o' r
      pure r)) : Ev (model PR w) A env h (.Attribute o nm pos) (fun _ => u) (k + 1) := by
  intro Q E s hs hq
  refine Attribute_any_ (h1 _ _ s hs ?_) he
  obtain ⟨at', hf, hn⟩ := O.ha
  subst hs
  exact get_own (s := { s with toks := s.toks + k }) F X I O.g O.hh hf hn hl hv hq
theorem Ev.sub {t : Addr} {l : List Value} {n : Int} {u : Tok → Tok} {y : Value} (h1 : Ev (model PR w) A env h e1 (fun _ => .ref t) k1) (h2 : Ev (model PR w) A env h e2 (fun t => .int n (u t)) k2) (ht : IsTup h t l.toArray) (h0 : 0 ≤ n) (hhi : n < 2 ^ 63) (hx : some y = l[n.toNat]?)
    (hs : ∀ z, subscripted e2 false (.ref t) (.int n z) = operate [.ref t, .int n z] (getItem (.ref t) (.int n z))) : Ev (model PR w) A env h (.Subscript e1 e2 pos) (fun _ => y) (k1 + k2) := by
  intro Q E s hss hq
  refine Subscript_ (h1 _ _ s hss (h2 _ _ _ hss ?_))
  subst hss
  have hq' : Q y { s with toks := s.toks + k1 + k2 } := by rw [Nat.add_assoc]; exact hq
  obtain ⟨n', rfl⟩ := Int.eq_ofNat_of_zero_le h0
  have hlt : n' < l.length := by
    have := hx.symm
    exact (List.getElem?_eq_some_iff.mp this).1
  exact item_tupleT (s := { s with toks := s.toks + k1 + k2 }) (j := n') ht (by (first | lia | omega)) hhi (by unfold seqIndex?; rw [if_neg (show ¬ ((n' : Int) < 0) by (first | lia | omega))]; simp [hlt]) hx.symm hq' (hs _)
theorem Ev.subL {t : Addr} {l : List Value} {n : Int} {u : Tok → Tok} {y : Value} (h1 : Ev (model PR w) A env h e1 (fun _ => .ref t) k1) (h2 : Ev (model PR w) A env h e2 (fun t => .int n (u t)) k2) (ht : h.IsList t l.toArray) (h0 : 0 ≤ n) (hhi : n < 2 ^ 63) (hx : some y = l[n.toNat]?)
    (hs : ∀ z, subscripted e2 false (.ref t) (.int n z) = operate [.ref t, .int n z] (getItem (.ref t) (.int n z))) : Ev (model PR w) A env h (.Subscript e1 e2 pos) (fun _ => y) (k1 + k2) := by
  intro Q E s hss hq
  refine Subscript_ (h1 _ _ s hss (h2 _ _ _ hss ?_))
  subst hss
  have hq' : Q y { s with toks := s.toks + k1 + k2 } := by rw [Nat.add_assoc]; exact hq
  exact item_L (s := { s with toks := s.toks + k1 + k2 }) ht h0 hhi hx.symm hq' (hs _)
theorem Ev.add {i j : Int} {u1 u2 : Tok → Tok} (h1 : Ev (model PR w) A env h e1 (fun t => .int i (u1 t)) k1) (h2 : Ev (model PR w) A env h e2 (fun t => .int j (u2 t)) k2) : Ev (model PR w) A env h (.BinOp e1 .Add e2 pos) (fun t => .int (i + j) (t + (k1 + k2))) (k1 + k2 + 1) := by
  intro Q E s hss hq
  refine wpAny_BinOp (h1 _ _ s hss (h2 _ _ _ hss (PyProof.Rows.add_int ?_)))
  simp only [Nat.add_assoc] at hq ⊢
  exact hq
theorem Ev.subi {i j : Int} {u1 u2 : Tok → Tok} (h1 : Ev (model PR w) A env h e1 (fun t => .int i (u1 t)) k1) (h2 : Ev (model PR w) A env h e2 (fun t => .int j (u2 t)) k2) : Ev (model PR w) A env h (.BinOp e1 .Sub e2 pos) (fun t => .int (i - j) (t + (k1 + k2))) (k1 + k2 + 1) := by
  intro Q E s hss hq
  refine wpAny_BinOp (h1 _ _ s hss (h2 _ _ _ hss (PyProof.Rows.sub_int ?_)))
  simp only [Nat.add_assoc] at hq ⊢
  exact hq
theorem Ev.mul {i j : Int} {u1 u2 : Tok → Tok} (h1 : Ev (model PR w) A env h e1 (fun t => .int i (u1 t)) k1) (h2 : Ev (model PR w) A env h e2 (fun t => .int j (u2 t)) k2) (hm : IntMulOk i j) : Ev (model PR w) A env h (.BinOp e1 .Mult e2 pos) (fun t => .int (i * j) (t + (k1 + k2))) (k1 + k2 + 1) := by
  intro Q E s hss hq
  refine wpAny_BinOp (h1 _ _ s hss (h2 _ _ _ hss (PyProof.Rows.mul_int (hm := hm) ?_)))
  simp only [Nat.add_assoc] at hq ⊢
  exact hq
theorem Ev.fdiv {i j : Int} {u1 u2 : Tok → Tok} (h1 : Ev (model PR w) A env h e1 (fun t => .int i (u1 t)) k1) (h2 : Ev (model PR w) A env h e2 (fun t => .int j (u2 t)) k2) (hb : j ≠ 0) (hn : j.natAbs < 1073741824) : Ev (model PR w) A env h (.BinOp e1 .FloorDiv e2 pos) (fun t => .int (i.fdiv j) (t + (k1 + k2))) (k1 + k2 + 1) := by
  intro Q E s hss hq
  refine wpAny_BinOp (h1 _ _ s hss (h2 _ _ _ hss (PyProof.Rows.floordiv_int hb ?_ (Or.inl (PyProof.noPylong_small hn)))))
  simp only [Nat.add_assoc] at hq ⊢
  exact hq
theorem Ev.fmod {i j : Int} {u1 u2 : Tok → Tok} (h1 : Ev (model PR w) A env h e1 (fun t => .int i (u1 t)) k1) (h2 : Ev (model PR w) A env h e2 (fun t => .int j (u2 t)) k2) (hb : j ≠ 0) : Ev (model PR w) A env h (.BinOp e1 .Mod e2 pos) (fun t => .int (i.fmod j) (t + (k1 + k2))) (k1 + k2 + 1) := by
  intro Q E s hss hq
  refine wpAny_BinOp (h1 _ _ s hss (h2 _ _ _ hss (PyProof.Rows.mod_int' hb ?_)))
  simp only [Nat.add_assoc] at hq ⊢
  exact hq
theorem tst_lt {i j : Int} {u1 u2 : Tok → Tok} {whole : Sem Value} {gs : Array GenState} {dr : Drawn} {tk : Nat} {os : OsState} {QB : Bool → Shared → Prop} (h1 : Ev (model PR w) A env h e1 (fun t => .int i (u1 t)) k1) (h2 : Ev (model PR w) A env h e2 (fun t => .int j (u2 t)) k2) (hm : false = behindInMarks .Lt e2) (hq : QB (decide (i < j)) ⟨h, gs, dr, tk + (k1 + k2), os⟩) : wpAny (model PR w) A (isTrue (.Compare e1 [.Lt] [e2] pos) env whole) QB E ⟨h, gs, dr, tk, os⟩ := by
  refine wpAny_isTrue_Compare1 (h1 _ _ ⟨h, gs, dr, tk, os⟩ rfl (h2 _ _ _ rfl (PySem.P.lt_int ?_))) hm.symm
  rw [← Nat.add_assoc] at hq
  exact fun _ _ _ => hq
theorem tst_le {i j : Int} {u1 u2 : Tok → Tok} {whole : Sem Value} {gs : Array GenState} {dr : Drawn} {tk : Nat} {os : OsState} {QB : Bool → Shared → Prop} (h1 : Ev (model PR w) A env h e1 (fun t => .int i (u1 t)) k1) (h2 : Ev (model PR w) A env h e2 (fun t => .int j (u2 t)) k2) (hm : false = behindInMarks .LtE e2) (hq : QB (decide (i ≤ j)) ⟨h, gs, dr, tk + (k1 + k2), os⟩) : wpAny (model PR w) A (isTrue (.Compare e1 [.LtE] [e2] pos) env whole) QB E ⟨h, gs, dr, tk, os⟩ := by
  refine wpAny_isTrue_Compare1 (h1 _ _ ⟨h, gs, dr, tk, os⟩ rfl (h2 _ _ _ rfl (PySem.P.le_int ?_))) hm.symm
  rw [← Nat.add_assoc] at hq
  exact fun _ _ _ => hq
theorem tst_gt {i j : Int} {u1 u2 : Tok → Tok} {whole : Sem Value} {gs : Array GenState} {dr : Drawn} {tk : Nat} {os : OsState} {QB : Bool → Shared → Prop} (h1 : Ev (model PR w) A env h e1 (fun t => .int i (u1 t)) k1) (h2 : Ev (model PR w) A env h e2 (fun t => .int j (u2 t)) k2) (hm : false = behindInMarks .Gt e2) (hq : QB (decide (i > j)) ⟨h, gs, dr, tk + (k1 + k2), os⟩) : wpAny (model PR w) A (isTrue (.Compare e1 [.Gt] [e2] pos) env whole) QB E ⟨h, gs, dr, tk, os⟩ := by
  refine wpAny_isTrue_Compare1 (h1 _ _ ⟨h, gs, dr, tk, os⟩ rfl (h2 _ _ _ rfl (PySem.P.gt_int ?_))) hm.symm
  rw [← Nat.add_assoc] at hq
  exact fun _ _ _ => hq
theorem tst_ge {i j : Int} {u1 u2 : Tok → Tok} {whole : Sem Value} {gs : Array GenState} {dr : Drawn} {tk : Nat} {os : OsState} {QB : Bool → Shared → Prop} (h1 : Ev (model PR w) A env h e1 (fun t => .int i (u1 t)) k1) (h2 : Ev (model PR w) A env h e2 (fun t => .int j (u2 t)) k2) (hm : false = behindInMarks .GtE e2) (hq : QB (decide (i ≥ j)) ⟨h, gs, dr, tk + (k1 + k2), os⟩) : wpAny (model PR w) A (isTrue (.Compare e1 [.GtE] [e2] pos) env whole) QB E ⟨h, gs, dr, tk, os⟩ := by
  refine wpAny_isTrue_Compare1 (h1 _ _ ⟨h, gs, dr, tk, os⟩ rfl (h2 _ _ _ rfl (PySem.P.ge_int ?_))) hm.symm
  rw [← Nat.add_assoc] at hq
  exact fun _ _ _ => hq
theorem tst_eq {i j : Int} {u1 u2 : Tok → Tok} {whole : Sem Value} {gs : Array GenState} {dr : Drawn} {tk : Nat} {os : OsState} {QB : Bool → Shared → Prop} (h1 : Ev (model PR w) A env h e1 (fun t => .int i (u1 t)) k1) (h2 : Ev (model PR w) A env h e2 (fun t => .int j (u2 t)) k2) (hm : false = behindInMarks .Eq e2) (hq : QB (i == j) ⟨h, gs, dr, tk + (k1 + k2), os⟩) : wpAny (model PR w) A (isTrue (.Compare e1 [.Eq] [e2] pos) env whole) QB E ⟨h, gs, dr, tk, os⟩ := by
  refine wpAny_isTrue_Compare1 (h1 _ _ ⟨h, gs, dr, tk, os⟩ rfl (h2 _ _ _ rfl (PySem.P.eq_int ?_))) hm.symm
  rw [← Nat.add_assoc] at hq
  exact fun _ _ _ => hq
theorem tst_ne {i j : Int} {u1 u2 : Tok → Tok} {whole : Sem Value} {gs : Array GenState} {dr : Drawn} {tk : Nat} {os : OsState} {QB : Bool → Shared → Prop} (h1 : Ev (model PR w) A env h e1 (fun t => .int i (u1 t)) k1) (h2 : Ev (model PR w) A env h e2 (fun t => .int j (u2 t)) k2) (hm : false = behindInMarks .NotEq e2) (hq : QB (i != j) ⟨h, gs, dr, tk + (k1 + k2), os⟩) : wpAny (model PR w) A (isTrue (.Compare e1 [.NotEq] [e2] pos) env whole) QB E ⟨h, gs, dr, tk, os⟩ := by
  refine wpAny_isTrue_Compare1 (h1 _ _ ⟨h, gs, dr, tk, os⟩ rfl (h2 _ _ _ rfl (PySem.P.ne_int ?_))) hm.symm
  rw [← Nat.add_assoc] at hq
  exact fun _ _ _ => hq
theorem Ev.neg1 {i : Int} {u1 : Tok → Tok} (h1 : Ev (model PR w) A env h e1 (fun t => .int i (u1 t)) k1) : True := trivial
theorem Evs.nil : Evs M A env h [] (fun _ => []) 0 := fun Q E pos s hs hq => args_nil hq
theorem Evs.cons (h1 : Ev M A env h e v k1) (h2 : Evs M A env h es vs k2) (he : starEach (e :: es) env = (false, eval e env) :: starEach es env) : Evs M A env h (e :: es) (fun t => v t :: vs (t + k1)) (k1 + k2) := by
  intro Q E pos s hs hq
  refine args_cons (h1 _ _ s hs (h2 _ _ _ _ hs ?_)) he
  simp only [Nat.add_assoc] at hq ⊢
  exact hq
theorem cw_one {f : Addr} {first : List Value} {rest : List Expr} {X : (KK w.params).In h} (hk : keepIn (KK w.params) (.ref f) = true) (hv : Evs (model PR w) A env h (e :: rest) vs k) (he : starEach (e :: rest) env = (false, eval e env) :: starEach rest env) (hp : true = !((backTo pos (starEach rest env)).any (·.1))) (hs : s.heap = h)
    (hq : wpAny (model PR w) A (call (.ref f) (first ++ vs s.toks)) Q E { s with toks := s.toks + k }) : wpAny (model PR w) A (callWith pos (.ref f) first (backTo pos (starEach (e :: rest) env)) []) Q E s := by
  subst hs
  exact callWith_K X hk (hv _ _ _ _ rfl ⟨X, hq⟩) he (by rw [Bool.true_eq, Bool.not_eq_true'] at hp; exact hp)
theorem call_nm {gs : Array GenState} {dr : Drawn} {tk : Nat} {os : OsState} {p : Program} {loose : List Str} {mean : ExcName → Option Value} {f : Addr} {rest : List Expr} (F : Fr g L h m) (X : (KK w.params).In g) (T : Top p loose mean mg mb g) (hv : nsIn (KK w.params) mainGlobals x = some (some (.ref f))) (hc : true = nmGlo (envX cn cs L a ccd cl) x) (hk : keepIn (KK w.params) (.ref f) = true)
    (ha : Evs (model PR w) A (envX cn cs L a ccd cl) h (e :: rest) vs k) (h1 : starEach (e :: rest) (envX cn cs L a ccd cl) = (false, eval e (envX cn cs L a ccd cl)) :: starEach rest (envX cn cs L a ccd cl)) (hp : true = !((backTo pos (starEach rest (envX cn cs L a ccd cl))).any (·.1)))
    (he : eval (.Call (.Name x xp) (e :: rest) [] pos) (envX cn cs L a ccd cl) = (do callWith pos (← eval (.Name x xp) (envX cn cs L a ccd cl)) [] (backTo pos (starEach (e :: rest) (envX cn cs L a ccd cl))) (backToKw pos (keywordEach [] (envX cn cs L a ccd cl)))))
    (hq : wpAny (model PR w) A (call (.ref f) (vs tk)) Q E ⟨h, gs, dr, tk + k, os⟩) : wpAny (model PR w) A (eval (.Call (.Name x xp) (e :: rest) [] pos) (envX cn cs L a ccd cl)) Q E ⟨h, gs, dr, tk, os⟩ :=
  Call_ (Ev.nameK F X T hv hc _ _ ⟨h, gs, dr, tk, os⟩ rfl (cw_one (s := ⟨h, gs, dr, tk, os⟩) (first := []) (X := X.keeps F.keep) hk ha h1 hp rfl hq)) he
theorem call_nm0 {gs : Array GenState} {dr : Drawn} {tk : Nat} {os : OsState} {p : Program} {loose : List Str} {mean : ExcName → Option Value} {f : Addr} (F : Fr g L h m) (X : (KK w.params).In g) (T : Top p loose mean mg mb g) (hv : nsIn (KK w.params) mainGlobals x = some (some (.ref f))) (hc : true = nmGlo (envX cn cs L a ccd cl) x) (hk : keepIn (KK w.params) (.ref f) = true)
    (he : eval (.Call (.Name x xp) [] [] pos) (envX cn cs L a ccd cl) = (do callWith pos (← eval (.Name x xp) (envX cn cs L a ccd cl)) [] (backTo pos (starEach [] (envX cn cs L a ccd cl))) (backToKw pos (keywordEach [] (envX cn cs L a ccd cl)))))
    (hq : wpAny (model PR w) A (call (.ref f) []) Q E ⟨h, gs, dr, tk, os⟩) : wpAny (model PR w) A (eval (.Call (.Name x xp) [] [] pos) (envX cn cs L a ccd cl)) Q E ⟨h, gs, dr, tk, os⟩ :=
  Call_ (Ev.nameK F X T hv hc _ _ ⟨h, gs, dr, tk, os⟩ rfl (callWith_K0 (X.keeps F.keep) hk hq)) he
theorem call_mt {gs : Array GenState} {dr : Drawn} {tk : Nat} {os : OsState} {o : Expr} {y C dx f : Addr} {n k0 : Nat} {en' : List DictEntry} {pl : Sem Bool} {rest : List Expr} (h0 : Ev (model PR w) A env h o (fun _ => .ref y) k0) (F : Fr g L h m) (X : (KK w.params).In g) (I : InstAt h y (instObj C dx) C (some (dictOf en' n))) (O : Meth (KK w.params) C nm f) (hl : getL nm en' = some none)
    (ha : Evs (model PR w) A env h (e :: rest) vs k) (h1 : starEach (e :: rest) env = (false, eval e env) :: starEach rest env) (hp : true = !((backTo pos (starEach rest env)).any (·.1)))
    (he : eval (.Call (.Attribute o nm apos) (e :: rest) [] pos) env = (do
      let ov ← eval o env
      standAt apos.atName
      let (f, first) ← holding [ov] (getMethod ov nm pl)
      callWith pos f first (backTo pos (starEach (e :: rest) env)) []))
    (hq : wpAny (model PR w) A (call (.ref f) (.ref y :: vs (tk + k0))) Q E ⟨h, gs, dr, tk + k0 + k, os⟩) : wpAny (model PR w) A (eval (.Call (.Attribute o nm apos) (e :: rest) [] pos) env) Q E ⟨h, gs, dr, tk, os⟩ :=
  MethodCall_ (h0 _ _ ⟨h, gs, dr, tk, os⟩ rfl (method_inst (s := ⟨h, gs, dr, tk + k0, os⟩) F X I O.g O.hf O.ht hl (cw_one (s := ⟨h, gs, dr, tk + k0, os⟩) (first := [.ref y]) (X := X.keeps F.keep) O.hk ha h1 hp rfl hq))) he
theorem call_mt0 {gs : Array GenState} {dr : Drawn} {tk : Nat} {os : OsState} {o : Expr} {y C dx f : Addr} {n k0 : Nat} {en' : List DictEntry} {pl : Sem Bool} (h0 : Ev (model PR w) A env h o (fun _ => .ref y) k0) (F : Fr g L h m) (X : (KK w.params).In g) (I : InstAt h y (instObj C dx) C (some (dictOf en' n))) (O : Meth (KK w.params) C nm f) (hl : getL nm en' = some none)
    (he : eval (.Call (.Attribute o nm apos) [] [] pos) env = (do
      let ov ← eval o env
      standAt apos.atName
      let (f, first) ← holding [ov] (getMethod ov nm pl)
      callWith pos f first (backTo pos (starEach [] env)) []))
    (hq : wpAny (model PR w) A (call (.ref f) [.ref y]) Q E ⟨h, gs, dr, tk + k0, os⟩) : wpAny (model PR w) A (eval (.Call (.Attribute o nm apos) [] [] pos) env) Q E ⟨h, gs, dr, tk, os⟩ :=
  MethodCall_ (h0 _ _ ⟨h, gs, dr, tk, os⟩ rfl (method_inst (s := ⟨h, gs, dr, tk + k0, os⟩) F X I O.g O.hf O.ht hl (callWith_K0 (X.keeps F.keep) O.hk hq))) he
theorem storeX_Lq {gs : Array GenState} {dr : Drawn} {tk : Nat} {os : OsState} {QU : Unit → Shared → Prop} {u : Value} (F : Fr g L h m) (N : News g L h news) (hc : true = nmLoc (envX cn cs L a ccd cl) x)
    (hq : let qm := fun y => if y = x then some u else m y; let qt := tk + 1; ∀ h', Fr g L h' qm → News g L h' news → QU () ⟨h', gs, dr, qt, os⟩) : wpAny M A (storeName (envX cn cs L a ccd cl) x u) QU E ⟨h, gs, dr, tk, os⟩ := by
  simp only [nmLoc, Bool.true_eq, Bool.and_eq_true, decide_eq_true_eq, Bool.not_eq_true'] at hc
  exact storeX_L (s := ⟨h, gs, dr, tk, os⟩) F N (fun h' F' N' => hq h' F' N') hc.1.1 hc.1.2
theorem asg_nm {gs : Array GenState} {dr : Drawn} {tk : Nat} {os : OsState} {QF : Flow → Shared → Prop} (F : Fr g L h m) (N : News g L h news) (h1 : Ev M A (envX cn cs L a ccd cl) h e v k) (hc : true = nmLoc (envX cn cs L a ccd cl) x) (hs : swapsWith e (some (.Name x xp)) pos.line (envX cn cs L a ccd cl) = pure false)
    (hq : let qm := fun y => if y = x then some (v tk) else m y; let qt := tk + k + 1; ∀ h', Fr g L h' qm → News g L h' news → QF .next ⟨h', gs, dr, qt, os⟩) : wpAny M A (exec (.Assign [.Name x xp] e pos) (envX cn cs L a ccd cl)) QF E ⟨h, gs, dr, tk, os⟩ := by
  simp only [nmLoc, Bool.true_eq, Bool.and_eq_true, decide_eq_true_eq, Bool.not_eq_true'] at hc
  exact wpAny_Assign_Name (h1 _ _ ⟨h, gs, dr, tk, os⟩ rfl (storeX_L (s := ⟨h, gs, dr, tk + k, os⟩) F N (fun h' F' N' => hq h' F' N') hc.1.1 hc.1.2)) hs
end
theorem nd_sw1 {a b : Nat} {l : List Nat} (nd : (b :: a :: l).Nodup) : (a :: b :: l).Nodup := (List.Perm.swap a b l).nodup_iff.mp nd
theorem nd_sw2 {a b c : Nat} {l : List Nat} (nd : (b :: c :: a :: l).Nodup) : (a :: b :: c :: l).Nodup := nd_sw1 (((List.Perm.swap a c l).cons b).nodup_iff.mp nd)
theorem nd_sw3 {a b c d : Nat} {l : List Nat} (nd : (b :: c :: d :: a :: l).Nodup) : (a :: b :: c :: d :: l).Nodup := nd_sw2 ((((List.Perm.swap a d l).cons c).cons b).nodup_iff.mp nd)
theorem nd_subN {g h : Heap} {L : Addr} {N N0 : Objs} (Nw : News g L h N0) (nd : (ads N0).Nodup) (S : N.Sublist N0) : (ads N).Nodup := nd_sub nd S
theorem nd_selN {g h : Heap} {L a : Addr} {o : Obj} {objs N0 : Objs} (Nw : News g L h N0) (nd : (ads N0).Nodup) (s : Sel a o objs N0) : a ∉ ads objs := nd_sel nd s
theorem callR {M : Model} {A : Around} {f : Value} {pos : List Value} {kw : List (Str × Value)} {Q E : Value → Shared → Prop} {s : Shared} (hc : codeAny M A (.call f ⟨pos, kw⟩) (wants Q E) s) : wpAny M A (call f pos kw) Q E s := wpAny_call hc
section
variable {g h h' : Heap} {L : Addr} {m : Str → Option Value} {objs objs' N N' : Objs} {p q : Addr × Obj} {G : Prop}
theorem Post.go0 (P : Post h h' objs objs' []) (F : Fr g L h m) (Nw : News g L h N) (nd : (ads N).Nodup) (E : Emb objs objs' N N') (k : let q : List (Addr × Obj) := N'; Fr g L h' m → News g L h' q → G) : G :=
  let U := P.use F Nw nd E; k U.1 U.2.1
theorem Post.go1 {a : Addr} {o : Obj} (P : Post h h' objs objs' [(a, o)]) (F : Fr g L h m) (Nw : News g L h N) (nd : (ads N).Nodup) (E : Emb objs objs' N N') (k : let q : List (Addr × Obj) := N'; Fr g L h' m → News g L h' ((a, o) :: q) → (a :: ads q).Nodup → G) : G :=
  let U := P.use F Nw nd E; k U.1 U.2.1 U.2.2
theorem Post.go2 {a b : Addr} {o o2 : Obj} (P : Post h h' objs objs' [(a, o), (b, o2)]) (F : Fr g L h m) (Nw : News g L h N) (nd : (ads N).Nodup) (E : Emb objs objs' N N') (k : let q : List (Addr × Obj) := N'; Fr g L h' m → News g L h' ((a, o) :: (b, o2) :: q) → (a :: b :: ads q).Nodup → G) : G :=
  let U := P.use F Nw nd E; k U.1 U.2.1 U.2.2
theorem Post.goN {new : Objs} {l : List Nat} (P : Post h h' objs objs' new) (F : Fr g L h m) (Nw : News g L h N) (nd : (ads N).Nodup) (E : Emb objs objs' N N') (hl : ads new ++ ads N = l) (k : let q : List (Addr × Obj) := N'; Fr g L h' m → News g L h' (new ++ q) → l.Nodup → G) : G :=
  let U := P.use F Nw nd E; k U.1 U.2.1 (by rw [← hl, ← E.ads_eq.1, ← ads_app]; exact U.2.2)
variable {Q E' : Value → Shared → Prop} {v : Value} {s' : Shared}
theorem Post.w0 (F : Fr g L h m) (Nw : News g L h N) (nd : (ads N).Nodup) (E : Emb objs objs' N N') (k : let q : List (Addr × Obj) := N'; Fr g L h' m → News g L h' q → Q v s') (P : Post h h' objs objs' []) : wants Q E' (.ok (.ret v)) s' := P.go0 F Nw nd E k
theorem Post.w1 {a : Addr} {o : Obj} (F : Fr g L h m) (Nw : News g L h N) (nd : (ads N).Nodup) (E : Emb objs objs' N N') (k : let q : List (Addr × Obj) := N'; Fr g L h' m → News g L h' ((a, o) :: q) → (a :: ads q).Nodup → Q v s') (P : Post h h' objs objs' [(a, o)]) : wants Q E' (.ok (.ret v)) s' := P.go1 F Nw nd E k
theorem Post.w2 {a b : Addr} {o o2 : Obj} (F : Fr g L h m) (Nw : News g L h N) (nd : (ads N).Nodup) (E : Emb objs objs' N N') (k : let q : List (Addr × Obj) := N'; Fr g L h' m → News g L h' ((a, o) :: (b, o2) :: q) → (a :: b :: ads q).Nodup → Q v s') (P : Post h h' objs objs' [(a, o), (b, o2)]) : wants Q E' (.ok (.ret v)) s' := P.go2 F Nw nd E k
theorem Post.wN {new : Objs} {l : List Nat} (F : Fr g L h m) (Nw : News g L h N) (nd : (ads N).Nodup) (E : Emb objs objs' N N') (hl : ads new ++ ads N = l) (k : let q : List (Addr × Obj) := N'; Fr g L h' m → News g L h' (new ++ q) → l.Nodup → Q v s') (P : Post h h' objs objs' new) : wants Q E' (.ok (.ret v)) s' := P.goN F Nw nd E hl k
end
theorem off_t1 {a : Prop} (h : a) : a ∧ True := ⟨h, trivial⟩
theorem off_t2 {a b : Prop} (h : a ∧ b) : a ∧ b ∧ True := ⟨h.1, h.2, trivial⟩
theorem off_t3 {a b c : Prop} (h : a ∧ b ∧ c) : a ∧ b ∧ c ∧ True := ⟨h.1, h.2.1, h.2.2, trivial⟩
theorem off_t4 {a b c d : Prop} (h : a ∧ b ∧ c ∧ d) : a ∧ b ∧ c ∧ d ∧ True := ⟨h.1, h.2.1, h.2.2.1, h.2.2.2, trivial⟩
noncomputable def FactsK (h : Heap) : List Fact → Prop → Prop
  | [], G => G
  | .tup a l :: r, G => IsTup h a l.toArray → FactsK h r G
  | .obj a o :: r, G => h.get? a = some o → FactsK h r G
theorem Facts.k {h : Heap} {G : Prop} : ∀ {T : List Fact}, Facts h T → FactsK h T G → G
  | [], _, k => k
  | .tup _ _ :: _, x, k => Facts.k x.2 (k x.1)
  | .obj _ _ :: _, x, k => Facts.k x.2 (k x.1)
end
section
open PySem PySem.W PySem.Calls PySem.Spec PyProof.Rows PyProof.V
open Sem (wp)
noncomputable abbrev tupO0 (l : List Value) : Obj := { cls := .type "tuple", data := .seq l.toArray }
section
open LCg
variable {prog : Program} {w : World} {A : Around} {s : Shared} {h₀ : Heap} {L : Addr} {m : Str → Option Value} {env : Env} {elt : Expr} {x : Str} {scope : Scope} {cl : List (Str × Addr)} {S : List (Addr × Obj) → Prop} {Fin : List Value → List (Addr × Obj) → Prop} {its : List Value} {news : Objs}
theorem arr_get {i : Nat} {v : Value} (h : its.toArray[i]? = some v) : its[i]? = some v := by simpa using h
theorem off3_cons {I C D a : Addr} {o : Obj} {nw : Objs} (h : Off3 I C D nw) (hI : I < a) (hC : C < a) (hD : D < a) : Off3 I C D ((a, o) :: nw) := ⟨⟨Nat.ne_of_gt hI, Nat.ne_of_gt hC, Nat.ne_of_gt hD⟩, h⟩
theorem restA (P : Value → Obj → Prop) (hS : ∀ p nw, S nw → S (p :: nw)) (hS0 : S news) (nd0 : (ads news).Nodup)
    (hel : ∀ v C oC m₂ h tk E' Q, v ∈ its → NsObj oC m₂ → m₂ x = some v → h.get? C = some oC →
      (∀ o tk', P v o → o.isFreed = false → Q (.ref h.objs.size) { s with heap := h.push o, toks := tk' }) →
      wpAny (model prog w) A (eval elt (compEnvC scope cl C env)) Q E' { s with heap := h, toks := tk })
    (fin : ∀ zs : Objs, zs.length = its.length → (∀ (j : Nat) v p, its[j]? = some v → zs[j]? = some p → P v p.2) → (ads (zs.reverse ++ news)).Nodup → Fin (zs.map fun p => .ref p.1) (zs.reverse ++ news)) :
    CompRest prog w A h₀ L m env elt x scope cl s S (fun i v => its.toArray[i]? = some v) Fin its.length 0 [] news := by
  have go : ∀ (k i : Nat) (zs : Objs), i + k = its.length → zs.length = i → (∀ (j : Nat) v p, its[j]? = some v → zs[j]? = some p → P v p.2) → S (zs.reverse ++ news) → (ads (zs.reverse ++ news)).Nodup →
      CompRest prog w A h₀ L m env elt x scope cl s S (fun i v => its.toArray[i]? = some v) Fin k i (zs.map fun p => .ref p.1) (zs.reverse ++ news) := by
    intro k
    induction k with
    | zero => intro i zs e1 e2 hp _ nd; exact CompRest.zero (fin zs (by (first | lia | omega)) hp nd)
    | succ k ih =>
      intro i zs e1 e2 hp hSS nd
      refine CompRest.succ fun v I oI C oC D m₂ h tk E' hv hns hm F N off ne => ?_
      have hv' := arr_get hv
      refine hel v C oC m₂ h tk E' _ (List.mem_of_getElem? hv') hns hm (N _ (.tail _ (.head _))).1 fun o tk' hP hf => ?_
      have hlt : ∀ p ∈ (I, oI) :: (C, oC) :: (D, lst (zs.map fun p => .ref p.1)) :: (zs.reverse ++ news), p.1 < h.objs.size := fun p hp => Heap.lt_size (N p hp).1
      have F' := F.push o
      have N' := N.push F o hf
      have e3 : ((zs ++ [(h.objs.size, o)]).map fun p => Value.ref p.1) = (zs.map fun p => Value.ref p.1) ++ [.ref h.objs.size] := by rw [List.map_append]; rfl
      have e4 : (zs ++ [(h.objs.size, o)]).reverse ++ news = (h.objs.size, o) :: (zs.reverse ++ news) := by rw [List.reverse_append]; rfl
      have r := ih (i + 1) (zs ++ [(h.objs.size, o)]) (by (first | lia | omega)) (by rw [List.length_append, e2]; rfl) (fun j v' p h1 h2 => by
        by_cases q : j < zs.length
        · rw [List.getElem?_append_left q] at h2
          exact hp j v' p h1 h2
        · rw [List.getElem?_append_right (Nat.le_of_not_lt q)] at h2
          have q2 : j - zs.length = 0 := by
            have := (List.getElem?_eq_some_iff.mp h2).1
            simp only [List.length_cons, List.length_nil] at this
            (first | lia | omega)
          rw [q2] at h2
          cases h2
          have q3 : j = i := by (first | lia | omega)
          rw [q3, hv'] at h1
          cases h1
          exact hP) (by rw [e4]; exact hS _ _ hSS) (by
        rw [e4]
        refine List.nodup_cons.mpr ⟨fun q => ?_, nd⟩
        obtain ⟨o', ho⟩ := mem_ads q
        exact Nat.lt_irrefl _ (hlt _ (.tail _ (.tail _ (.tail _ ho)))))
      rw [e3, e4] at r
      exact CompEnd.intro F' N' _ (fun p hp => by
        rcases List.mem_cons.mp hp with rfl | hp
        · exact .tail _ (.head _)
        rcases List.mem_cons.mp hp with rfl | hp
        · exact .tail _ (.tail _ (.head _))
        rcases List.mem_cons.mp hp with rfl | hp
        · exact .tail _ (.tail _ (.tail _ (.head _)))
        rcases List.mem_cons.mp hp with rfl | hp
        · exact .head _
        · exact .tail _ (.tail _ (.tail _ (.tail _ hp)))) (off3_cons off (hlt _ (.head _)) (hlt _ (.tail _ (.head _))) (hlt _ (.tail _ (.tail _ (.head _))))) (hS _ _ hSS) r
  exact go its.length 0 [] (by (first | lia | omega)) rfl (fun j v p _ h2 => nomatch h2) hS0 nd0
theorem nd_off1 {D : Addr} {o : Obj} : ∀ {nw : Objs}, Off1 D nw → (ads nw).Nodup → (ads ((D, o) :: nw)).Nodup := by
  intro nw h nd
  refine List.nodup_cons.mpr ⟨fun q => ?_, nd⟩
  have key : ∀ {l : Objs}, Off1 D l → D ∉ ads l := by
    intro l
    induction l with
    | nil => exact fun _ h => nomatch h
    | cons p l ih =>
      intro h q
      rcases List.mem_cons.mp q with q | q
      · exact h.1 q.symm
      · exact ih h.2 q
  exact key h q
theorem Ev.nameC {M : Model} {h : Heap} {C : Addr} {oC : Obj} {m₂ : Str → Option Value} {v : Value} {pos : Pos} (hns : NsObj oC m₂) (hC : h.get? C = some oC) (hv : m₂ x = some v) (hk : scope.kind = .function) (hx : (compEnvC scope cl C env).kindOf x = some .local) (hd : (x == ("__debug__" : Str)) = false) : Ev M A (compEnvC scope cl C env) h (.Name x pos) (fun _ => v) 0 := by
  intro Q E s hs hq
  subst hs
  exact wpAny_Name (wpAny_loadName_local (show (relabel scope env).kind = .function from hk) hx (hns.ns hC) hv hq) hd
theorem Evs.tup {M : Model} {es : List Expr} {vs : Tok → List Value} {k kk : Nat} {pos : Pos} {E Q : Value → Shared → Prop} (hv : Evs M A env s.heap es vs k) (hz : (vs s.toks).length ≤ sizeLine) (hq : Q (.ref s.heap.objs.size) { s with heap := s.heap.push (tupO0 (vs s.toks)), toks := s.toks + k }) : wpAny M A (eval (.Tuple es kk pos) env) Q E s :=
  Tuple_ (hv _ _ _ s rfl (wpAny_newTuple (s := { s with toks := s.toks + k }) (items := vs s.toks) hq hz))
theorem Evs.lst {M : Model} {es : List Expr} {vs : Tok → List Value} {k : Nat} {pos : Pos} {E Q : Value → Shared → Prop} (hv : Evs M A env s.heap es vs k) (hz : (vs s.toks).length ≤ sizeLine) (hq : Q (.ref s.heap.objs.size) { s with heap := s.heap.push { cls := .type "list", data := .seq (vs s.toks).toArray }, toks := s.toks + k }) : wpAny M A (eval (.List es pos) env) Q E s :=
  List_ (hv _ _ _ s rfl (wpAny_newList (s := { s with toks := s.toks + k }) (items := vs s.toks) hq hz))
theorem restK (fv : Value → Value) (hS0 : S news)
    (hel : ∀ v I oI C oC D ys m₂ h tk E' Q, v ∈ its → NsObj oC m₂ → m₂ x = some v → Fr h₀ L h m → News h₀ L h ((I, oI) :: (C, oC) :: (D, lst ys) :: news) →
      (∀ tk', Q (fv v) { s with heap := h, toks := tk' }) → wpAny (model prog w) A (eval elt (compEnvC scope cl C env)) Q E' { s with heap := h, toks := tk })
    (fin : Fin (its.map fv) news) :
    CompRest prog w A h₀ L m env elt x scope cl s S (fun i v => its.toArray[i]? = some v) Fin its.length 0 [] news := by
  have go : ∀ (k i : Nat), i + k = its.length → CompRest prog w A h₀ L m env elt x scope cl s S (fun i v => its.toArray[i]? = some v) Fin k i ((its.take i).map fv) news := by
    intro k
    induction k with
    | zero => intro i e1; rw [List.take_of_length_le (by (first | lia | omega))]; exact CompRest.zero fin
    | succ k ih =>
      intro i e1
      refine CompRest.succ fun v I oI C oC D m₂ h tk E' hv hns hm F N off ne => ?_
      have hv' := arr_get hv
      refine hel v I oI C oC D _ m₂ h tk E' _ (List.mem_of_getElem? hv') hns hm F N fun tk' => ?_
      have r := ih (i + 1) (by (first | lia | omega))
      rw [List.take_add_one, hv', List.map_append] at r
      exact CompEnd.intro F N _ (fun p hp => hp) off hS0 r
  exact go its.length 0 (by (first | lia | omega))
theorem made3 {P : Value → Obj → Prop} {v0 v1 v2 : Value} {zs : Objs} (hl : zs.length = 3) (h : ∀ (j : Nat) v p, [v0, v1, v2][j]? = some v → zs[j]? = some p → P v p.2) : ∃ a0 o0 a1 o1 a2 o2, zs = [(a0, o0), (a1, o1), (a2, o2)] ∧ P v0 o0 ∧ P v1 o1 ∧ P v2 o2 := by
  rcases zs with _ | ⟨p0, _ | ⟨p1, _ | ⟨p2, _ | ⟨p3, z⟩⟩⟩⟩
  · cases hl
  · cases hl
  · cases hl
  · exact ⟨p0.1, p0.2, p1.1, p1.2, p2.1, p2.2, rfl, h 0 v0 p0 rfl rfl, h 1 v1 p1 rfl rfl, h 2 v2 p2 rfl rfl⟩
  · cases hl
theorem made3T {v0 v1 v2 : Value} (f : Value → Tok → Obj) {C : Objs → Prop} (k : ∀ a0 a1 a2 t0 t1 t2, C [(a0, f v0 t0), (a1, f v1 t1), (a2, f v2 t2)]) :
    ∀ zs : Objs, zs.length = [v0, v1, v2].length → (∀ (j : Nat) v p, [v0, v1, v2][j]? = some v → zs[j]? = some p → ∃ t, p.2 = f v t) → C zs := fun zs hl h => by
  obtain ⟨a0, o0, a1, o1, a2, o2, rfl, ⟨t0, rfl⟩, ⟨t1, rfl⟩, ⟨t2, rfl⟩⟩ := made3 (P := fun v o => ∃ t, o = f v t) hl h
  exact k _ _ _ _ _ _
theorem made3L {v0 v1 v2 : Value} {o : Obj} {C : Objs → Prop} (k : ∀ a0 a1 a2, C [(a0, o), (a1, o), (a2, o)]) :
    ∀ zs : Objs, zs.length = [v0, v1, v2].length → (∀ (j : Nat) v p, [v0, v1, v2][j]? = some v → zs[j]? = some p → p.2 = o) → C zs := fun zs hl h => by
  obtain ⟨a0, o0, a1, o1, a2, o2, rfl, rfl, rfl, rfl⟩ := made3 (P := fun _ o' => o' = o) hl h
  exact k _ _ _
theorem srcAt_cons {ax : Addr} {its : Array Value} {p : Addr × Obj} {nw : Objs} (h : SrcAt h₀ ax its nw) : SrcAt h₀ ax its (p :: nw) := by
  rcases h with h | ⟨o, hm, r⟩
  · exact .inl h
  · exact .inr ⟨o, .tail _ hm, r⟩
end
end
section
open PySem PySem.W PySem.Calls PySem.Spec PyProof.Rows PyProof.V
open Sem (wp)
inductive Outs : List Env → Objs → Prop
  | nil : Outs [] []
  | cons {env : Env} {L : Addr} {o : Obj} {es : Array DictEntry} {n : Nat} {outer : List Env} {frs : Objs} : env.scope.kind ≠ .module → env.frame = some L → o.data = .dict es n → Outs outer frs → Outs (env :: outer) ((L, o) :: frs)
theorem Outs.funs {outer : List Env} {frs : Objs} {h base : Heap} (O : Outs outer frs) (hin : ∀ p ∈ frs, h.get? p.1 = some p.2 ∧ base.get? p.1 = none) : h.FunFrames base outer := by
  induction O with
  | nil => trivial
  | cons h1 h2 h3 _ ih =>
    exact ⟨h1, ⟨_, _, h2, (hin _ (.head _)).2, (hin _ (.head _)).1, fun vs q => by rw [h3] at q; cases q⟩, ih fun p hp => hin p (.tail _ hp)⟩
theorem Outs.nofld {outer : List Env} {frs : Objs} (O : Outs outer frs) : ∀ p ∈ frs, ∀ vs, p.2.data ≠ .fields vs := by
  induction O with
  | nil => exact fun p hp => nomatch hp
  | cons _ _ h3 _ ih =>
    intro p hp vs q
    rcases List.mem_cons.mp hp with rfl | hp
    · rw [h3] at q; cases q
    · exact ih p hp vs q
def PostE (h h' : Heap) (objs objs' frs : Objs) (outer : List Env) (e : Addr) : Prop := ∃ B a0, Heap.FlyingW B outer e (.ref (nat_lit 44)) a0 h' ∧ (∀ b o, b ∉ ads objs → b ∉ ads frs → h.get? b = some o → B.get? b = some o) ∧ (∀ p ∈ objs', B.get? p.1 = some p.2) ∧ (∀ p ∈ frs, ∃ sl, h'.get? p.1 = some { p.2 with slots := sl })
theorem Pre.ofL {w : World} {lo : List Str} {mean : ExcName → Option Value} {mg mb : Str → Option Value} {g h : Heap} {L : Addr} {m : Str → Option Value} {N objs : Objs} {T : List Fact} (F : Fr g L h m) (Nw : News g L h N) (nd : (ads N).Nodup) (S : objs.Sublist N) (X : (KK w.params).In g) (Tp : Top VW lo mean mg mb g)
    (fs : FsP g N objs T) : ∃ oL es n, h.get? L = some oL ∧ oL.data = .dict es n ∧ Pre w h ((L, oL) :: objs) T := by
  obtain ⟨oL, es, n, hL, hd, r⟩ := F.ns
  have hN : ∀ p ∈ objs, h.get? p.1 = some p.2 ∧ g.get? p.1 = none := fun p hp => ⟨(Nw p (S.subset hp)).1, (Nw p (S.subset hp)).2.2⟩
  have nL : g.get? L = none := kts_self F
  have nLo : L ∉ ads objs := fun q => by obtain ⟨o, ho⟩ := mem_ads q; exact (Nw _ (S.subset ho)).2.1 rfl
  have ndo : (ads objs).Nodup := List.Nodup.sublist (S.map (·.1)) nd
  refine ⟨oL, es, n, hL, hd, lo, mean, mg, mb, g, X, Tp, F.keep, fun p hp => ?_, List.nodup_cons.mpr ⟨nLo, ndo⟩, fs _ ⟨fun {a o} e => hideAll_get _ (F.keep _ _ e) fun q => ?_, fun {a o} s => ?_⟩⟩
  · rcases List.mem_cons.mp hp with rfl | hp
    · exact ⟨hL, nL⟩
    · exact hN p hp
  · rcases List.mem_cons.mp q with q | q
    · rw [q] at e
      have : g.get? L = some o := e
      rw [nL] at this; cases this
    · obtain ⟨o', ho⟩ := mem_ads q
      rw [(hN _ ho).2] at e; cases e
  · have := s.ok nd
    refine hideAll_get _ (Nw _ this.1).1 fun q => ?_
    rcases List.mem_cons.mp q with q | q
    · exact (Nw _ this.1).2.1 q
    · exact this.2 q
theorem Pre.perm {w : World} {h : Heap} {objs objs' : Objs} {T : List Fact} (p : objs.Perm objs') (P : Pre w h objs T) : Pre w h objs' T := by
  obtain ⟨lo, mean, mg, mb, g, X, Tp, k, hl, nd, hT⟩ := P
  refine ⟨lo, mean, mg, mb, g, X, Tp, k, fun q hq => hl q (p.symm.subset hq), (p.map _).nodup_iff.mp nd, Facts.mono (fun a o e => ?_) hT⟩
  refine hideAll_get _ (of_hideAll _ e) fun q => ?_
  have : a ∈ ads objs := (p.map (·.1)).symm.subset q
  rw [hideAll_none _ this] at e; cases e
section
variable {M : Model} {A : Around} {E : Value → Shared → Prop} {s' : Shared} {g h0 h : Heap} {outer : List Env} {L a e : Addr} {m : Str → Option Value} {name : Str} {scope : Scope} {cd : Value} {Q : Unit → Shared → Prop} {N N' objs0 objs0' objs objs' frs : Objs} {oL : Obj}
theorem leaveE (hA : A.frames = some outer) (O : Outs outer frs) (G : Gd g h0 (ads (objs0 ++ frs))) (F : Fr g L h m) (Nw : News g L h N) (nd : (ads N).Nodup)
    (P : PostE h s'.heap objs objs' ((L, oL) :: frs) (envOf name scope L a cd :: outer) e) (E1 : Emb objs objs' N N') (S : (objs0' ++ frs).Sublist N')
    (hQ : ∀ h'', PostE h0 h'' objs0 objs0' frs outer e → Q () { s' with heap := h'' }) : wpAny M (A.deeper (envOf name scope L a cd)) (leaving (envOf name scope L a cd) (.ref e)) Q E s' := by
  obtain ⟨B, a0, fl, hk1, hk2, hk3⟩ := P
  have nL : g.get? L = none := kts_self F
  have nd' : (ads (objs0' ++ frs)).Nodup := nd_sub (N0 := N') (by rw [E1.ads_eq.1]; exact nd) S
  rw [ads_app, List.nodup_append] at nd'
  refine wpAny_leaves_onW (Around.frames_deeper hA) rfl fl fun h'' fl' up => hQ h'' ⟨B, a0, fl', fun b o h1 h2 h3 => ?_, fun p hp => ?_, fun p hp => ?_⟩
  · have hg : g.get? b = some o := by
      rw [G.eq]
      refine hideAll_get _ h3 fun q => ?_
      rw [ads_app] at q
      exact (List.mem_append.mp q).elim h1 h2
    refine hk1 b o (fun q => ?_) (fun q => ?_) (F.keep _ _ hg)
    · obtain ⟨o', ho⟩ := mem_ads q
      have := (Nw _ (E1.sub.subset ho)).2.2
      rw [this] at hg; cases hg
    · rcases List.mem_cons.mp q with q | q
      · rw [q] at hg
        have h9 : g.get? L = some o := hg
        rw [nL] at h9; cases h9
      · exact h2 q
  · have hp' : p ∈ N' := S.subset (List.mem_append_left _ hp)
    rcases E1.cases nd p hp' with q | ⟨q, n⟩
    · exact hk2 p q
    · refine hk1 _ _ n (fun z => ?_) (Nw p q).1
      rcases List.mem_cons.mp z with z | z
      · exact (Nw p q).2.1 z
      · exact nd'.2.2 _ (ads_mem hp) _ z rfl
  · obtain ⟨sl, hs⟩ := hk3 p (.tail _ hp)
    obtain ⟨sl', hs'⟩ := up _ _ hs (O.nofld p hp)
    exact ⟨sl', hs'⟩
theorem leaveE0 {oe : Obj} {vs : Array Value} {a0 : Value} (hA : A.frames = some outer) (O : Outs outer frs) (hk : scope.kind = .function) (G : Gd g h0 (ads (objs0 ++ frs))) (F : Fr g L h m) (Nw : News g L h N) (nd : (ads N).Nodup) (S : (objs0' ++ frs).Sublist N)
    (keep : ∀ b o, h.get? b = some o → s'.heap.get? b = some o) (new : h.get? e = none) (he : s'.heap.get? e = some oe) (hc : oe.cls = .ref (nat_lit 44)) (hd : oe.data = .fields vs) (h1 : vs[1]? = some .none) (h0' : vs[0]? = some a0)
    (hQ : ∀ h'', PostE h0 h'' objs0 objs0' frs outer e → Q () { s' with heap := h'' }) : wpAny M (A.deeper (envOf name scope L a cd)) (leaving (envOf name scope L a cd) (.ref e)) Q E s' := by
  have nL : g.get? L = none := kts_self F
  obtain ⟨oL, es, n, hL, hdL, r⟩ := F.ns
  have nd' : (ads (objs0' ++ frs)).Nodup := List.Nodup.sublist (S.map (·.1)) nd
  rw [ads_app, List.nodup_append] at nd'
  have inB : ∀ b o, h.get? b = some o → b ≠ L → b ∉ ads frs → (hideAll h (L :: ads frs)).get? b = some o := fun b o q n1 n2 => hideAll_get _ q fun z => by
    rcases List.mem_cons.mp z with z | z
    · exact n1 z
    · exact n2 z
  have O1 : Outs (envOf name scope L a cd :: outer) ((L, oL) :: frs) := .cons (by show scope.kind ≠ .module; rw [hk]; decide) rfl hdL O
  have hf : s'.heap.FunFrames (hideAll h (L :: ads frs)) (envOf name scope L a cd :: outer) := O1.funs fun p hp => by
    refine ⟨?_, hideAll_none _ (show p.1 ∈ L :: ads frs from ?_)⟩
    · rcases List.mem_cons.mp hp with rfl | hp
      · exact keep _ _ hL
      · exact keep _ _ (Nw p (S.subset (List.mem_append_right _ hp))).1
    · rcases List.mem_cons.mp hp with rfl | hp
      · exact .head _
      · exact .tail _ (ads_mem hp)
  refine wpAny_leaving_firstW (base := hideAll h (L :: ads frs)) (a0 := a0) (Around.frames_deeper hA) hf rfl he (fun b o q => keep _ _ (of_hideAll _ q)) ?_ hd h1 h0' fun h'' hl => hQ h'' ⟨hideAll h (L :: ads frs), a0, ?_, fun b o x1 x2 x3 => ?_, fun p hp => ?_, fun p hp => ?_⟩
  · cases q : (hideAll h (L :: ads frs)).get? e with
    | none => rfl
    | some o => have := of_hideAll _ q; rw [new] at this; cases this
  · obtain ⟨k1, ⟨_, _, k2⟩, k3, k4⟩ := hl
    rw [hc] at k3
    refine ⟨k1, ?_, k2, k3⟩
    cases q : (hideAll h (L :: ads frs)).get? e with
    | none => rfl
    | some o => have := of_hideAll _ q; rw [new] at this; cases this
  · have hg : g.get? b = some o := by
      rw [G.eq]
      refine hideAll_get _ x3 fun q => ?_
      rw [ads_app] at q
      exact (List.mem_append.mp q).elim x1 x2
    exact inB b o (F.keep _ _ hg) (fun q => by rw [q] at hg; have h9 : g.get? L = some o := hg; rw [nL] at h9; cases h9) x2
  · have hp' := Nw p (S.subset (List.mem_append_left _ hp))
    exact inB _ _ hp'.1 hp'.2.1 fun z => nd'.2.2 _ (ads_mem hp) _ z rfl
  · obtain ⟨_, _, _, k4⟩ := hl
    exact k4 _ _ (keep _ _ (Nw p (S.subset (List.mem_append_right _ hp))).1) (O.nofld p hp)
end
inductive UpF : Objs → Objs → Prop
  | nil : UpF [] []
  | cons {L : Addr} {o : Obj} {sl : Array (Option Value)} {f f' : Objs} : UpF f f' → UpF ((L, o) :: f) ((L, { o with slots := sl }) :: f')
theorem UpF.ads_eq {f f' : Objs} (u : UpF f f') : ads f' = ads f := by
  induction u with
  | nil => rfl
  | cons _ ih => exact congrArg (List.cons _) ih
theorem UpF.of {h : Heap} : ∀ {f : Objs}, (∀ p ∈ f, ∃ sl, h.get? p.1 = some { p.2 with slots := sl }) → ∃ f', UpF f f' ∧ ∀ p ∈ f', h.get? p.1 = some p.2
  | [], _ => ⟨[], .nil, fun p hp => nomatch hp⟩
  | (L, o) :: f, x => by
    obtain ⟨sl, hs⟩ := x _ (.head _)
    obtain ⟨f', u, hf⟩ := UpF.of (f := f) fun p hp => x p (.tail _ hp)
    refine ⟨(L, { o with slots := sl }) :: f', .cons u, fun p hp => ?_⟩
    rcases List.mem_cons.mp hp with rfl | hp
    · exact hs
    · exact hf p hp
section
variable {w : World} {A : Around} {E : Value → Shared → Prop} {s' : Shared} {g h : Heap} {outer : List Env} {L a e : Addr} {m : Str → Option Value} {name : Str} {scope : Scope} {cd : Value} {Q : Flow → Shared → Prop} {N N' objs0' objs objs' frs : Objs} {oL : Obj} {b₀ : Stmt} {suite : List Stmt} {pos np : Pos} {rest : List ExceptHandler} {lo : List Str} {mean : ExcName → Option Value} {mg mb : Str → Option Value} {x : Str}
theorem caughtE (hA : A.frames = some outer) (O : Outs outer frs) (F : Fr g L h m) (Nw : News g L h N) (nd : (ads N).Nodup) (X : (KK w.params).In g) (Tp : Top VW lo mean mg mb g) (hoL : h.get? L = some oL)
    (P : PostE h s'.heap objs objs' ((L, oL) :: frs) (envOf name scope L a cd :: outer) e) (E1 : Emb objs objs' N N') (S : (objs0' ++ frs).Sublist N')
    (ex : nsIn (KK w.params) mainGlobals x = some (some (.ref (nat_lit 44)))) (q : ktsIn (KK w.params) (nat_lit 44) "BaseException" = true)
    (hk : scope.kind = .function) (hx : (envOf name scope L a cd).kindOf x = some .globalImplicit) (hd : (x == ("__debug__" : Str)) = false)
    (k : ∀ h' frs', UpF frs frs' → Fr g L h' m → News g L h' (objs0' ++ frs') → wpAny (model PR w) ((A.deeper (envOf name scope L a cd)).mark (some (.ref e))) (execs (b₀ :: suite) (envOf name scope L a cd)) Q E { s' with heap := h' })
    (hE : PassesOwnAt (model PR w) ((A.deeper (envOf name scope L a cd)).mark (some (.ref e))) (A.deeper (envOf name scope L a cd)) (envOf name scope L a cd) E) :
    wpAny (model PR w) (A.deeper (envOf name scope L a cd)) (noteFrame (.ref e) (envOf name scope L a cd))
      (fun _ s₂ => wpAny (model PR w) (A.deeper (envOf name scope L a cd)) (setFlight (.ref e) none) (fun _ s₃ =>
        wpAny (model PR w) (A.deeper (envOf name scope L a cd)) (handleBy (.ref e) (envOf name scope L a cd) (.ExceptHandler (some (.Name x np)) none (b₀ :: suite) pos :: rest)) Q E s₃) E s₂) E s' := by
  obtain ⟨B, a0, fl, hk1, hk2, hk3⟩ := P
  have nL : g.get? L = none := kts_self F
  have nd' : (ads (objs0' ++ frs)).Nodup := nd_sub (N0 := N') (by rw [E1.ads_eq.1]; exact nd) S
  rw [ads_app, List.nodup_append] at nd'
  obtain ⟨oL', es, ep, hL, hdL, hks⟩ := F.ns
  have eL : oL' = oL := Option.some.inj (hL.symm.trans hoL)
  subst eL
  have gB : ∀ b o, g.get? b = some o → B.get? b = some o := fun b o e1 => hk1 b o (fun q => by
      obtain ⟨o', ho⟩ := mem_ads q
      have := (Nw _ (E1.sub.subset ho)).2.2
      rw [this] at e1; cases e1) (fun q => by
      rcases List.mem_cons.mp q with q | q
      · rw [q] at e1
        have h9 : g.get? L = some o := e1
        rw [nL] at h9; cases h9
      · obtain ⟨o', ho⟩ := mem_ads q
        have hm : (b, o') ∈ N' := S.subset (List.mem_append_right _ ho)
        have : b ∈ ads N := by rw [← E1.ads_eq.1]; exact ads_mem hm
        obtain ⟨o2, ho2⟩ := mem_ads this
        have := (Nw _ ho2).2.2
        rw [this] at e1; cases e1) (F.keep _ _ e1)
  have mk : ∀ h', B.StaysIn h' → s'.heap.UpToSlots h' → Fr g L h' m ∧ ∀ p ∈ (L, oL') :: frs, ∃ sl, h'.get? p.1 = some { p.2 with slots := sl } := fun h' st up => by
    obtain ⟨sl, hs⟩ := hk3 _ (.head _)
    obtain ⟨sl', hs'⟩ := up _ _ hs (fun vs q => by rw [hdL] at q; cases q)
    refine ⟨⟨⟨_, es, ep, hs', hdL, hks⟩, fun b o e1 => st _ _ (gB _ _ e1), F.above⟩, fun p hp => ?_⟩
    rcases List.mem_cons.mp hp with rfl | hp
    · exact ⟨sl', hs'⟩
    · obtain ⟨sl, hs⟩ := hk3 p (.tail _ hp)
      obtain ⟨sl', hs'⟩ := up _ _ hs (O.nofld p hp)
      exact ⟨sl', hs'⟩
  refine wpAny_looks_onW (Around.frames_deeper hA) rfl fl fun h₄ hheld₄ up₄ => ?_
  refine wpAny_landsW hheld₄ fun h₅ hheld up₅ => ?_
  obtain ⟨F₅, _⟩ := mk h₅ hheld.1 (up₄.trans up₅)
  obtain ⟨ob, hob, hobc⟩ := hheld.there
  obtain ⟨nm, q', Nn, bs, bm, hdct, sn, sub, ab, col, dd, k0, k1, k2, k3, k5, newId, hC, hbase, hbT⟩ := kts_cls X q
  have hC₅ := F₅.keep _ _ hC
  refine wpAny_handleBy_cons (codeAny_handlers_test (name_K F₅ X (topRead_of Tp) ex ?_ hk hx hd)) (by intro q; cases q)
  refine wpAny_excMatches_sub_self hC₅ hob hobc hbase (codeAny_handlers_suite ?_)
  refine lands_againW hheld fun h₆ hfl₆ up₆ => ?_
  obtain ⟨F₆, fr₆⟩ := mk h₆ hfl₆.1 ((up₄.trans up₅).trans up₆)
  obtain ⟨frs', u, hf⟩ := UpF.of (f := frs) fun p hp => fr₆ p (.tail _ hp)
  refine wpAny_passesOwnAt hE (k h₆ frs' u F₆ fun p hp => ?_)
  have old : ∀ b, b ∈ ads N' → b ≠ L ∧ g.get? b = none := fun b hb => by
    rw [E1.ads_eq.1] at hb
    obtain ⟨o, ho⟩ := mem_ads hb
    exact ⟨(Nw _ ho).2.1, (Nw _ ho).2.2⟩
  rcases List.mem_append.mp hp with hp | hp
  · have hp' : p ∈ N' := S.subset (List.mem_append_left _ hp)
    refine ⟨hfl₆.1 _ _ ?_, old _ (ads_mem hp')⟩
    rcases E1.cases nd p hp' with q | ⟨q, n⟩
    · exact hk2 p q
    · refine hk1 _ _ n (fun z => ?_) (Nw p q).1
      rcases List.mem_cons.mp z with z | z
      · exact (Nw p q).2.1 z
      · exact nd'.2.2 _ (ads_mem hp) _ z rfl
  · refine ⟨hf p hp, old _ ?_⟩
    have h1 : p.1 ∈ ads frs := by rw [← u.ads_eq]; exact ads_mem hp
    obtain ⟨o, ho⟩ := mem_ads h1
    have z : (p.1, o) ∈ N' := S.subset (List.mem_append_right _ ho)
    have z2 := ads_mem (p := (p.1, o)) z
    exact z2
end
end
section
open PySem PySem.W PySem.Calls PySem.Spec PyProof.Rows PyProof.V
open Sem (wp)
section
variable {w : World} {A : Around} {E : Value → Shared → Prop} {s : Shared} {d a : Addr} {kvs more : List (Int × Value)} {k : Int} {key v : Value}
theorem dictPut_new {Q : Unit → Shared → Prop} (hkey : (PySem.intKind PR w).is k key = true) (hm : s.heap.DictOf (PySem.intKind PR w) d kvs) (hk0 : k ∉ kvs.map (·.1)) (hsz : kvs.length ≤ sizeLine)
    (hQ : ∀ h', h'.DictOf (PySem.intKind PR w) d (kvs ++ [(k, v)]) → Heap.SameBut d s.heap h' → Q () { s with heap := h' }) :
    wpAny (model PR w) A (dictPut d ((PySem.intKind PR w).hash k) key v) Q E s := by
  obtain ⟨o, es, ep, ho, hc, hd, hk, hp, hn⟩ := hm
  have hes : es.size ≤ sizeLine := by
    have e1 := hp.length
    have e2 : es.toList.length = es.size := by simp
    (first | lia | omega)
  unfold dictPut
  refine wpAny_bind (wpAny_dictFind_of hkey ho hd hk ?_)
  have hidx : (es.findIdx? fun e => (PySem.intKind PR w).is k e.key) = none := by
    have e1 : (es.findIdx? fun e => (PySem.intKind PR w).is k e.key) = kvs.findIdx? fun kv => decide (kv.1 = k) := by
      rw [← hp.findIdx k]; obtain ⟨l⟩ := es; simp
    rw [e1, List.findIdx?_eq_none_iff]
    intro x hx
    rw [decide_eq_false_iff_not]
    exact fun e => hk0 (List.mem_map.mpr ⟨x, hx, e⟩)
  rw [hidx]
  refine wpAny_updateDictKeys (hz := hes) ho hd (hQ _ ⟨_, _, ep + 1, Heap.get?_update_self _ ho (Obj.isFreed_of_dict (Obj.data_mapDictKeys hd _)), hc.mapDictKeys _, Obj.data_mapDictKeys hd _, hk.push hkey _, ?_, ?_⟩ (Heap.SameBut.update ..))
  · have := hp.append hkey ((PySem.intKind PR w).hash k) v
    obtain ⟨l⟩ := es
    simpa using this
  · rw [List.map_append, List.nodup_append]
    refine ⟨hn, by simp, ?_⟩
    intro x hx y hy
    simp only [List.map_cons, List.map_nil, List.mem_singleton] at hy
    subst hy
    exact fun e => hk0 (e ▸ hx)
theorem merge_new {Q : Unit → Shared → Prop} (hda : d ≠ a) (haS : (a == sysModules) = false) (hne : kvs ≠ []) (hd : s.heap.DictOf (PySem.intKind PR w) d kvs) (ha : s.heap.DictOf (PySem.intKind PR w) a more) (hn : ((kvs ++ more).map (·.1)).Nodup) (hsz : kvs.length + more.length ≤ sizeLine)
    (hQ : ∀ h', h'.DictOf (PySem.intKind PR w) d (kvs ++ more) → Heap.SameBut d s.heap h' → Q () { s with heap := h' }) :
    wpAny (model PR w) A (mergeMapping d (.ref a) false) Q E s := by
  obtain ⟨od, esd, epd, hod, hcd, hdd, hkd, hpd, hnd⟩ := id hd
  obtain ⟨oo, eso, epo, hoo, hco, hdo, hko, hpo, hno⟩ := id ha
  have hlen : more.length = eso.size := by rw [← hpo.length]; simp
  have hemp : esd.isEmpty = false := by
    cases q : esd.isEmpty with
    | false => rfl
    | true =>
      have h0 : esd = #[] := Array.isEmpty_iff.mp q
      have := hpd.length
      rw [h0] at this
      exact absurd (List.length_eq_zero_iff.mp (by simpa using this.symm)) hne
  unfold mergeMapping
  refine wpAny_bind (wpAny_isInstance ha.typeIs isSubtype_dict_dict ?_)
  extract_lets jp
  rw [if_pos rfl]
  refine wpAny_bind (wpAny_specialOf ha.typeIs F.slot_dict_iter.lookup ?_)
  refine wpAny_bind (wpAny_pure ?_)
  simp only [jp, beq_self_eq_true]
  rw [if_neg (by rw [haS]; exact Bool.false_ne_true)]
  refine wpAny_bind (wpAny_dictEntries hod hdd ?_)
  rw [if_neg (by rw [hemp]; exact Bool.false_ne_true)]
  refine wpAny_bind (wpAny_dictEntries hoo hdo ?_)
  refine wpAny_bind (wpAny_dictEpoch hoo hdo ?_)
  rw [List.range_eq_range']
  refine wpAny_bind (wpAny_forIn_list _
    (fun rest _ s' => ∃ h' i, s' = { s with heap := h' } ∧ rest = List.range' i (eso.size - i) ∧ i ≤ eso.size ∧ h'.DictOf (PySem.intKind PR w) d (kvs ++ more.take i) ∧ h'.get? a = some oo ∧ Heap.SameBut d s.heap h')
    _ ?_ ?_ _ _ ⟨s.heap, 0, rfl, rfl, Nat.zero_le _, by simpa using hd, hoo, Heap.SameBut.refl _ _⟩)
  · rintro x rest b s' ⟨h', i, rfl, hr, hi, hd', hoo', hs'⟩
    have hlt : i < eso.size := by
      rcases Nat.lt_or_ge i eso.size with h | h
      · exact h
      · rw [Nat.sub_eq_zero_of_le h] at hr; simp at hr
    obtain ⟨rfl, hrest⟩ : x = i ∧ rest = List.range' (i + 1) (eso.size - (i + 1)) := by
      have e : eso.size - i = (eso.size - (i + 1)) + 1 := by (first | lia | omega)
      rw [e, List.range'_succ] at hr
      injection hr with h1 h2
      exact ⟨h1, h2⟩
    refine wpAny_bind (wpAny_dictEntries hoo' hdo ?_)
    rw [Array.getElem?_eq_getElem hlt]
    obtain ⟨kv, hkv⟩ : ∃ kv, more[x]? = some kv := ⟨more[x]'(by rw [hlen]; exact hlt), List.getElem?_eq_getElem _⟩
    obtain ⟨k, v⟩ := kv
    obtain ⟨hkey, hval⟩ := hpo.get? (e := eso[x]) (by simp [hlt]) hkv
    obtain ⟨k', hkey', hhash⟩ := hko eso[x] (Array.getElem_mem hlt)
    obtain rfl : k' = k := (PySem.intKind PR w).inj _ _ _ hkey' hkey
    show wpAny _ _ (holding [eso[x].key, eso[x].val] (if false = true then _ else dictPut d eso[x].hash eso[x].key eso[x].val) >>= _) _ _ _
    rw [if_neg Bool.false_ne_true, hhash, hval]
    have htk : more.take (x + 1) = more.take x ++ [(k', v)] := by rw [List.take_add_one, hkv]; rfl
    have hn2 : (((kvs ++ more.take x) ++ [(k', v)]).map (·.1)).Nodup := by
      rw [List.append_assoc, ← htk]
      rw [List.map_append] at hn ⊢
      exact hn.sublist (List.Sublist.append (List.Sublist.refl _) ((List.take_sublist _ _).map _))
    have hz2 : (kvs ++ more.take x).length ≤ sizeLine := by
      have e2 : (more.take x).length ≤ more.length := by rw [List.length_take]; (first | lia | omega)
      rw [List.length_append]; (first | lia | omega)
    refine wpAny_bind (wpAny_holding (dictPut_new hkey hd' ?_ hz2 fun h'' hd'' hs'' => ?_))
    · rw [List.map_append, List.nodup_append] at hn2
      exact fun hm => hn2.2.2 k' hm k' (by simp) rfl
    have hoo'' : h''.get? a = some oo := (hs''.2 a (Ne.symm hda)).trans hoo'
    refine wpAny_bind (wpAny_dictEpoch hoo'' hdo ?_)
    rw [if_neg (by simp)]
    exact wpAny_pure ⟨h'', x + 1, rfl, hrest, hlt, by rw [htk, ← List.append_assoc]; exact hd'', hoo'', hs'.trans hs''⟩
  · rintro b s' ⟨h', i, rfl, hr, hi, hd', hoo', hs'⟩
    have hin : i = eso.size := by
      rcases Nat.lt_or_ge i eso.size with h | h
      · have e : eso.size - i = (eso.size - (i + 1)) + 1 := by (first | lia | omega)
        rw [e, List.range'_succ] at hr; exact nomatch hr
      · exact Nat.le_antisymm hi h
    refine wpAny_pure (hQ h' ?_ hs')
    rw [hin, ← hlen, List.take_length] at hd'; exact hd'
end
section
variable {w : World} {A : Around} {E : Value → Shared → Prop} {s : Shared} {g : Heap} {L : Addr} {m mg mb : Str → Option Value} {env : Env}
structure Kv1 (w : World) (A : Around) (g : Heap) (L : Addr) (m : Str → Option Value) (p : Sem Value × Sem Value) (x : Int × Value) : Prop where
  k : ∀ {Q : Value → Shared → Prop} {E s}, Fr g L s.heap m → (∀ key t, (PySem.intKind PR w).is x.1 key = true → Q key { s with toks := t }) → wpAny (model PR w) A p.1 Q E s
  v : ∀ {Q : Value → Shared → Prop} {E s}, Fr g L s.heap m → (∀ t, Q x.2 { s with toks := t }) → wpAny (model PR w) A p.2 Q E s
inductive Kvs (w : World) (A : Around) (g : Heap) (L : Addr) (m : Str → Option Value) : List (Sem Value × Sem Value) → List (Int × Value) → Prop
  | nil : Kvs w A g L m [] []
  | cons {p x ps xs} : Kv1 w A g L m p x → Kvs w A g L m ps xs → Kvs w A g L m (p :: ps) (x :: xs)
theorem Kvs.pairs {ps : List (Sem Value × Sem Value)} {xs : List (Int × Value)} (k : Kvs w A g L m ps xs) : ∀ {Q : List (Value × Value) → Shared → Prop} {E s}, Fr g L s.heap m → (∀ vs t, Carries (PySem.intKind PR w) vs xs → Q vs { s with toks := t }) → wpAny (model PR w) A (evalPairs ps) Q E s := by
  induction k with
  | nil => exact fun F h => evalPairs_nil (h [] _ trivial)
  | cons a b ih =>
    intro Q E s F h
    refine evalPairs_cons (a.k F fun key t hk => a.v F fun t2 => ih F fun vs t3 hc => ?_)
    exact h _ _ ⟨hk, rfl, hc⟩
theorem Kvs.loop {ps : List (Sem Value × Sem Value)} {xs : List (Int × Value)} (k : Kvs w A g L m ps xs) : ∀ {Q : PUnit → Shared → Prop} {E s d o acc all}, Fr g L s.heap m → News g L s.heap ((d, o) :: all) → (∀ p ∈ all, p.1 ≠ d) → o.IsDictOf (PySem.intKind PR w) acc → acc.length + xs.length ≤ 1000 →
    (∀ h' o' t, Fr g L h' m → News g L h' ((d, o') :: all) → o'.IsDictOf (PySem.intKind PR w) (merged acc xs) → Q PUnit.unit { s with heap := h', toks := t }) →
    wpAny (model PR w) A (forIn ps PUnit.unit fun (x : Sem Value × Sem Value) (_ : PUnit) => (do
      let kv ← x.1
      let vv ← holding [kv] x.2
      holding [kv, vv] (dictSet d kv vv)
      pure (ForInStep.yield PUnit.unit) : Sem (ForInStep PUnit))) Q E s := by
  induction k with
  | nil =>
    intro Q E s d o acc all F N ha hd hz h
    rw [List.forIn_nil]
    exact wpAny_pure (h _ o _ F N hd)
  | @cons p x ps xs a b ih =>
    intro Q E s d o acc all F N ha hd hz h
    rw [List.forIn_cons]
    rw [List.length_cons] at hz
    refine wpAny_bind (wpAny_bind (a.k F fun key t hk => wpAny_bind (wpAny_holding (a.v F fun t2 => wpAny_bind (wpAny_holding ?_)))))
    have hm := N (d, o) (.head _)
    refine wpAny_dictSet_pairs (hsz := by rw [sizeLine_eq]; (first | lia | omega)) hk (Heap.dictOf_iff.mpr ⟨o, hm.1, hd⟩) fun h' hmm hs => ?_
    obtain ⟨o', ho', hd'⟩ := Heap.dictOf_iff.mp hmm
    refine wpAny_pure (ih (F.change hs hm.2.1 hm.2.2) (N.setHead ha hs ho') ha hd' (by have e := stored_length_le acc x.1 x.2; (first | lia | omega)) fun h'' o'' t3 F3 N3 hd3 => ?_)
    exact h h'' o'' t3 F3 N3 hd3
theorem Kvs.len {ps : List (Sem Value × Sem Value)} {xs : List (Int × Value)} (k : Kvs w A g L m ps xs) : ps.length = xs.length := by
  induction k with
  | nil => rfl
  | cons a b ih => rw [List.length_cons, List.length_cons, ih]
theorem Kvs.split {xs : List (Int × Value)} : ∀ {n : Nat} {ps : List (Sem Value × Sem Value)}, Kvs w A g L m ps xs → Kvs w A g L m (ps.take n) (xs.take n) ∧ Kvs w A g L m (ps.drop n) (xs.drop n) := by
  intro n ps k
  induction k generalizing n with
  | nil => rw [List.take_nil, List.take_nil, List.drop_nil, List.drop_nil]; exact ⟨.nil, .nil⟩
  | cons a b ih => cases n with
    | zero => exact ⟨.nil, .cons a b⟩
    | succ n => exact ⟨.cons a (ih (n := n)).1, (ih (n := n)).2⟩
theorem Kvs.sub {ps : List (Sem Value × Sem Value)} {xs : List (Int × Value)} {all : Objs} {Q : Addr → Shared → Prop} (k : Kvs w A g L m ps xs) (F : Fr g L s.heap m) (N : News g L s.heap all) (hn : (xs.map (·.1)).Nodup) (hz : xs.length ≤ 100)
    (h : ∀ h' o' t, Fr g L h' m → News g L h' ((s.heap.objs.size, o') :: all) → (∀ p ∈ all, p.1 ≠ s.heap.objs.size) → o'.IsDictOf (PySem.intKind PR w) xs → Q s.heap.objs.size { s with heap := h', toks := t }) : wpAny (model PR w) A (subDict ps) Q E s := by
  have N1 := News.push F N { cls := .type "dict", data := .dict #[] }
  have F1 := F.push { cls := .type "dict", data := .dict #[] }
  have hmg := merged_nil_of_nodup xs hn
  have hnew : (s.heap.push { cls := .type "dict", data := .dict #[] }).DictOf (PySem.intKind PR w) s.heap.objs.size [] := Heap.DictOf.new s.heap
  by_cases hl : ps.length ≤ 15
  · refine wpAny_subDict (knd := PySem.intKind PR w) hl (k.pairs F1 fun vs t hc => ⟨xs, hc, hnew, fun h' hmm hs => ?_⟩)
    rw [hmg] at hmm
    obtain ⟨o', ho', hd'⟩ := Heap.dictOf_iff.mp hmm
    exact h h' o' _ (F1.change hs (N1 _ (.head _)).2.1 (N1.fresh (.head _))) (N1.setHead N.apart hs ho') N.apart hd'
  · unfold subDict
    refine wpAny_bind (wpAny_alloc ?_)
    refine wpAny_bind (wpAny_holding ?_)
    rw [if_neg hl]
    refine wpAny_bind (wpAny_rule ?_)
    obtain ⟨o0, ho0, hd0⟩ := Heap.dictOf_iff.mp hnew
    have e0 : o0 = { cls := .type "dict", data := .dict #[] } := Option.some.inj (ho0.symm.trans (N1 _ (.head _)).1)
    subst e0
    refine wpAny_bind (k.loop F1 N1 N.apart hd0 (by simp only [List.length_nil]; (first | lia | omega)) fun h' o' t F' N' hd' => ?_)
    rw [hmg] at hd'
    exact wpAny_pure (wpAny_pure (h h' o' t F' N' N.apart hd'))
theorem gather2 (f : (Option (Sem Value) × Sem Value) → (Option Addr × List (Sem Value × Sem Value)) → Sem (ForInStep (Option Addr × List (Sem Value × Sem Value)))) (mn : Option Addr)
    (hf : ∀ (p : Sem Value × Sem Value) (run : List (Sem Value × Sem Value)), run.length + 1 < 17 → f (some p.1, p.2) (mn, run) = pure (.yield (mn, run ++ [p]))) (rest : List (Option (Sem Value) × Sem Value)) :
    ∀ (items run : List (Sem Value × Sem Value)), run.length + items.length < 17 → forIn (items.map (fun p => (some p.1, p.2)) ++ rest) (mn, run) f = forIn rest (mn, run ++ items) f
  | [], run, _ => by simp
  | p :: items, run, h => by
    rw [List.map_cons, List.cons_append, List.forIn_cons, hf p run (by simp at h; (first | lia | omega)), pure_bind]
    have := gather2 f mn hf rest items (run ++ [p]) (by simp at h ⊢; (first | lia | omega))
    simpa using this
theorem gather3 (f : (Option (Sem Value) × Sem Value) → (Option Addr × List (Sem Value × Sem Value)) → Sem (ForInStep (Option Addr × List (Sem Value × Sem Value)))) (mn : Option Addr)
    (hf : ∀ (p : Sem Value × Sem Value) (run : List (Sem Value × Sem Value)), run.length + 1 < 17 → f (some p.1, p.2) (mn, run) = pure (.yield (mn, run ++ [p])))
    (items : List (Sem Value × Sem Value)) (h : items.length < 17) : forIn (items.map (fun p => (some p.1, p.2))) (mn, []) f = pure (mn, items) := by
  have := gather2 f mn hf [] items [] (by simpa using h)
  simpa using this
theorem display2 {p1 p2 : List (Sem Value × Sem Value)} {q : Sem Value × Sem Value} {x1 x2 : List (Int × Value)} {all : Objs} {Q : Value → Shared → Prop} (h1 : p1.length = 16) (h2 : p2.length < 17) (h0 : p2 ≠ [])
    (k1 : Kvs w A g L m (p1 ++ [q]) x1) (k2 : Kvs w A g L m p2 x2) (F : Fr g L s.heap m) (hbig : g.NoLimit) (N : News g L s.heap all) (hn : ((x1 ++ x2).map (·.1)).Nodup)
    (h : ∀ h' o' t, Fr g L h' m → News g L h' ((s.heap.objs.size, o') :: all) → (∀ p ∈ all, p.1 ≠ s.heap.objs.size) → o'.IsDictOf (PySem.intKind PR w) (x1 ++ x2) → Q (.ref s.heap.objs.size) { s with heap := h', toks := t }) :
    wpAny (model PR w) A (dictDisplay ((p1 ++ q :: p2).map fun p => (some p.1, p.2))) Q E s := by
  have l1 : x1.length = 17 := by rw [← k1.len]; simp [h1]
  have l2 : x2.length = p2.length := k2.len.symm
  have hx := hn
  rw [List.map_append, List.nodup_append] at hx
  unfold dictDisplay
  dsimp only
  rw [List.map_append]
  rw [gather2 _ none (fun p run h => by
    have hne : ((run ++ [(p.1, p.2)]).length == 17) = false := by simp; (first | lia | omega)
    simp only [hne, Bool.false_eq_true, if_false]) _ p1 [] (by simp; (first | lia | omega))]
  rw [List.map_cons, List.forIn_cons]
  have e17 : ((([] ++ p1) ++ [(q.1, q.2)]).length == 17) = true := by simp [h1]
  have ene : (([] ++ p1) ++ [(q.1, q.2)]).isEmpty = false := by simp
  refine wpAny_bind (wpAny_bind ?_)
  dsimp only
  rw [if_pos e17]
  refine wpAny_bind ?_
  rw [if_neg (by rw [ene]; exact Bool.false_ne_true)]
  refine wpAny_bind ?_
  refine Kvs.sub (ps := p1 ++ [q]) k1 F N hx.1 (by (first | lia | omega)) fun g1 o1 t1 F1 N1 A1 D1 => ?_
  refine wpAny_pure (wpAny_pure ?_)
  dsimp only
  rw [gather3 _ (some s.heap.objs.size) (fun p run h => by
    have hne : ((run ++ [(p.1, p.2)]).length == 17) = false := by simp; (first | lia | omega)
    simp only [hne, Bool.false_eq_true, if_false]) p2 h2]
  refine wpAny_pure ?_
  have e2 : p2.isEmpty = false := by cases p2 with
    | nil => exact absurd rfl h0
    | cons => rfl
  dsimp only
  refine wpAny_bind ?_
  rw [if_neg (by rw [e2]; exact Bool.false_ne_true)]
  refine wpAny_bind (wpAny_holding ?_)
  refine k2.sub F1 N1 hx.2.1 (by (first | lia | omega)) fun g2 o2 t2 F2 N2 A2 D2 => ?_
  refine wpAny_bind (wpAny_onRaise (wpAny_holding ?_))
  have a1 := N2 _ (.tail _ (.head _))
  have a2 := N2 _ (.head _)
  refine merge_new (A2 _ (.head _)) (F1.notModules (modules_low hbig)) (fun e => by rw [e] at l1; exact nomatch l1) (Heap.dictOf_iff.mpr ⟨o1, a1.1, D1⟩) (Heap.dictOf_iff.mpr ⟨o2, a2.1, D2⟩) hn (by rw [sizeLine_eq]; (first | lia | omega)) fun g3 hm3 hs3 => ?_
  obtain ⟨o3, ho3, hd3⟩ := Heap.dictOf_iff.mp hm3
  have N3 : News g L g2 ((s.heap.objs.size, o1) :: all) := fun p hp => N2 p (.tail _ hp)
  exact wpAny_pure (wpAny_pure (h g3 o3 _ (F2.change hs3 a1.2.1 a1.2.2) (N3.setHead A1 hs3 ho3) A1 hd3))
end
noncomputable def psOf (env : Env) (pos : Pos) : List (Option Expr) → List Expr → List (Sem Value × Sem Value)
  | some k :: ks, v :: vs => (eval k env, do let x ← eval v env; standAt pos; pure x) :: psOf env pos ks vs
  | _, _ => []
noncomputable def keyInt : Option Expr → Option Int
  | some (.Constant (.int i) _ _) => some i
  | _ => none
noncomputable def nameStr : Expr → Option Str
  | .Name x _ => some x
  | _ => none
noncomputable def dispOf (K : Frag) (env : Env) : List (Option Expr) → List Expr → Option (List (Int × Value))
  | [], vs => match vs with
    | [] => some []
    | _ :: _ => none
  | k :: ks, vs => match vs with
    | [] => none
    | v :: vs => (keyInt k).bind fun i => (nameStr v).bind fun x => if nmGlo env x = true then (nsIn K mainGlobals x).bind fun o => o.bind fun u => (dispOf K env ks vs).bind fun r => some ((i, u) :: r) else none
theorem keyInt_inv {k : Option Expr} {i : Int} (h : keyInt k = some i) : ∃ a b, k = some (.Constant (.int i) a b) := by
  unfold keyInt at h
  split at h
  · cases h; exact ⟨_, _, rfl⟩
  · cases h
theorem nameStr_inv {e : Expr} {x : Str} (h : nameStr e = some x) : ∃ c, e = .Name x c := by
  unfold nameStr at h
  split at h
  · cases h; exact ⟨_, rfl⟩
  · cases h
theorem dispOf_inv {K : Frag} {env : Env} {k : Option Expr} {ks : List (Option Expr)} {v : Expr} {vs : List Expr} {xs : List (Int × Value)} (h : dispOf K env (k :: ks) (v :: vs) = some xs) :
    ∃ i a b x c u r, k = some (.Constant (.int i) a b) ∧ v = .Name x c ∧ nmGlo env x = true ∧ nsIn K mainGlobals x = some (some u) ∧ dispOf K env ks vs = some r ∧ xs = (i, u) :: r := by
  simp only [dispOf] at h
  obtain ⟨i, hi, h⟩ := Option.bind_eq_some_iff.mp h
  obtain ⟨x, hx, h⟩ := Option.bind_eq_some_iff.mp h
  split at h
  · obtain ⟨o, ho, h⟩ := Option.bind_eq_some_iff.mp h
    obtain ⟨u, hu, h⟩ := Option.bind_eq_some_iff.mp h
    obtain ⟨r, hr, h5⟩ := Option.bind_eq_some_iff.mp h
    obtain ⟨a, b, rfl⟩ := keyInt_inv hi
    obtain ⟨c, rfl⟩ := nameStr_inv hx
    subst hu
    exact ⟨i, a, b, x, c, u, r, rfl, rfl, ‹_›, ho, hr, (Option.some.inj h5).symm⟩
  · cases h
section
variable {w : World} {A : Around} {E : Value → Shared → Prop} {s : Shared} {g : Heap} {L a : Addr} {m mg mb : Str → Option Value} {cn : Str} {cs : Scope} {ccd : Value} {cl : List (Str × Addr)} {p : Program} {loose : List Str} {mean : ExcName → Option Value} {pos : Pos}
theorem disp_zip {K : Frag} {env : Env} (ks : List (Option Expr)) : ∀ (vs : List Expr) {xs : List (Int × Value)}, dispOf K env ks vs = some xs →
    (evalEachOpt ks env).zip ((evalEach vs env).map fun v => do let x ← v; standAt pos; pure x) = (psOf env pos ks vs).map fun p => (some p.1, p.2) := by
  induction ks with
  | nil => intro vs xs h; rfl
  | cons k ks ih =>
    intro vs xs h
    cases vs with
    | nil => simp only [dispOf] at h; cases h
    | cons v vs =>
      obtain ⟨i, a0, b, x, c, u, r, rfl, rfl, h1, h2, h3, rfl⟩ := dispOf_inv h
      exact congrArg (List.cons (some (eval (.Constant (.int i) a0 b) env), do let x ← eval (.Name x c) env; standAt pos; pure x)) (ih vs h3)
theorem disp_kvs (X : (KK w.params).In g) (T : Top p loose mean mg mb g) (ks : List (Option Expr)) : ∀ (vs : List Expr) {xs : List (Int × Value)}, dispOf (KK w.params) (envX cn cs L a ccd cl) ks vs = some xs →
    Kvs w A g L m (psOf (envX cn cs L a ccd cl) pos ks vs) xs := by
  induction ks with
  | nil =>
    intro vs xs h
    cases vs with
    | nil => simp only [dispOf, Option.some.injEq] at h; subst h; exact .nil
    | cons v vs => simp only [dispOf] at h; cases h
  | cons k ks ih =>
    intro vs xs h
    cases vs with
    | nil => simp only [dispOf] at h; cases h
    | cons v vs =>
      obtain ⟨i, a0, b, x, c, u, r, rfl, rfl, h1, h2, h3, rfl⟩ := dispOf_inv h
      refine .cons ⟨fun F hq => ?_, fun F hq => ?_⟩ (ih vs h3)
      · exact wpAny_Constant_int (k := a0) (pos := b) (env := envX cn cs L a ccd cl) (hq _ _ (intKind_is _ _ _ _))
      · exact wpAny_bind (Ev.nameK F X T h2 h1.symm _ _ _ rfl (wpAny_bind (wpAny_standAt (wpAny_pure (hq _)))))
theorem disp_K {ks : List (Option Expr)} {vs : List Expr} {xs : List (Int × Value)} {all : Objs} {Q : Value → Shared → Prop} (e : dispOf (KK w.params) (envX cn cs L a ccd cl) ks vs = some xs) (hn : xs.length ≤ 15 ∨ xs.length = 25) (h0 : xs ≠ []) (hd : (xs.map (·.1)).Nodup)
    (F : Fr g L s.heap m) (X : (KK w.params).In g) (T : Top p loose mean mg mb g) (hbig : g.NoLimit) (N : News g L s.heap all)
    (h : ∀ D h' o' t, Fr g L h' m → News g L h' ((D, o') :: all) → (∀ p ∈ all, p.1 < D) → (D == sysModules) = false → o'.IsDictOf (PySem.intKind PR w) xs → Q (.ref D) { s with heap := h', toks := t }) :
    wpAny (model PR w) A (eval (.Dict ks vs pos) (envX cn cs L a ccd cl)) Q E s := by
  have hk := disp_kvs (A := A) (m := m) (L := L) (pos := pos) (cn := cn) (cs := cs) (ccd := ccd) (cl := cl) X T ks vs e
  have h' : ∀ h' o' t, Fr g L h' m → News g L h' ((s.heap.objs.size, o') :: all) → (∀ p ∈ all, p.1 ≠ s.heap.objs.size) → o'.IsDictOf (PySem.intKind PR w) xs → Q (.ref s.heap.objs.size) { s with heap := h', toks := t } :=
    fun h' o' t F' N' _ D' => h _ h' o' t F' N' (fun p hp => Heap.lt_size (N p hp).1) (F.notModules (modules_low hbig)) D'
  rw [arm_eval_Dict, disp_zip ks vs e]
  refine wpAny_bind (wpAny_standAt ?_)
  rcases hn with hn | hn
  · rw [dictDisplay_pairs _ (fun q => by rw [q] at hk; cases hk; exact h0 rfl) (by rw [hk.len]; (first | lia | omega))]
    exact wpAny_bind (hk.sub F N hd (by (first | lia | omega)) fun h1 o1 t F1 N1 A1 D1 => wpAny_pure (h' h1 o1 t F1 N1 A1 D1))
  · generalize psOf (envX cn cs L a ccd cl) pos ks vs = ps at hk ⊢
    have hl := hk.len
    have e1 : ps = ps.take 16 ++ ps.drop 16 := (List.take_append_drop 16 ps).symm
    have h9 : (ps.drop 16).length = 9 := by rw [List.length_drop]; (first | lia | omega)
    obtain ⟨q, p2, hq⟩ : ∃ q p2, ps.drop 16 = q :: p2 := by
      cases z : ps.drop 16 with
      | nil => rw [z] at h9; exact nomatch h9
      | cons a b => exact ⟨a, b, rfl⟩
    have h8 : p2.length = 8 := by rw [hq] at h9; simpa using h9
    rw [hq] at e1
    have et : ps.take 17 = ps.take 16 ++ [q] := by
      rw [show 17 = 16 + 1 from rfl, List.take_add, hq]; rfl
    have ed : ps.drop 17 = p2 := by
      have : ps.drop 17 = (ps.drop 16).drop 1 := by rw [List.drop_drop]
      rw [this, hq]; rfl
    have hs := hk.split (n := 17)
    rw [et, ed] at hs
    have ex : xs.take 17 ++ xs.drop 17 = xs := List.take_append_drop 17 xs
    rw [e1]
    refine display2 (by rw [List.length_take]; (first | lia | omega)) (by (first | lia | omega)) (fun q => by rw [q] at h8; exact nomatch h8) hs.1 hs.2 F hbig N (by rw [ex]; exact hd) ?_
    rw [ex]
    exact h'
theorem asg_disp {ks : List (Option Expr)} {vs : List Expr} {xs : List (Int × Value)} {all : Objs} {hh : Heap} {gs : Array GenState} {dr : Drawn} {tk : Nat} {os : OsState} {x : Str} {xp pos2 : Pos} {QF : Flow → Shared → Prop} (e : dispOf (KK w.params) (envX cn cs L a ccd cl) ks vs = some xs) (hn : xs.length ≤ 15 ∨ xs.length = 25) (h0 : xs ≠ []) (hd : (xs.map (·.1)).Nodup)
    (F : Fr g L hh m) (X : (KK w.params).In g) (T : Top p loose mean mg mb g) (hbig : g.NoLimit) (N : News g L hh all) (hc : true = nmLoc (envX cn cs L a ccd cl) x) (hs : swapsWith (.Dict ks vs pos) (some (.Name x xp)) pos2.line (envX cn cs L a ccd cl) = pure false)
    (hq : ∀ D h' o' t, Fr g L h' (fun y => if y = x then some (.ref D) else m y) → News g L h' ((D, o') :: all) → (D == sysModules) = false → o'.IsDictOf (PySem.intKind PR w) xs → QF .next ⟨h', gs, dr, t, os⟩) :
    wpAny (model PR w) A (exec (.Assign [.Name x xp] (.Dict ks vs pos) pos2) (envX cn cs L a ccd cl)) QF E ⟨hh, gs, dr, tk, os⟩ := by
  simp only [nmLoc, Bool.true_eq, Bool.and_eq_true, decide_eq_true_eq, Bool.not_eq_true'] at hc
  exact wpAny_Assign_Name (disp_K (s := ⟨hh, gs, dr, tk, os⟩) e hn h0 hd F X T hbig N fun D h' o' t F' N' A' lo hd' => storeX_L (s := ⟨h', gs, dr, t, os⟩) F' N' (fun h'' F'' N'' => hq D h'' o' _ F'' N'' lo hd') hc.1.1 hc.1.2) hs
end
end
section
open PySem PySem.W PySem.Calls PySem.Spec PyProof.Rows PyProof.V
open Sem (wp)
section
variable {w : World} {A : Around} {E : Value → Shared → Prop} {g h : Heap} {L l : Addr} {m : Str → Option Value} {gs : Array GenState} {dr : Drawn} {tk : Nat} {os : OsState}
theorem bytes_K {vs : List Value} {ns : List Int} {all : Objs} {Q : Value → Shared → Prop} (F : Fr g L h m) (N : News g L h all) (hl : h.IsList l vs.toArray) (hi : IntsAre vs ns) (hr : KBa.In ns) (hz : vs.length ≤ 1000) (hh : A.handled = none)
    (hQ : ∀ h' t tk', Fr g L h' m → News g L h' all → Q (.bytes (byteArr ns) t) ⟨h', gs, dr, tk', os⟩) : wpAny (model PR w) A (call (.type "bytes") [.ref l]) Q E ⟨h, gs, dr, tk, os⟩ := by
  refine call_bytes_ints (s := ⟨h, gs, dr, tk, os⟩) hl hi hr (by rw [sizeLine_eq]; (first | lia | omega)) hh fun h' t k hk => ?_
  obtain ⟨oL, a1, a2, hL, a3⟩ := F.ns
  exact hQ h' t k ⟨⟨oL, a1, a2, hk _ _ hL, a3⟩, fun b o e => hk _ _ (F.keep b o e), F.above⟩ fun p hp => ⟨hk _ _ (N p hp).1, (N p hp).2.1, (N p hp).2.2⟩
end
theorem Post.outer {g h0 h h' : Heap} {L : Addr} {m : Str → Option Value} {N objs0 objs0' objs objs' new : Objs} (G : Gd g h0 (ads objs0)) (F : Fr g L h m) (Nw : News g L h N) (P : Post h h' objs objs' new) (S1 : ads objs ⊆ ads N) (S0 : ads objs0 ⊆ ads N) (S2 : objs0' ⊆ objs') : Post h0 h' objs0 objs0' new := by
  cases G.eq
  refine ⟨fun b o hb q => ?_, fun p hp => ?_, fun p hp => ?_, P.nd⟩
  · have hg := hideAll_get _ q hb
    refine P.kept b o (fun z => ?_) (F.keep b o hg)
    obtain ⟨o', ho⟩ := mem_ads (S1 z)
    have := (Nw _ ho).2.2
    rw [this] at hg; cases hg
  · rcases List.mem_append.mp hp with a | a
    · exact P.led p (List.mem_append_left _ a)
    · exact P.led p (List.mem_append_right _ (S2 a))
  · have f := P.fresh p hp
    cases e : h0.get? p.1 with
    | none => rfl
    | some o =>
      exfalso
      by_cases z : p.1 ∈ ads objs0
      · obtain ⟨o', ho⟩ := mem_ads (S0 z)
        have := (Nw _ ho).1
        rw [f] at this; cases this
      · have := F.keep _ _ (hideAll_get _ e z)
        rw [f] at this; cases this
end
section
open PySem PySem.W PySem.Calls PySem.Spec PyProof.Rows PyProof.V
open Sem (wp)
section
variable {prog : Program} {w : World} {A : Around} {E : Value → Shared → Prop} {h : Heap} {g : Array GenState} {d : Drawn} {t : Nat} {os : OsState}
variable {nm q : Str} {C N P : Addr} {bs bm bmB : List Value} {hdct : Bool} {sn : List Str} {sub : List Value} {ab : Bool} {col : Option Bool} {dd ddP : Option Addr} {k0 k1 k2 k3 k5 : Option Value} {B newId initId : String} {c0 : Value} {cd : ClassData} {sl : Array (Option Value)}
theorem exc_chk (F : ExcBaseFacts B newId initId bmB) (cB : (Value.ref C :: bm).contains (.type B) = true) {rest : List Value} {Q : Unit → Shared → Prop} (hC : h.get? C = some (excClassObj nm q C N bs bm hdct sn sub ab col dd k0 k1 k2 k3 k5 newId))
    (hq : Q () ⟨h, g, d, t, os⟩) : wpAny (model prog w) A (checkBuiltinCall newId ⟨.ref C :: rest, []⟩) Q E ⟨h, g, d, t, os⟩ := by
  have hstar := F.noStar
  simp only [checkBuiltinCall, F.newKind, F.newSplit, F.newRow]
  repeat (first | with_reducible refine wpAny_loadPart_at hC ?_ | (with_reducible refine wpAny_isSubtype_exc hC ?_; rw [cB]) | with_reducible refine wpAny_staticBase_exc hC ?_ | with_reducible refine wpAny_madeBy_exc hC ?_ | simp only [bne_self_eq_false, Bool.false_eq_true, if_false] | wp_step)
  exact hq
theorem exc_new {R : Result → Shared → Prop} (F : ExcBaseFacts B newId initId bmB) (cB : (Value.ref C :: bm).contains (.type B) = true) (cA : (Value.ref C :: bm).contains (.type "AttributeError") = false) (cN : (Value.ref C :: bm).contains (.type "NameError") = false) {rest : List Value}
    (hC : h.get? C = some (excClassObj nm q C N bs bm hdct sn sub ab col dd k0 k1 k2 k3 k5 newId))
    (hq : R (.ok (.ret (.ref (h.objs.size + 1)))) ⟨(h.push { cls := .type "tuple", data := .seq rest.toArray }).push
      { cls := .ref C, data := .fields #[.ref h.objs.size, .none, .none, .none, .bool false, .none] }, g, d, t, os⟩) (hrest : rest.length ≤ sizeLine) :
    codeAny (model prog w) A (.builtin newId ⟨.ref C :: rest, []⟩) R ⟨h, g, d, t, os⟩ := by
  have hends := F.ends
  refine codeAny_builtinAt F.entry ?_
  unfold Builtin.«BaseException.__new__»
  refine PySem.wpAt_bind ?_
  show PySem.wpAt _ _ _ (stack >>= _) _ _ _
  refine PySem.wpAt_bind (PySem.wpAt_stack fun p below => PySem.wpAt_of_wpAny ?_)
  wp_walk
  refine PySem.wpAt_of_wpAny ?_
  rw [F.owner]
  repeat (first | with_reducible refine wpAny_madeHere_exc F.canon hC ?_ | with_reducible refine wpAny_loadPart_at hC ?_ | (with_reducible refine wpAny_isSubtype_exc hC ?_; first | rw [cB] | rw [cA] | rw [cN]) | wp_step)
  show R _ _
  rw [Heap.size_push]
  exact hq
theorem exc_call_type {K : Frag} (F : ExcBaseFacts B newId initId bmB) {rest : List Value} {fI : Addr} {oI : Obj} {Q : Fin → Shared → Prop} (X : K.In h)
    (hC : h.get? C = some (excClassObj nm q C N bs (.ref P :: bmB) hdct sn sub ab col dd k0 k1 k2 k3 k5 newId)) (hi : findIn K (.ref C) "__init__" = some (some (.ref fI))) (hfI : h.get? fI = some oI) (hfc : oI.cls = .type "function")
    (hq : ∀ h' e, Heap.MadeExcOf h h' e (.ref C) rest →
      wpAny (model prog w) A (call (.ref fI) (.ref e :: rest)) (fun r s' => r = .none ∧ Q (.done (.ret (.ref e))) s') E ⟨h', g, d, t, os⟩) (hrest : rest.length ≤ sizeLine) :
    wpAny (model prog w) A (Builtin.«type.__call__» ⟨.ref C :: rest, []⟩) Q E ⟨h, g, d, t, os⟩ := by
  have cB : (Value.ref C :: .ref P :: bmB).contains (.type B) = true := by rw [List.contains_cons, List.contains_cons, F.hasB, Bool.or_true, Bool.or_true]
  have cA : (Value.ref C :: .ref P :: bmB).contains (.type "AttributeError") = false := by rw [List.contains_cons, List.contains_cons, F.noAttr]; rfl
  have cN : (Value.ref C :: .ref P :: bmB).contains (.type "NameError") = false := by rw [List.contains_cons, List.contains_cons, F.noName]; rfl
  repeat (first | with_reducible refine wpAny_loadPart_at hC ?_ | with_reducible refine wpAny_madeBy_exc hC ?_ | wp_step)
  refine codeAny_call_builtin_code (Code.quiet_builtin _ F.quiet) (exc_chk F cB hC ?_)
  refine exc_new F cB cA cN hC ?_ hrest
  show wpAny _ _ _ _ _ _
  have up : ∀ b o, h.get? b = some o → ((h.push { cls := .type "tuple", data := .seq rest.toArray }).push { cls := .ref C, data := .fields #[.ref h.objs.size, .none, .none, .none, .bool false, .none] }).get? b = some o := fun b o e => Heap.get?_push_of_some _ (Heap.get?_push_of_some _ e)
  have hC₁ := up _ _ hC
  have hfI₁ := up _ _ hfI
  have hget : ((h.push { cls := .type "tuple", data := .seq rest.toArray }).push
      { cls := .ref C, data := .fields #[.ref h.objs.size, .none, .none, .none, .bool false, .none] }).get? (h.objs.size + 1) = some
      { cls := .ref C, data := .fields #[.ref h.objs.size, .none, .none, .none, .bool false, .none] } := by heap_get
  have hcC : (Value.ref C :: .ref P :: bmB).contains (.ref C) = true := by simp
  unfold isInstance
  repeat (first | with_reducible refine wpAny_loadPart_at hget ?_ | (with_reducible refine wpAny_isSubtype_exc hC₁ ?_; rw [hcC]) | wp_step)
  show wpAny _ _ (typeLookup (.ref C) _) _ _ _
  refine (looks_findIn X hi) _ _ _ _ up ?_
  refine wpAny_holding (wpAny_bind ?_)
  unfold bindSpecial
  refine wpAny_bind (wpAny_typeOf (T := "function") ⟨_, hfI₁, hfc⟩ ?_)
  rw [if_pos (by decide)]
  refine wpAny_pure (wpAny_bind (wpAny_mono (hq _ (h.objs.size + 1) ⟨up, Heap.get?_none_of_le (Nat.le_succ _), h.objs.size, hget, Heap.get?_none_of_le (Nat.le_refl _), ?_⟩) (fun r s' hr => ?_) fun _ _ x => x))
  · exact Heap.get?_push_of_some _ (Heap.get?_push_at rfl rfl)
  · obtain ⟨rfl, hQ⟩ := hr
    wp_walk
    exact hQ
end
end
section
open PySem PySem.W PySem.Calls PySem.Spec PyProof.Rows PyProof.V
open Sem (wp)
open Builtin Builtin.ObjectAttr
section
variable {prog : Program} {w : World} {A : Around} {E : Value → Shared → Prop} {h : Heap} {g : Array GenState} {d : Drawn} {t : Nat} {os : OsState} {K : Frag} {x C P : Addr} {cd : ClassData} {name : Str} {tk : Tok} {v : Value} {vs : Array Value} {sl : Array (Option Value)}
theorem exc_put {R : Result → Shared → Prop} (X : K.In h) (hx : h.get? x = some ⟨.ref C, none, .fields vs, sl⟩) (hcd : clsIn K C = some cd) (hm : cd.mro = .ref C :: .ref P :: [.type "Exception", .type "BaseException", .type "object"]) (hh : cd.hasDict = true) (ht : findIn K (.ref C) name = some none)
    (hq : ∀ h' tk', h'.get? x = some ⟨.ref C, some h.objs.size, .fields vs, sl⟩ → (∀ b o, b ≠ x → h.get? b = some o → h'.get? b = some o) → R (.ok (.ret .none)) ⟨h', g, d, tk', os⟩) :
    codeAny (model prog w) A (.call (.builtin "object.__setattr__") ⟨[.ref x, .str name tk, v], []⟩) R ⟨h, g, d, t, os⟩ := by
  have SF := PySem.F.store_Exception
  have I : InstAt h x ⟨.ref C, none, .fields vs, sl⟩ C none := ⟨hx, rfl, rfl, trivial⟩
  have sub : Looks (model prog w) h (isInstance (.ref x) (.type "object")) true := I.type.andThen (looks_mroIn X (by unfold mroIn; rw [hcd, Option.bind_some, hm]; rfl))
  refine codeAny_call_builtin SF.slot.plain SF.entry (@check_slot (model prog w) _ _ ⟨h, g, d, t, os⟩ "object.__setattr__" "object" "__setattr__" (.ref x) [.str name tk, v] [] _ SF.kind SF.split sub (SF.args (.ref x) (.str name tk) v) ?_)
  have hm' : Looks (model prog w) h (mroOf (.ref C)) cd.mro := (looks_clsIn X hcd).andThen .now
  rw [osa_eq, refuse_eq]
  refine wpAny_bind (wpAny_bind (I.type.here (wpAny_bind (hm'.here ?_))))
  rw [hm, refuseLoop_ref, refuseLoop_ref, SF.passes]
  refine wpAny_pure (wpAny_bind (I.type.here (wpAny_bind ((looks_findIn X ht).here (wpAny_bind (wpAny_pure ?_))))))
  refine wpAny_bind (wpAny_pure (wpAny_bind (wpAny_bind (wpAny_loadPart hx (wpAny_bind ((looks_clsIn X hcd).here ?_))))))
  rw [hh]
  have hx₁ : (h.push { cls := .type "dict", data := .dict #[] }).get? x = some ⟨.ref C, none, .fields vs, sl⟩ := Heap.get?_push_of_some _ hx
  have hxs : x ≠ h.objs.size := Nat.ne_of_lt (Heap.lt_size hx)
  refine wpAny_bind (wpAny_alloc' (wpAny_bind (wpAny_update' hx₁ (wpAny_bind (wpAny_pure (wpAny_pure ?_))))))
  have hgd : ((h.push { cls := .type "dict", data := .dict #[] }).update x fun o => { cls := o.cls, dict := some h.objs.size, data := o.data, slots := o.slots }).get? h.objs.size
      = some { cls := .type "dict", data := .dict #[] } := (Heap.get?_update_ne _ _ _ _ hxs.symm).trans (Heap.get?_push_at rfl rfl)
  have hnd : ((h.push { cls := .type "dict", data := .dict #[] }).update x fun o => { cls := o.cls, dict := some h.objs.size, data := o.data, slots := o.slots }).Ns h.objs.size (fun _ => none) :=
    ⟨_, #[], _, hgd, rfl, fun e he => absurd he (by simp), fun _ => rfl⟩
  show wpAny _ _ (storeInDict h.objs.size (.str name tk) name v) _ _ _
  unfold storeInDict newKeyGuard
  refine wpAny_bind (wpAny_pure (wpAny_bind (wpAny_nsSet1 (Heap.Ns1.of_empty hnd) fun h' hn' hs => ?_)))
  obtain ⟨oD, esD, epD, hoD, hdD, hcD⟩ := hn'.count (Within.cons name v Within.nil)
  refine wpAny_bind (wpAny_lookBehind hoD (by rw [hdD]; exact pastItsLine_dict (Nat.le_trans hcD (by rw [List.length_cons, List.length_nil, sizeLine_eq]; (first | lia | omega)))) ?_)
  refine wpAny_pure (hq h' _ ?_ fun b o hb e => ?_)
  · exact (hs.2 x hxs).trans (Heap.get?_update_self _ hx₁ rfl)
  · exact (hs.2 b (Nat.ne_of_lt (Heap.lt_size e))).trans ((Heap.get?_update_ne _ _ _ _ hb).trans (Heap.get?_push_of_some _ e))
theorem exc_setN {L : Addr} {h₀ : Heap} {m : Str → Option Value} {news : Objs} {Q : Unit → Shared → Prop} (F : Fr h₀ L h m) (X₀ : K.In h₀) (N : News h₀ L h ((x, ⟨.ref C, none, .fields vs, sl⟩) :: news)) (nd : (ads ((x, (⟨.ref C, none, .fields vs, sl⟩ : Obj)) :: news)).Nodup)
    (hs : findIn K (.ref C) "__setattr__" = some (some (.builtin "object.__setattr__"))) (hcd : clsIn K C = some cd) (hm : cd.mro = .ref C :: .ref P :: [.type "Exception", .type "BaseException", .type "object"]) (hh : cd.hasDict = true) (ht : findIn K (.ref C) name = some none)
    (hq : ∀ h' tk' dx, Fr h₀ L h' m → News h₀ L h' ((x, ⟨.ref C, some dx, .fields vs, sl⟩) :: news) → Q () ⟨h', g, d, tk', os⟩) :
    wpAny (model prog w) A (setAttr (.ref x) name v) Q E ⟨h, g, d, t, os⟩ := by
  have Nx := N _ (.head _)
  have X := X₀.keeps F.keep
  refine set_plain (s := ⟨h, g, d, t, os⟩) (ox := ⟨.ref C, none, .fields vs, sl⟩) (od := none) X ⟨Nx.1, rfl, rfl, trivial⟩ hs (exc_put X Nx.1 hcd hm hh ht fun h' tk' hx hk => ?_)
  have gx : ∀ b o, h₀.get? b = some o → b ≠ x := fun b o e q => by rw [q, Nx.2.2] at e; cases e
  obtain ⟨oL, es, ep, hL, r⟩ := F.ns
  refine hq h' tk' h.objs.size ⟨⟨oL, es, ep, hk _ _ (fun q => Nx.2.1 q.symm) hL, r⟩, fun b o e => hk _ _ (gx b o e) (F.keep b o e), F.above⟩ fun p hp => ?_
  rcases List.mem_cons.mp hp with rfl | hp
  · exact ⟨hx, Nx.2.1, Nx.2.2⟩
  · have Np := N p (.tail _ hp)
    refine ⟨hk _ _ (fun q => (List.nodup_cons.mp nd).1 ?_) Np.1, Np.2.1, Np.2.2⟩
    have := ads_mem hp
    rw [q] at this
    exact this
end
section
variable {M : Model} {A : Around} {E : Value → Shared → Prop} {env : Env}
variable {nm q : Str} {C N : Addr} {bs bm : List Value} {hdct : Bool} {sn : List Str} {sub : List Value} {ab : Bool} {col : Option Bool} {dd : Option Addr} {k0 k1 k2 k3 k5 : Option Value} {newId : String}
theorem raise_own {s : Shared} {ex : Expr} {pos : Pos} {Q : Flow → Shared → Prop} (hbase : bm.contains (.type "BaseException") = true) (hh : A.handled = none)
    (h : wpAny M A (eval ex env) (fun v s₁ => ∃ e t dx, v = .ref e ∧ s₁.heap.get? C = some (excClassObj nm q C N bs bm hdct sn sub ab col dd k0 k1 k2 k3 k5 newId) ∧
      s₁.heap.get? e = some ⟨.ref C, some dx, .fields #[.ref t, .none, .none, .none, .bool false, .none], #[]⟩ ∧ E (.ref e) s₁) E s) :
    wpAny M A (exec (.Raise (some ex) none pos) env) Q E s := by
  have hcB : (Value.ref C :: bm).contains (.type "BaseException") = true := by rw [List.contains_cons, hbase, Bool.or_true]
  rw [arm_exec_Raise]
  refine wpAny_bind (wpAny_standAt ?_)
  show wpAny M A (raiseStmt env (some (eval ex env >>= fun v => standAt pos >>= fun _ => pure v)) none) Q E s
  unfold raiseStmt
  refine wpAny_bind (wpAny_bind (wpAny_mono h (fun v s₁ h₁ => wpAny_bind (wpAny_standAt (wpAny_pure ?_))) fun _ _ x => x))
  obtain ⟨e, t, dx, rfl, hC, he, hE⟩ := h₁
  obtain ⟨hp, g, d, tk, os⟩ := s₁
  repeat (first | with_reducible refine wpAny_loadPart_at he ?_ | with_reducible refine wpAny_loadPart_at hC ?_ | (with_reducible refine wpAny_isSubtype_exc hC ?_; rw [hcB]) | wp_step)
  exact wpAny_raiseNew_none hh hE
end
end
section
open PySem PySem.W PySem.Calls PySem.Spec PyProof.Rows PyProof.V
open Sem (wp)
theorem rng_small {M : Nat} (h : M ≤ 100) : Builtin.Range.small 0 (M : Int) 1 = true := by
  have e : Builtin.Range.rangeSize 0 (M : Int) 1 = (M : Int) := by
    unfold Builtin.Range.rangeSize
    rw [if_pos (by decide)]
    split <;> (first | lia | omega)
  unfold Builtin.Range.small
  rw [e]
  simp [Builtin.Range.rangeFitsLong]
  (first | lia | omega)
theorem rng_size (M : Nat) : Builtin.Range.rangeSize 0 (M : Int) 1 = (M : Int) := by
  unfold Builtin.Range.rangeSize
  rw [if_pos (by decide)]
  split <;> (first | lia | omega)
theorem News.tl1 {g h : Heap} {L : Addr} {a : Addr × Obj} {l : Objs} (N : News g L h (a :: l)) : News g L h l := fun p hp => N p (.tail _ hp)
theorem News.tup1 {g h : Heap} {L a : Addr} {vs : Array Value} {l : Objs} (N : News g L h ((a, { cls := .type "tuple", data := .seq vs }) :: l)) : News g L h l := fun p hp => N p (.tail _ hp)
section
variable {prog : Program} {w : World} {A : Around} {E : Value → Shared → Prop} {g hp : Heap} {gs : Array GenState} {dr : Drawn} {tk0 : Nat} {os : OsState} {x : Str} {body : List Stmt} {Q : Flow → Shared → Prop} {L a : Addr} {cn : Str} {cs : Scope} {ccd : Value} {cl : List (Str × Addr)}
theorem News.once {h : Heap} : ∀ {N : Objs}, (∀ p ∈ N, h.get? p.1 = some p.2) → ∃ N' : Objs, (∀ p, p ∈ N ↔ p ∈ N') ∧ (ads N').Nodup
  | [], _ => ⟨[], fun _ => Iff.rfl, List.nodup_nil⟩
  | p :: N, x => by
    obtain ⟨N', e, nd⟩ := News.once (N := N) fun q hq => x q (.tail _ hq)
    by_cases hb : p.1 ∈ ads N'
    · refine ⟨N', fun q => ⟨fun hq => ?_, fun hq => .tail _ ((e q).mpr hq)⟩, nd⟩
      rcases List.mem_cons.mp hq with rfl | hq
      · obtain ⟨o, ho⟩ := mem_ads hb
        have h1 := x _ (.tail _ ((e _).mpr ho))
        have h2 := x q (.head _)
        have h3 : o = q.2 := Option.some.inj (h1.symm.trans h2)
        rw [h3] at ho
        exact ho
      · exact (e q).mp hq
    · exact ⟨p :: N', fun q => by rw [List.mem_cons, List.mem_cons, e q], List.nodup_cons.mpr ⟨hb, nd⟩⟩
def EndG (g : Heap) (L : Addr) (J : (Str → Option Value) → Objs → Prop) (own : Objs) (s₁ s₂ : Shared) : Prop :=
  ∃ h' tk m' N nx, s₂ = { s₁ with heap := h', toks := tk } ∧ Fr g L h' m' ∧ News g L h' N ∧ (ads N).Nodup ∧ (nx ++ own).Sublist N ∧ J m' nx
def PostG (g : Heap) (L : Addr) (J : (Str → Option Value) → Objs → Prop) (own : Objs) (s₁ : Shared) (Q : Flow → Shared → Prop) (f : Flow) (s₂ : Shared) : Prop :=
  match f with
  | .ret v => Q (.ret v) s₂
  | .brk => Q .next s₂
  | _ => EndG g L J own s₁ s₂
theorem rngG {r : Addr} {M : Nat} {t₀ u₀ v₀ : Tok} {m₀ : Str → Option Value} {news : Objs} (J : Nat → (Str → Option Value) → Objs → Prop)
    (hh : A.handled = none) (hr : IsRange hp r 0 (M : Int) 1 t₀ u₀ v₀) (hM : M ≤ 100) (F : Fr g L hp m₀) (N : News g L hp news) (nd : (ads news).Nodup) (hj : J 0 m₀ news)
    (turn : ∀ (i : Nat) t m₁ nx h tk own, i < M → J i m₁ nx → (ads (nx ++ own)).Nodup → Fr g L h (fun y => if y = x then some (.int (i : Int) t) else m₁ y) → News g L h (nx ++ own) →
      wpAny (model prog w) A (execs body (envX cn cs L a ccd cl)) (PostG g L (J (i + 1)) own ⟨h, gs, dr, tk, os⟩ Q) E ⟨h, gs, dr, tk, os⟩)
    (done : ∀ m₁ nx h tk, J M m₁ nx → (ads nx).Nodup → Fr g L h m₁ → News g L h nx → Q .next ⟨h, gs, dr, tk, os⟩) :
    wpAny (model prog w) A (pyIter (.ref r)) (fun it s₂ => LoopAtV prog w A g (envX cn cs L a ccd cl) x body Q E it s₂) E ⟨hp, gs, dr, tk0, os⟩ := by
  refine wpAny_pyIter_range hr (rng_small hM) ?_
  have W : Walks prog w A hp.objs.size [hp.objs.size] [hp.objs.size] M (fun i v => i < M ∧ ∃ t, v = .int (0 + i * 1) t)
      (fun i h => IsRangeIter h hp.objs.size (0 + (i : Nat) * 1) ((M : Int) - (i : Nat)) 1) := (Walks.range hh _ 0 1 M).bound
  refine ⟨hp.objs.size, _, _, M, _, _, m₀, news, fun i m nx => J i m nx ∧ (ads nx).Nodup, rfl, W, fun hm => absurd F.ns.lt ((List.mem_singleton.mp hm) ▸ Nat.lt_irrefl _), fun b hb => ?_, fun p hp' hI => absurd (Heap.lt_size (N p hp').1) ((List.mem_singleton.mp hI) ▸ Nat.lt_irrefl _),
    (by show IsRangeIter _ _ _ _ _; rw [rng_size]; simpa using Heap.get?_push_size _ rfl), F.push _, (fun p hp' => ⟨Heap.get?_push_of_some _ (N p hp').1, (N p hp').2⟩), ⟨hj, nd⟩, ?_, ?_⟩
  · rw [List.mem_singleton.mp hb]
    exact next_is_new F
  · rintro i v m₁ nx s₁ own ⟨h', tk', rfl⟩ hin hP ⟨hJ, ndx⟩ hoff hown _ hfp hst F₁ N₁
    have hI0 : g.get? hp.objs.size = none := next_is_new F
    obtain ⟨oI, hoI, hI1⟩ : ∃ oI, h'.get? hp.objs.size = some oI ∧ True := by
      have := hst
      unfold IsRangeIter at this
      exact ⟨_, this, trivial⟩
    have hIown : (hp.objs.size, oI) ∈ own := hfp _ (.head _) hI0 _ hoI
    obtain ⟨-, t, rfl⟩ := hP
    obtain ⟨own', e, ndo⟩ := News.once (N := own) fun p hp' => (N₁ p (List.mem_append_left _ hp')).1
    have N₂ : News g L h' (nx ++ own') := fun p hp' => N₁ p ((List.mem_append.mp hp').elim (fun h => List.mem_append_right _ h) fun h => List.mem_append_left _ ((e p).mpr h))
    have nd₂ : (ads (nx ++ own')).Nodup := by
      rw [ads_app, List.nodup_append]
      refine ⟨ndx, ndo, fun b hb b' hb' q => ?_⟩
      subst q
      obtain ⟨o, ho⟩ := mem_ads hb
      obtain ⟨o', ho'⟩ := mem_ads hb'
      exact hoff (b, o) ho (hown (b, o') ((e _).mpr ho'))
    have e1 : (0 : Int) + (i : Int) * 1 = (i : Int) := by (first | lia | omega)
    rw [e1] at F₁
    refine wpAny_mono (turn i t m₁ nx h' tk' own' hin hJ nd₂ F₁ N₂) (fun f s₂ z => ?_) fun _ _ z => z
    have fin : EndG g L (J (i + 1)) own' ⟨h', gs, dr, tk', os⟩ s₂ → LoopStepU g L [hp.objs.size] own (fun m nx => J (i + 1) m nx ∧ (ads nx).Nodup) ⟨h', gs, dr, tk', os⟩ .next s₂ := by
      rintro ⟨h2, tk2, m', N', nx', e2, F', N3, nd3, S, hm⟩
      have nd4 := nd_sub nd3 S
      rw [ads_app, List.nodup_append] at nd4
      refine ⟨rfl, h2, tk2, m', nx', e2, F', fun p hp' => N3 p ?_, fun p hp' hq => ?_, hm, nd4.1⟩
      · rcases List.mem_append.mp hp' with q | q
        · exact S.subset (List.mem_append_right _ ((e p).mp q))
        · exact S.subset (List.mem_append_left _ q)
      · refine nd4.2.2 _ (ads_mem hp') hp.objs.size (ads_mem ((e _).mp hIown)) (List.mem_singleton.mp hq)
    cases f with
    | ret v => exact .ret z
    | brk => exact .brk z
    | next => exact .next (fin z)
    | cont => exact .cont (fin z)
  · rintro h' tk' m' nx F' N' _ ⟨hJ, nd'⟩
    exact done m' nx h' tk' hJ nd' F' N'
theorem turnG {J : (Str → Option Value) → Objs → Prop} {own nx N : Objs} {h h' : Heap} {tk tk' : Nat} {m' : Str → Option Value} (F : Fr g L h' m') (N' : News g L h' N) (nd : (ads N).Nodup) (S : (nx ++ own).Sublist N) (hJ : J m' nx) :
    EndG g L J own ⟨h, gs, dr, tk, os⟩ ⟨h', gs, dr, tk', os⟩ := ⟨h', tk', m', N, nx, rfl, F, N', nd, S, hJ⟩
theorem tst_neT {w : World} {env : Env} {e1 e2 : Expr} {k1 k2 : Nat} {pos : Pos} {i j : Int} {u1 u2 : Tok → Tok} {whole : Sem Value} {tk : Nat} {QB : Bool → Shared → Prop} (h1 : Ev (model PR w) A env hp e1 (fun t => .int i (u1 t)) k1) (h2 : Ev (model PR w) A env hp e2 (fun t => .int j (u2 t)) k2) (hm : false = behindInMarks .NotEq e2) (hne : i ≠ j) (hq : QB true ⟨hp, gs, dr, tk + (k1 + k2), os⟩) : wpAny (model PR w) A (isTrue (.Compare e1 [.NotEq] [e2] pos) env whole) QB E ⟨hp, gs, dr, tk, os⟩ :=
  tst_ne h1 h2 hm (by rw [show (i != j) = true from bne_iff_ne.mpr hne]; exact hq)
end
end
section
open PySem PySem.W PySem.Calls PySem.Spec PyProof.Rows
noncomputable def Lbl (_ : OpenLaw) (_ : Params → Frag) (P : Prop) : Prop := P
theorem lbl_walk : Lbl PySem.Challenge.rw_qz0071_01 KK True := by k_fill; exact trivial
end
section
open PySem PySem.W PySem.Calls PySem.Spec PyProof.Rows
theorem setup_ : True := by
  k_with "ENT" => (case k1 => assumption); (case k6 => k_is); (case k7 => k_is); k_extra "d178"; k_extra "d133"; (case c5 => decide); (case kB => exact locs rfl); (case c2 => exact rfl); (case c3 => exact rfl); (case c4 => exact rfl); k_whole; intro qN qm lo mean mg mb L' h' g0 G' F' N' nd' X' T' hT; (try dsimp only); k_extra "d185"
  k_with "MEM" => first | ((repeat (first | (refine' mem_here2 ?mma ?mmb; (case mma => with_reducible rfl); (case mmb => first | with_reducible rfl | rfl)) | refine' List.Mem.tail _ ?_)); first | done | fail) | k_mem
  k_with "OWN" => first | (refine' Own.mk' ?wa ?wb ?wc ?wd; (case wa => k_is); (case wb => k_is); (case wc => k_is); (case wd => k_is))
  k_with "EVT4" => first | k_extra "d297" | k_extra "d317" | (k_extra "d216"; k_extra "d26") | (k_extra "d217"; k_extra "d20") | (k_extra "d220"; (first | k_extra "d203" | k_extra "d202" | k_extra "d125" | k_extra "d76" | k_extra "d109"))
  k_with "EVT3" => first | k_extra "d298" | k_extra "d317" | (k_extra "d216"; (first | (refine' Ev.own ?oo3e ?oF3e ?oX3e ?oI3e ?oO3e ?ol3e ?ov3e ?oe3e; (case oo3e => k_extra "EVT4"); (case oF3e => k_extra "w"); (case oX3e => k_extra "w"); k_extra "d53"; (case oO3e => k_extra "OWN"); (case ol3e => k_get); (case ov3e => k_handed); (case oe3e => with_unfolding_all rfl)))) | (k_extra "d217"; (first | (refine' Ev.sub ?s13e ?s23e ?st3e ?sa3e ?sb3e ?sc3e ?sd3e; (case s13e => k_extra "EVT4"); (case s23e => k_extra "EVT4"); k_extra "d121"; k_extra "d249"; (case sb3e => first | decide | (k_extra "o")); (case sc3e => exact rfl); k_extra "d235") | (refine' Ev.subL ?t13e ?t23e ?tt3e ?ta3e ?tb3e ?tc3e ?td3e; (case t13e => k_extra "EVT4"); (case t23e => k_extra "EVT4"); k_extra "d115"; k_extra "d250"; (case tb3e => first | decide | (k_extra "o")); k_extra "d135"; k_extra "d236"))) | (k_extra "d220"; (first | (refine' Ev.add ?p13e ?p23e; (case p13e => k_extra "EVT4"); (case p23e => k_extra "EVT4")) | (refine' Ev.subi ?q13e ?q23e; (case q13e => k_extra "EVT4"); (case q23e => k_extra "EVT4")) | (refine' Ev.mul ?u13e ?u23e ?u33e; (case u13e => k_extra "EVT4"); (case u23e => k_extra "EVT4"); k_extra "d243") | (refine' Ev.fdiv ?v13e ?v23e ?v33e ?v43e; (case v13e => k_extra "EVT4"); (case v23e => k_extra "EVT4"); (case v33e => first | k_extra "w" | decide | (k_extra "o")); (case v43e => first | decide | (k_extra "o"))) | (refine' Ev.fmod ?w13e ?w23e ?w33e; (case w13e => k_extra "EVT4"); (case w23e => k_extra "EVT4"); (case w33e => first | k_extra "w" | decide | (k_extra "o")))))
  k_with "EVT2" => first | k_extra "d299" | k_extra "d317" | (k_extra "d216"; (first | (refine' Ev.own ?oo2e ?oF2e ?oX2e ?oI2e ?oO2e ?ol2e ?ov2e ?oe2e; (case oo2e => k_extra "EVT3"); (case oF2e => k_extra "w"); (case oX2e => k_extra "w"); k_extra "d54"; (case oO2e => k_extra "OWN"); (case ol2e => k_get); (case ov2e => k_handed); (case oe2e => with_unfolding_all rfl)))) | (k_extra "d217"; (first | (refine' Ev.sub ?s12e ?s22e ?st2e ?sa2e ?sb2e ?sc2e ?sd2e; (case s12e => k_extra "EVT3"); (case s22e => k_extra "EVT3"); k_extra "d122"; k_extra "d251"; (case sb2e => first | decide | (k_extra "o")); (case sc2e => exact rfl); k_extra "d237") | (refine' Ev.subL ?t12e ?t22e ?tt2e ?ta2e ?tb2e ?tc2e ?td2e; (case t12e => k_extra "EVT3"); (case t22e => k_extra "EVT3"); k_extra "d116"; k_extra "d252"; (case tb2e => first | decide | (k_extra "o")); k_extra "d136"; k_extra "d238"))) | (k_extra "d220"; (first | (refine' Ev.add ?p12e ?p22e; (case p12e => k_extra "EVT3"); (case p22e => k_extra "EVT3")) | (refine' Ev.subi ?q12e ?q22e; (case q12e => k_extra "EVT3"); (case q22e => k_extra "EVT3")) | (refine' Ev.mul ?u12e ?u22e ?u32e; (case u12e => k_extra "EVT3"); (case u22e => k_extra "EVT3"); k_extra "d244") | (refine' Ev.fdiv ?v12e ?v22e ?v32e ?v42e; (case v12e => k_extra "EVT3"); (case v22e => k_extra "EVT3"); (case v32e => first | k_extra "w" | decide | (k_extra "o")); (case v42e => first | decide | (k_extra "o"))) | (refine' Ev.fmod ?w12e ?w22e ?w32e; (case w12e => k_extra "EVT3"); (case w22e => k_extra "EVT3"); (case w32e => first | k_extra "w" | decide | (k_extra "o")))))
  k_with "EVT1" => first | k_extra "d300" | k_extra "d317" | (k_extra "d216"; (first | (refine' Ev.own ?oo1e ?oF1e ?oX1e ?oI1e ?oO1e ?ol1e ?ov1e ?oe1e; (case oo1e => k_extra "EVT2"); (case oF1e => k_extra "w"); (case oX1e => k_extra "w"); k_extra "d55"; (case oO1e => k_extra "OWN"); (case ol1e => k_get); (case ov1e => k_handed); (case oe1e => with_unfolding_all rfl)))) | (k_extra "d217"; (first | (refine' Ev.sub ?s11e ?s21e ?st1e ?sa1e ?sb1e ?sc1e ?sd1e; (case s11e => k_extra "EVT2"); (case s21e => k_extra "EVT2"); k_extra "d123"; k_extra "d253"; (case sb1e => first | decide | (k_extra "o")); (case sc1e => exact rfl); k_extra "d239") | (refine' Ev.subL ?t11e ?t21e ?tt1e ?ta1e ?tb1e ?tc1e ?td1e; (case t11e => k_extra "EVT2"); (case t21e => k_extra "EVT2"); k_extra "d117"; k_extra "d254"; (case tb1e => first | decide | (k_extra "o")); k_extra "d137"; k_extra "d240"))) | (k_extra "d220"; (first | (refine' Ev.add ?p11e ?p21e; (case p11e => k_extra "EVT2"); (case p21e => k_extra "EVT2")) | (refine' Ev.subi ?q11e ?q21e; (case q11e => k_extra "EVT2"); (case q21e => k_extra "EVT2")) | (refine' Ev.mul ?u11e ?u21e ?u31e; (case u11e => k_extra "EVT2"); (case u21e => k_extra "EVT2"); k_extra "d245") | (refine' Ev.fdiv ?v11e ?v21e ?v31e ?v41e; (case v11e => k_extra "EVT2"); (case v21e => k_extra "EVT2"); (case v31e => first | k_extra "w" | decide | (k_extra "o")); (case v41e => first | decide | (k_extra "o"))) | (refine' Ev.fmod ?w11e ?w21e ?w31e; (case w11e => k_extra "EVT2"); (case w21e => k_extra "EVT2"); (case w31e => first | k_extra "w" | decide | (k_extra "o")))))
  k_with "EVT0" => first | k_extra "d301" | k_extra "d317" | (k_extra "d216"; (first | (refine' Ev.own ?oo0e ?oF0e ?oX0e ?oI0e ?oO0e ?ol0e ?ov0e ?oe0e; (case oo0e => k_extra "EVT1"); (case oF0e => k_extra "w"); (case oX0e => k_extra "w"); k_extra "d56"; (case oO0e => k_extra "OWN"); (case ol0e => k_get); (case ov0e => k_handed); (case oe0e => with_unfolding_all rfl)))) | (k_extra "d217"; (first | (refine' Ev.sub ?s10e ?s20e ?st0e ?sa0e ?sb0e ?sc0e ?sd0e; (case s10e => k_extra "EVT1"); (case s20e => k_extra "EVT1"); k_extra "d124"; k_extra "d255"; (case sb0e => first | decide | (k_extra "o")); (case sc0e => exact rfl); k_extra "d241") | (refine' Ev.subL ?t10e ?t20e ?tt0e ?ta0e ?tb0e ?tc0e ?td0e; (case t10e => k_extra "EVT1"); (case t20e => k_extra "EVT1"); k_extra "d118"; k_extra "d256"; (case tb0e => first | decide | (k_extra "o")); k_extra "d138"; k_extra "d242"))) | (k_extra "d220"; (first | (refine' Ev.add ?p10e ?p20e; (case p10e => k_extra "EVT1"); (case p20e => k_extra "EVT1")) | (refine' Ev.subi ?q10e ?q20e; (case q10e => k_extra "EVT1"); (case q20e => k_extra "EVT1")) | (refine' Ev.mul ?u10e ?u20e ?u30e; (case u10e => k_extra "EVT1"); (case u20e => k_extra "EVT1"); k_extra "d246") | (refine' Ev.fdiv ?v10e ?v20e ?v30e ?v40e; (case v10e => k_extra "EVT1"); (case v20e => k_extra "EVT1"); (case v30e => first | k_extra "w" | decide | (k_extra "o")); (case v40e => first | decide | (k_extra "o"))) | (refine' Ev.fmod ?w10e ?w20e ?w30e; (case w10e => k_extra "EVT1"); (case w20e => k_extra "EVT1"); (case w30e => first | k_extra "w" | decide | (k_extra "o")))))
  k_with "EVS6" => exact Evs.nil
  k_with "EVS5" => first | exact Evs.nil | (refine' Evs.cons ?va5 ?vb5 ?vc5; (case va5 => k_extra "EVT0"); (case vb5 => k_extra "EVS6"); (case vc5 => rfl))
  k_with "EVS4" => first | exact Evs.nil | (refine' Evs.cons ?va4 ?vb4 ?vc4; (case va4 => k_extra "EVT0"); (case vb4 => k_extra "EVS5"); (case vc4 => rfl))
  k_with "EVS3" => first | exact Evs.nil | (refine' Evs.cons ?va3 ?vb3 ?vc3; (case va3 => k_extra "EVT0"); (case vb3 => k_extra "EVS4"); (case vc3 => rfl))
  k_with "EVS2" => first | exact Evs.nil | (refine' Evs.cons ?va2 ?vb2 ?vc2; (case va2 => k_extra "EVT0"); (case vb2 => k_extra "EVS3"); (case vc2 => rfl))
  k_with "EVS1" => first | exact Evs.nil | (refine' Evs.cons ?va1 ?vb1 ?vc1; (case va1 => k_extra "EVT0"); (case vb1 => k_extra "EVS2"); (case vc1 => rfl))
  k_with "EVS0" => first | exact Evs.nil | (refine' Evs.cons ?va0 ?vb0 ?vc0; (case va0 => k_extra "EVT0"); (case vb0 => k_extra "EVS1"); (case vc0 => rfl))
  k_with "METH" => first | (refine' Meth.mk ?wa ?wb ?wc ?wd; (case wa => k_is); (case wb => k_is); (case wc => k_is); (case wd => k_is))
  k_with "SEV" => first | (k_extra "d207"; (first | (k_extra "d156"; k_dflt (refine' call_nm ?cF ?cX ?cT ?cv ?cc ?ck ?ca ?c1 ?cp ?ce ?_; (case cF => k_extra "w"); (case cX => k_extra "w"); (case cT => k_extra "w"); (case cc => kernel_rfl); (case cv => k_is); (case ck => k_is); (case ca => k_extra "EVS0"); (case c1 => rfl); (case cp => kernel_rfl); (case ce => rfl); k_whole)) | (k_extra "d162"; k_dflt k_extra "d69") | (k_extra "d151"; k_dflt (refine' call_mt ?m0 ?mF ?mX ?mI ?mO ?ml ?ma ?m1 ?mp ?me ?_; (case m0 => k_extra "EVT0"); (case mF => k_extra "w"); (case mX => k_extra "w"); k_extra "d59"; (case mO => k_extra "METH"); (case ml => k_get); (case ma => k_extra "EVS0"); (case m1 => rfl); (case mp => kernel_rfl); (case me => rfl); k_whole)) | (k_extra "d154"; k_dflt (refine' call_mt0 ?m0 ?mF ?mX ?mI ?mO ?ml ?me ?_; (case m0 => k_extra "EVT0"); (case mF => k_extra "w"); (case mX => k_extra "w"); k_extra "d59"; (case mO => k_extra "METH"); (case ml => k_get); (case me => rfl); k_whole)) | (k_end; wrow_close) | walk1 | (dsimp only; walk1) | (leave1; try dsimp only) | k_extra "d318" | fail "no step")) | (k_dflt (refine' Ev.use ?eu ?_; (case eu => k_extra "EVT0"); k_whole)) | (k_end; wrow_close) | walk1 | (dsimp only; walk1) | (leave1; try dsimp only) | k_extra "d318" | fail "no step"
  k_with "SEX" => first | (k_extra "d172"; k_dflt (refine' asg_nm ?aF ?aN ?ae ?ac ?as ?_; (case ac => kernel_rfl); (case aF => k_extra "w"); (case aN => k_extra "w"); (case ae => k_extra "EVT0"); (case as => rfl); k_whole; intro qm tqq h' F' N'; (try k_sweep))) | k_extra "d310" | k_extra "d275" | k_extra "d276" | k_extra "d272" | k_extra "d305" | k_extra "d306" | k_extra "d307" | k_extra "d286" | (k_end; wrow_close) | walk1 | (dsimp only; walk1) | (leave1; try dsimp only) | k_extra "d318" | fail "no step"
  k_with "SCL" => first | (k_end; wrow_close) | walk1 | (dsimp only; walk1) | (leave1; try dsimp only) | k_extra "d318" | fail "no step"
  k_with "STD" => first | (k_extra "d181"; k_dflt (first | (k_extra "d163"; refine' tst_lt ?talt ?tblt ?tclt ?_; (case talt => k_extra "EVT0"); (case tblt => k_extra "EVT0"); (case tclt => rfl); k_whole) | (k_extra "d160"; refine' tst_le ?tale ?tble ?tcle ?_; (case tale => k_extra "EVT0"); (case tble => k_extra "EVT0"); (case tcle => rfl); k_whole) | (k_extra "d164"; refine' tst_gt ?tagt ?tbgt ?tcgt ?_; (case tagt => k_extra "EVT0"); (case tbgt => k_extra "EVT0"); (case tcgt => rfl); k_whole) | (k_extra "d161"; refine' tst_ge ?tage ?tbge ?tcge ?_; (case tage => k_extra "EVT0"); (case tbge => k_extra "EVT0"); (case tcge => rfl); k_whole) | (k_extra "d165"; refine' tst_eq ?taeq ?tbeq ?tceq ?_; (case taeq => k_extra "EVT0"); (case tbeq => k_extra "EVT0"); (case tceq => rfl); k_whole) | (k_extra "d159"; refine' tst_ne ?tane ?tbne ?tcne ?_; (case tane => k_extra "EVT0"); (case tbne => k_extra "EVT0"); (case tcne => rfl); k_whole))) | k_extra "d302" | k_extra "d290" | (k_extra "d224"; k_dflt k_extra "d82") | k_extra "d310" | k_extra "d275" | k_extra "d276" | k_extra "d272" | k_extra "d305" | k_extra "d306" | k_extra "d307" | (k_extra "d157"; k_dflt k_extra "d19") | k_extra "d287" | k_extra "d286" | (k_end; wrow_close) | walk1 | (dsimp only; walk1) | (leave1; try dsimp only) | k_extra "d318" | fail "no step"
  k_with "P0" => exact post0 (by k_extra "w") (by k_extra "w") (by k_extra "w") (by k_extra "d36")
  k_with "CP" => k_extra "d0"; k_extra "d83"; k_extra "d84"
  k_with "CW" => (first | (refine' Post.w0 ?ua0 ?ub0 ?uc0 ?ud0 ?_; (case ua0 => k_extra "w"); (case ub0 => k_extra "w"); k_extra "d11"; k_extra "d44"; k_extra "d267"; intro qN F9 N9) | (refine' Post.w1 ?ua1 ?ub1 ?uc1 ?ud1 ?_; (case ua1 => k_extra "w"); (case ub1 => k_extra "w"); k_extra "d12"; k_extra "d45"; k_extra "d267"; intro qN F9 N9 nd9) | (refine' Post.w2 ?ua2 ?ub2 ?uc2 ?ud2 ?_; (case ua2 => k_extra "w"); (case ub2 => k_extra "w"); k_extra "d13"; k_extra "d46"; k_extra "d267"; intro qN F9 N9 nd9) | (refine' Post.wN ?uaN ?ubN ?ucN ?udN ?ulN ?_; (case uaN => k_extra "w"); (case ubN => k_extra "w"); k_extra "d14"; k_extra "d47"; k_extra "d149"; k_extra "d267"; intro qN F9 N9 nd9; k_extra "d219")); (try k_sweep); (try dsimp only); k_extra "d185"
  k_with "muldiv" => (k_extra "d195"; k_dflt (refine' callR (muldiv_ct (hd := ?qhd) (hu := ?qhu) (P := ?qP) (hr := ?_) (xm := ?qxm) (c0 := ?qc0) (c1 := ?qc1) (c2 := ?qc2)); k_extra "CP"; (case qxm => mul_fits); (case qc0 => first | assumption | (k_extra "o") | decide); (case qc1 => first | assumption | (k_extra "o") | decide); (case qc2 => first | assumption | (k_extra "o") | decide); intro h9 tk9 t9; k_extra "CW"))
  k_with "z" => repeat' (first | k_extra "d295" | k_extra "d294" | k_extra "d292" | k_extra "d304" | k_extra "STD")
  k_with "z2" => repeat' (first | k_extra "d295" | k_extra "d294" | k_extra "d292" | (k_extra "d213"; (first | k_extra "muldiv" | k_extra "SCL")) | k_extra "STD")
  k_with "wrap" => ((with_reducible show wpAny _ _ (call (Value.ref (nat_lit 318)) _) _ _ _); k_dflt (refine' callR (wrap_ct (hd := ?qhd) (hu := ?qhu) (P := ?qP) (hr := ?_)); k_extra "CP"; intro h9 tk9 t9; k_extra "CW"))
  k_with "lenX" => (k_extra "d173"; k_dflt (refine' kun_lenL (k := (xs.length : Int)) ?g1 ?g2 ?g3 ?_; (case g1 => exact News.isList (by k_extra "w") (by k_extra "MEM")); (case g2 => exact congrArg Int.ofNat List.size_toArray); (case g3 => exact Int.le_of_lt (Int.lt_trans hx (by decide))); k_whole))
  k_with "appX" => k_extra "d276"
  k_with "eqX" => (k_extra "d158"; k_dflt (with_unfolding_all refine' eq_intsK (bs := []) ?k1 ?k2 ?k3 ?k4 ?k5 ?_; (case k1 => exact News.isList (by k_extra "w") (by k_extra "MEM")); (case k2 => exact hI); (case k3 => exact News.isList (by k_extra "w") (by k_extra "MEM")); (case k4 => exact IntsAre.nil); (case k5 => units_room); k_whole))
  k_with "popX" => (k_extra "d186"; (try dsimp only); k_dflt (refine' kl_popN ?po1 ?po2 ?pon ?po3 ?po4 ?po5 ?_; (case po1 => k_extra "w"); (case po2 => k_extra "w"); k_extra "d10"; (case po3 => exact he); k_extra "d63"; (case po5 => exact Nat.le_trans hz (by decide))); k_extra "d204"; intro qN h' F' N'; (try k_sweep))
  k_with "z3" => repeat' (first | k_extra "d295" | k_extra "d294" | k_extra "d292" | (k_extra "d213"; (first | k_extra "wrap" | k_extra "SCL")) | k_extra "lenX" | k_extra "appX" | k_extra "STD")
  k_with "z4" => repeat' (first | k_extra "d295" | k_extra "d294" | k_extra "d292" | k_extra "d304" | k_extra "eqX" | k_extra "popX" | k_extra "STD")
  k_with "P1" => exact postN (by k_extra "w") (by k_extra "w") (by k_extra "w") (by first | k_extra "w" | k_extra "d313") (by k_extra "d36") (by exact rfl)
  k_with "ABS" => first | (exfalso; simp_all; done) | (exfalso; (k_extra "o"))
  k_with "check" => (k_extra "d187"; k_dflt (refine' callR (check_ct (hd := ?qhd) (hu := ?qhu) (P := ?qP) (hr := ?_) (i0 := ?qi0) (i1 := ?qi1)); k_extra "CP"; k_extra "d221"; k_extra "d222"; intro h9 tk9 ; k_extra "CW"))
  k_with "held" => ((with_reducible show wpAny _ _ (call (Value.ref (nat_lit 1255)) _) _ _ _); k_dflt (refine' callR (held_ct (hd := ?qhd) (hu := ?qhu) (P := ?qP) (hr := ?_)); k_extra "CP"; intro h9 tk9 r9 t8 t9; k_extra "CW"))
  k_with "dot" => ((with_reducible show wpAny _ _ (call (Value.ref (nat_lit 311)) _) _ _ _); k_dflt (refine' callR (dot_ct (hd := ?qhd) (hu := ?qhu) (P := ?qP) (hr := ?_)); k_extra "CP"; intro h9 tk9 t9; k_extra "CW"))
  k_with "z5" => repeat' (first | k_extra "d295" | k_extra "d294" | k_extra "d292" | (k_extra "d213"; (first | k_extra "wrap" | k_extra "SCL")) | k_extra "STD")
  k_with "z6" => repeat' (first | k_extra "d295" | k_extra "d294" | k_extra "d292" | (k_extra "d213"; (first | k_extra "check" | k_extra "held" | k_extra "SCL")) | k_extra "STD")
  k_with "z7" => repeat' (first | k_extra "d295" | k_extra "d294" | k_extra "d292" | (k_extra "d213"; (first | k_extra "dot" | k_extra "SCL")) | k_extra "STD")
  k_with "freedot" => ((with_reducible show wpAny _ _ (call (Value.ref (nat_lit 1106)) _) _ _ _); k_dflt (refine' callR (freedot_ct (hd := ?qhd) (hu := ?qhu) (P := ?qP) (hr := ?_)); k_extra "CP"; intro h9 tk9 t9; k_extra "CW"))
  k_with "mdone" => (k_extra "d195"; k_dflt (refine' callR (mdone_ct (hd := ?qhd) (hu := ?qhu) (P := ?qP) (hr := ?_)); k_extra "CP"; intro h9 tk9 t9; k_extra "CW"))
  k_with "mdzero" => (k_extra "d195"; k_dflt (refine' callR (mdzero_ct (hd := ?qhd) (hu := ?qhu) (P := ?qP) (hr := ?_)); k_extra "CP"; intro h9 tk9 t9; k_extra "CW"))
  k_with "projected" => ((with_reducible show wpAny _ _ (call (Value.ref (nat_lit 1113)) _) _ _ _); k_dflt (refine' callR (projected_ct (hd := ?qhd) (hu := ?qhu) (P := ?qP) (hr := ?_)); k_extra "CP"; intro h9 tk9 t9; k_extra "CW"))
  k_with "dualp" => ((with_reducible show wpAny _ _ (call (Value.ref (nat_lit 1120)) _) _ _ _); k_dflt (refine' callR (dualp_ct (hd := ?qhd) (hu := ?qhu) (P := ?qP) (hr := ?_)); k_extra "CP"; intro h9 tk9 t9; k_extra "CW"))
  k_with "put" => ((with_reducible show wpAny _ _ (call (Value.ref (nat_lit 1290)) _) _ _ _); k_dflt (refine' callR (put_ct (hd := ?qhd) (hu := ?qhu) (P := ?qP) (hr := ?_) (i0 := ?qi0) (i1 := ?qi1)); k_extra "CP"; k_extra "d221"; k_extra "d222"; intro h9 tk9 r9 t8 t9 n9; k_extra "CW"))
  k_with "touch" => ((with_reducible show wpAny _ _ (call (Value.ref (nat_lit 395)) _) _ _ _); k_dflt (refine' callR (touch_ct (hd := ?qhd) (hu := ?qhu) (P := ?qP) (hr := ?_) (gTx := ?qgTx) (i0 := ?qi0) (i1 := ?qi1)); k_extra "d231"; k_extra "CP"; k_extra "d221"; k_extra "d222"; intro h9 tk9 ; k_extra "CW"))
  k_with "z8" => repeat' (first | k_extra "d295" | k_extra "d294" | k_extra "d292" | (k_extra "d213"; (first | k_extra "freedot" | k_extra "mdone" | k_extra "mdzero" | k_extra "SCL")) | k_extra "STD")
  k_with "z9" => repeat' (first | k_extra "d295" | k_extra "d294" | k_extra "d292" | (k_extra "d213"; (first | k_extra "check" | k_extra "projected" | k_extra "SCL")) | k_extra "STD")
  k_with "z10" => repeat' (first | k_extra "d295" | k_extra "d294" | k_extra "d292" | (k_extra "d213"; (first | k_extra "projected" | k_extra "SCL")) | k_extra "STD")
  k_with "z11" => repeat' (first | k_extra "d295" | k_extra "d294" | k_extra "d292" | (k_extra "d213"; (first | k_extra "dualp" | k_extra "SCL")) | k_extra "STD")
  k_with "z12" => repeat' (first | k_extra "d295" | k_extra "d294" | k_extra "d292" | (k_extra "d213"; (first | k_extra "check" | k_extra "put" | k_extra "touch" | k_extra "SCL")) | k_extra "STD")
  k_with "stepof" => ((with_reducible show wpAny _ _ (call (Value.ref (nat_lit 402)) _) _ _ _); k_dflt (refine' callR (stepof_ct (hd := ?qhd) (hu := ?qhu) (P := ?qP) (hr := ?_)); k_extra "CP"; intro h9 tk9 r9 t8 t9; k_extra "CW"))
  k_with "shifted" => ((with_reducible show wpAny _ _ (call (Value.ref (nat_lit 409)) _) _ _ _); k_dflt (refine' callR (shifted_ct (hd := ?qhd) (hu := ?qhu) (P := ?qP) (hr := ?_) (gIx := ?qgIx) (gTx := ?qgTx) (i0 := ?qi0) (i1 := ?qi1)); k_extra "d232"; k_extra "d231"; k_extra "CP"; k_extra "d221"; k_extra "d222"; intro h9 tk9 r9 t8 t9 n9; k_extra "CW"))
  k_with "zone0" => (k_extra "d188"; k_dflt (refine' callR (zone0_ct (hd := ?qhd) (hu := ?qhu) (P := ?qP) (hr := ?_)); k_extra "CP"; intro h9 tk9 ; k_extra "CW"))
  k_with "z13" => repeat' (first | k_extra "d295" | k_extra "d294" | k_extra "d292" | (k_extra "d213"; (first | k_extra "stepof" | k_extra "shifted" | k_extra "SCL")) | k_extra "STD")
  k_with "z14" => repeat' (first | k_extra "d295" | k_extra "d294" | k_extra "d292" | (k_extra "d213"; (first | k_extra "zone0" | k_extra "check" | k_extra "SCL")) | k_extra "STD")
  k_with "pop0" => (k_extra "d189"; k_dflt (refine' callR (pop0_ct (hd := ?qhd) (hu := ?qhu) (P := ?qP) (hr := ?_)); k_extra "CP"; intro h9 tk9 n9; k_extra "CW"))
  k_with "z15" => repeat' (first | k_extra "d295" | k_extra "d294" | k_extra "d292" | (k_extra "d213"; (first | k_extra "pop0" | k_extra "SCL")) | k_extra "STD")
  k_with "z16" => repeat' (first | k_extra "d295" | k_extra "d294" | k_extra "d292" | (k_extra "d213"; (first | k_extra "pop0" | k_extra "zone0" | k_extra "SCL")) | k_extra "STD")
  k_with "anchor" => ((with_reducible show wpAny _ _ (call (Value.ref (nat_lit 613)) _) _ _ _); k_dflt (refine' callR (anchor_ct (hd := ?qhd) (hu := ?qhu) (P := ?qP) (hr := ?_) (i0 := ?qi0) (i1 := ?qi1)); k_extra "CP"; k_extra "d221"; k_extra "d222"; intro h9 tk9 r9; k_extra "CW"))
  k_with "nextloop" => ((with_reducible show wpAny _ _ (call (Value.ref (nat_lit 1241)) _) _ _ _); k_dflt (refine' callR (nextloop_ct (hd := ?qhd) (hu := ?qhu) (P := ?qP) (hr := ?_)); k_extra "CP"; intro h9 tk9 t9; k_extra "CW"))
  k_with "pop3" => (k_extra "d189"; k_dflt (refine' callR (pop3_ct (hd := ?qhd) (hu := ?qhu) (P := ?qP) (hr := ?_)); k_extra "CP"; intro h9 tk9 n9; k_extra "CW"))
  k_with "measured" => ((with_reducible show wpAny _ _ (call (Value.ref (nat_lit 374)) _) _ _ _); k_dflt (refine' callR (measured_ct (hd := ?qhd) (hu := ?qhu) (P := ?qP) (hr := ?_)); k_extra "CP"; intro h9 tk9 t9; k_extra "CW"))
  k_with "move" => ((with_reducible show wpAny _ _ (call (Value.ref (nat_lit 416)) _) _ _ _); k_dflt (refine' callR (move_ct (hd := ?qhd) (hu := ?qhu) (P := ?qP) (hr := ?_) (gIx := ?qgIx) (gTx := ?qgTx) (i0 := ?qi0) (i1 := ?qi1)); k_extra "d232"; k_extra "d231"; k_extra "CP"; k_extra "d221"; k_extra "d222"; intro h9 tk9 r9 t8 t9 n9; k_extra "CW"))
  k_with "z17" => repeat' (first | k_extra "d295" | k_extra "d294" | k_extra "d292" | (k_extra "d213"; (first | k_extra "anchor" | k_extra "zone0" | k_extra "nextloop" | k_extra "pop3" | k_extra "check" | k_extra "measured" | k_extra "move" | k_extra "SCL")) | k_extra "STD")
  k_with "pop2" => (k_extra "d189"; k_dflt (refine' callR (pop2_ct (hd := ?qhd) (hu := ?qhu) (P := ?qP) (hr := ?_)); k_extra "CP"; intro h9 tk9 n9; k_extra "CW"))
  k_with "dmeasured" => ((with_reducible show wpAny _ _ (call (Value.ref (nat_lit 381)) _) _ _ _); k_dflt (refine' callR (dmeasured_ct (hd := ?qhd) (hu := ?qhu) (P := ?qP) (hr := ?_)); k_extra "CP"; intro h9 tk9 t9; k_extra "CW"))
  k_with "tneT" => ((with_reducible show wpAny _ _ (isTrue (Expr.Compare _ [CmpOp.NotEq] [_] _) _ _) _ _ _); k_dflt (refine' tst_neT ?tta ?ttb ?ttc ?ttd ?_; (case tta => k_extra "EVT0"); (case ttb => k_extra "EVT0"); (case ttc => rfl); (case ttd => assumption); k_whole))
  k_with "z18" => repeat' (first | k_extra "d295" | k_extra "d294" | k_extra "d292" | (k_extra "d213"; (first | k_extra "zone0" | k_extra "nextloop" | k_extra "pop2" | k_extra "check" | k_extra "dmeasured" | k_extra "measured" | k_extra "muldiv" | k_extra "move" | k_extra "SCL")) | k_extra "tneT" | k_extra "STD")
  k_with "pop1" => (k_extra "d189"; k_dflt (refine' callR (pop1_ct (hd := ?qhd) (hu := ?qhu) (P := ?qP) (hr := ?_)); k_extra "CP"; intro h9 tk9 n9; k_extra "CW"))
  k_with "push1" => (k_extra "d190"; k_dflt (refine' callR (push1_ct (hd := ?qhd) (hu := ?qhu) (P := ?qP) (hr := ?_)); k_extra "CP"; intro h9 tk9 t9 n9; k_extra "CW"))
  k_with "place" => (k_extra "d196"; k_dflt (refine' callR (place_ct (hd := ?qhd) (hu := ?qhu) (P := ?qP) (hr := ?_) (gIx := ?qgIx) (i0 := ?qi0) (i1 := ?qi1)); k_extra "d232"; k_extra "CP"; k_extra "d221"; k_extra "d222"; intro h9 tk9 t9; k_extra "CW"))
  k_with "push0" => (k_extra "d190"; k_dflt (refine' callR (push0_ct (hd := ?qhd) (hu := ?qhu) (P := ?qP) (hr := ?_)); k_extra "CP"; intro h9 tk9 t9 n9; k_extra "CW"))
  k_with "z19" => repeat' (first | k_extra "d295" | k_extra "d294" | k_extra "d292" | (k_extra "d213"; (first | k_extra "zone0" | k_extra "pop1" | k_extra "push1" | k_extra "check" | k_extra "place" | k_extra "SCL")) | k_extra "STD")
  k_with "z20" => repeat' (first | k_extra "d295" | k_extra "d294" | k_extra "d292" | (k_extra "d213"; (first | k_extra "zone0" | k_extra "pop0" | k_extra "push0" | k_extra "check" | k_extra "place" | k_extra "SCL")) | k_extra "STD")
  k_with "z21" => repeat' (first | k_extra "d295" | k_extra "d294" | k_extra "d292" | (k_extra "d213"; (first | k_extra "zone0" | k_extra "pop1" | k_extra "pop0" | k_extra "check" | k_extra "place" | k_extra "move" | k_extra "SCL")) | k_extra "STD")
  k_with "z22" => repeat' (first | k_extra "d295" | k_extra "d294" | k_extra "d292" | (k_extra "d213"; (first | k_extra "zone0" | k_extra "pop0" | k_extra "place" | k_extra "move" | k_extra "SCL")) | k_extra "STD")
  k_with "cvtval" => ((with_reducible show wpAny _ _ (call (Value.ref (nat_lit 1227)) _) _ _ _); k_dflt (refine' callR (cvtval_ct (hd := ?qhd) (hu := ?qhu) (P := ?qP) (hr := ?_)); k_extra "CP"; intro h9 tk9 ; k_extra "CW"))
  k_with "putcvt" => ((with_reducible show wpAny _ _ (call (Value.ref (nat_lit 1234)) _) _ _ _); k_dflt (refine' callR (putcvt_ct (hd := ?qhd) (hu := ?qhu) (P := ?qP) (hr := ?_)); k_extra "CP"; intro h9 tk9 t9 n9; k_extra "CW"))
  k_with "z23" => repeat' (first | k_extra "d295" | k_extra "d294" | k_extra "d292" | (k_extra "d213"; (first | k_extra "pop0" | k_extra "push0" | k_extra "cvtval" | k_extra "SCL")) | k_extra "STD")
  k_with "z24" => repeat' (first | k_extra "d295" | k_extra "d294" | k_extra "d292" | (k_extra "d213"; (first | k_extra "pop1" | k_extra "push1" | k_extra "cvtval" | k_extra "SCL")) | k_extra "STD")
  k_with "z25" => repeat' (first | k_extra "d295" | k_extra "d294" | k_extra "d292" | (k_extra "d213"; (first | k_extra "cvtval" | k_extra "wrap" | k_extra "SCL")) | k_extra "STD")
  k_with "z26" => repeat' (first | k_extra "d295" | k_extra "d294" | k_extra "d292" | (k_extra "d213"; (first | k_extra "pop0" | k_extra "pop1" | k_extra "muldiv" | k_extra "putcvt" | k_extra "SCL")) | k_extra "STD")
  k_with "ENT2" => (case k1 => assumption); (case k6 => k_is); (case k7 => k_is); (case k8 => first | exact room0 (by assumption) | (dsimp only; omega)); k_extra "d133"; (case c5 => decide); (case kB => exact locs rfl); (case c2 => exact rfl); (case c3 => exact rfl); (case c4 => exact rfl); k_whole; intro qN qm lo mean mg mb L' h' g0 G' F' N' nd' X' T' hT; (try dsimp only); k_extra "d185"
  k_with "EVT42" => first | k_extra "d297" | k_extra "d317" | (k_extra "d216"; k_extra "d26") | (k_extra "d217"; (first | (refine' Ev.sub ?s14e ?s24e ?st4e ?sa4e ?sb4e ?sc4e ?sd4e; (case s14e => fail); (case s24e => fail); k_extra "d120"; (case sa4e => first | decide | k_extra "w"); (case sb4e => first | decide | omega); (case sc4e => exact rfl); (case sd4e => intro _; with_unfolding_all rfl)) | (refine' Ev.subL ?t14e ?t24e ?tt4e ?ta4e ?tb4e ?tc4e ?td4e; (case t14e => fail); (case t24e => fail); k_extra "d114"; (case ta4e => first | decide | k_extra "w"); (case tb4e => first | decide | omega); k_extra "d134"; (case td4e => intro _; with_unfolding_all rfl)))) | (k_extra "d220"; (first | k_extra "d203" | k_extra "d202" | k_extra "d125" | (refine' Ev.fdiv ?v14e ?v24e ?v34e ?v44e; (case v14e => fail); (case v24e => fail); (case v34e => first | k_extra "w" | decide | omega); (case v44e => first | decide | omega)) | (refine' Ev.fmod ?w14e ?w24e ?w34e; (case w14e => fail); (case w24e => fail); (case w34e => first | k_extra "w" | decide | omega))))
  k_with "EVT32" => first | k_extra "d298" | k_extra "d317" | (k_extra "d216"; (first | (refine' Ev.own ?oo3e ?oF3e ?oX3e ?oI3e ?oO3e ?ol3e ?ov3e ?oe3e; (case oo3e => k_extra "EVT42"); (case oF3e => k_extra "w"); (case oX3e => k_extra "w"); k_extra "d53"; (case oO3e => k_extra "OWN"); (case ol3e => k_get); (case ov3e => k_handed); (case oe3e => with_unfolding_all rfl)))) | (k_extra "d217"; (first | (refine' Ev.sub ?s13e ?s23e ?st3e ?sa3e ?sb3e ?sc3e ?sd3e; (case s13e => k_extra "EVT42"); (case s23e => k_extra "EVT42"); k_extra "d121"; k_extra "d249"; (case sb3e => first | decide | omega); (case sc3e => exact rfl); k_extra "d235") | (refine' Ev.subL ?t13e ?t23e ?tt3e ?ta3e ?tb3e ?tc3e ?td3e; (case t13e => k_extra "EVT42"); (case t23e => k_extra "EVT42"); k_extra "d115"; k_extra "d250"; (case tb3e => first | decide | omega); k_extra "d135"; k_extra "d236"))) | (k_extra "d220"; (first | (refine' Ev.add ?p13e ?p23e; (case p13e => k_extra "EVT42"); (case p23e => k_extra "EVT42")) | (refine' Ev.subi ?q13e ?q23e; (case q13e => k_extra "EVT42"); (case q23e => k_extra "EVT42")) | (refine' Ev.mul ?u13e ?u23e ?u33e; (case u13e => k_extra "EVT42"); (case u23e => k_extra "EVT42"); k_extra "d243") | (refine' Ev.fdiv ?v13e ?v23e ?v33e ?v43e; (case v13e => k_extra "EVT42"); (case v23e => k_extra "EVT42"); (case v33e => first | k_extra "w" | decide | omega); (case v43e => first | decide | omega)) | (refine' Ev.fmod ?w13e ?w23e ?w33e; (case w13e => k_extra "EVT42"); (case w23e => k_extra "EVT42"); (case w33e => first | k_extra "w" | decide | omega))))
  k_with "EVT22" => first | k_extra "d299" | k_extra "d317" | (k_extra "d216"; (first | (refine' Ev.own ?oo2e ?oF2e ?oX2e ?oI2e ?oO2e ?ol2e ?ov2e ?oe2e; (case oo2e => k_extra "EVT32"); (case oF2e => k_extra "w"); (case oX2e => k_extra "w"); k_extra "d54"; (case oO2e => k_extra "OWN"); (case ol2e => k_get); (case ov2e => k_handed); (case oe2e => with_unfolding_all rfl)))) | (k_extra "d217"; (first | (refine' Ev.sub ?s12e ?s22e ?st2e ?sa2e ?sb2e ?sc2e ?sd2e; (case s12e => k_extra "EVT32"); (case s22e => k_extra "EVT32"); k_extra "d122"; k_extra "d251"; (case sb2e => first | decide | omega); (case sc2e => exact rfl); k_extra "d237") | (refine' Ev.subL ?t12e ?t22e ?tt2e ?ta2e ?tb2e ?tc2e ?td2e; (case t12e => k_extra "EVT32"); (case t22e => k_extra "EVT32"); k_extra "d116"; k_extra "d252"; (case tb2e => first | decide | omega); k_extra "d136"; k_extra "d238"))) | (k_extra "d220"; (first | (refine' Ev.add ?p12e ?p22e; (case p12e => k_extra "EVT32"); (case p22e => k_extra "EVT32")) | (refine' Ev.subi ?q12e ?q22e; (case q12e => k_extra "EVT32"); (case q22e => k_extra "EVT32")) | (refine' Ev.mul ?u12e ?u22e ?u32e; (case u12e => k_extra "EVT32"); (case u22e => k_extra "EVT32"); k_extra "d244") | (refine' Ev.fdiv ?v12e ?v22e ?v32e ?v42e; (case v12e => k_extra "EVT32"); (case v22e => k_extra "EVT32"); (case v32e => first | k_extra "w" | decide | omega); (case v42e => first | decide | omega)) | (refine' Ev.fmod ?w12e ?w22e ?w32e; (case w12e => k_extra "EVT32"); (case w22e => k_extra "EVT32"); (case w32e => first | k_extra "w" | decide | omega))))
  k_with "EVT12" => first | k_extra "d300" | k_extra "d317" | (k_extra "d216"; (first | (refine' Ev.own ?oo1e ?oF1e ?oX1e ?oI1e ?oO1e ?ol1e ?ov1e ?oe1e; (case oo1e => k_extra "EVT22"); (case oF1e => k_extra "w"); (case oX1e => k_extra "w"); k_extra "d55"; (case oO1e => k_extra "OWN"); (case ol1e => k_get); (case ov1e => k_handed); (case oe1e => with_unfolding_all rfl)))) | (k_extra "d217"; (first | (refine' Ev.sub ?s11e ?s21e ?st1e ?sa1e ?sb1e ?sc1e ?sd1e; (case s11e => k_extra "EVT22"); (case s21e => k_extra "EVT22"); k_extra "d123"; k_extra "d253"; (case sb1e => first | decide | omega); (case sc1e => exact rfl); k_extra "d239") | (refine' Ev.subL ?t11e ?t21e ?tt1e ?ta1e ?tb1e ?tc1e ?td1e; (case t11e => k_extra "EVT22"); (case t21e => k_extra "EVT22"); k_extra "d117"; k_extra "d254"; (case tb1e => first | decide | omega); k_extra "d137"; k_extra "d240"))) | (k_extra "d220"; (first | (refine' Ev.add ?p11e ?p21e; (case p11e => k_extra "EVT22"); (case p21e => k_extra "EVT22")) | (refine' Ev.subi ?q11e ?q21e; (case q11e => k_extra "EVT22"); (case q21e => k_extra "EVT22")) | (refine' Ev.mul ?u11e ?u21e ?u31e; (case u11e => k_extra "EVT22"); (case u21e => k_extra "EVT22"); k_extra "d245") | (refine' Ev.fdiv ?v11e ?v21e ?v31e ?v41e; (case v11e => k_extra "EVT22"); (case v21e => k_extra "EVT22"); (case v31e => first | k_extra "w" | decide | omega); (case v41e => first | decide | omega)) | (refine' Ev.fmod ?w11e ?w21e ?w31e; (case w11e => k_extra "EVT22"); (case w21e => k_extra "EVT22"); (case w31e => first | k_extra "w" | decide | omega))))
  k_with "EVT02" => first | k_extra "d301" | k_extra "d317" | (k_extra "d216"; (first | (refine' Ev.own ?oo0e ?oF0e ?oX0e ?oI0e ?oO0e ?ol0e ?ov0e ?oe0e; (case oo0e => k_extra "EVT12"); (case oF0e => k_extra "w"); (case oX0e => k_extra "w"); k_extra "d56"; (case oO0e => k_extra "OWN"); (case ol0e => k_get); (case ov0e => k_handed); (case oe0e => with_unfolding_all rfl)))) | (k_extra "d217"; (first | (refine' Ev.sub ?s10e ?s20e ?st0e ?sa0e ?sb0e ?sc0e ?sd0e; (case s10e => k_extra "EVT12"); (case s20e => k_extra "EVT12"); k_extra "d124"; k_extra "d255"; (case sb0e => first | decide | omega); (case sc0e => exact rfl); k_extra "d241") | (refine' Ev.subL ?t10e ?t20e ?tt0e ?ta0e ?tb0e ?tc0e ?td0e; (case t10e => k_extra "EVT12"); (case t20e => k_extra "EVT12"); k_extra "d118"; k_extra "d256"; (case tb0e => first | decide | omega); k_extra "d138"; k_extra "d242"))) | (k_extra "d220"; (first | (refine' Ev.add ?p10e ?p20e; (case p10e => k_extra "EVT12"); (case p20e => k_extra "EVT12")) | (refine' Ev.subi ?q10e ?q20e; (case q10e => k_extra "EVT12"); (case q20e => k_extra "EVT12")) | (refine' Ev.mul ?u10e ?u20e ?u30e; (case u10e => k_extra "EVT12"); (case u20e => k_extra "EVT12"); k_extra "d246") | (refine' Ev.fdiv ?v10e ?v20e ?v30e ?v40e; (case v10e => k_extra "EVT12"); (case v20e => k_extra "EVT12"); (case v30e => first | k_extra "w" | decide | omega); (case v40e => first | decide | omega)) | (refine' Ev.fmod ?w10e ?w20e ?w30e; (case w10e => k_extra "EVT12"); (case w20e => k_extra "EVT12"); (case w30e => first | k_extra "w" | decide | omega))))
  k_with "EVS52" => first | exact Evs.nil | (refine' Evs.cons ?va5 ?vb5 ?vc5; (case va5 => k_extra "EVT02"); (case vb5 => k_extra "EVS6"); (case vc5 => rfl))
  k_with "EVS42" => first | exact Evs.nil | (refine' Evs.cons ?va4 ?vb4 ?vc4; (case va4 => k_extra "EVT02"); (case vb4 => k_extra "EVS52"); (case vc4 => rfl))
  k_with "EVS32" => first | exact Evs.nil | (refine' Evs.cons ?va3 ?vb3 ?vc3; (case va3 => k_extra "EVT02"); (case vb3 => k_extra "EVS42"); (case vc3 => rfl))
  k_with "EVS22" => first | exact Evs.nil | (refine' Evs.cons ?va2 ?vb2 ?vc2; (case va2 => k_extra "EVT02"); (case vb2 => k_extra "EVS32"); (case vc2 => rfl))
  k_with "EVS12" => first | exact Evs.nil | (refine' Evs.cons ?va1 ?vb1 ?vc1; (case va1 => k_extra "EVT02"); (case vb1 => k_extra "EVS22"); (case vc1 => rfl))
  k_with "EVS02" => first | exact Evs.nil | (refine' Evs.cons ?va0 ?vb0 ?vc0; (case va0 => k_extra "EVT02"); (case vb0 => k_extra "EVS12"); (case vc0 => rfl))
  k_with "SEV2" => first | (k_extra "d207"; (first | (k_extra "d156"; k_dflt (refine' call_nm ?cF ?cX ?cT ?cv ?cc ?ck ?ca ?c1 ?cp ?ce ?_; (case cF => k_extra "w"); (case cX => k_extra "w"); (case cT => k_extra "w"); (case cc => kernel_rfl); (case cv => k_is); (case ck => k_is); (case ca => k_extra "EVS02"); (case c1 => rfl); (case cp => kernel_rfl); (case ce => rfl); k_whole)) | (k_extra "d162"; k_dflt k_extra "d69") | (k_extra "d151"; k_dflt (refine' call_mt ?m0 ?mF ?mX ?mI ?mO ?ml ?ma ?m1 ?mp ?me ?_; (case m0 => k_extra "EVT02"); (case mF => k_extra "w"); (case mX => k_extra "w"); k_extra "d59"; (case mO => k_extra "METH"); (case ml => k_get); (case ma => k_extra "EVS02"); (case m1 => rfl); (case mp => kernel_rfl); (case me => rfl); k_whole)) | (k_extra "d154"; k_dflt (refine' call_mt0 ?m0 ?mF ?mX ?mI ?mO ?ml ?me ?_; (case m0 => k_extra "EVT02"); (case mF => k_extra "w"); (case mX => k_extra "w"); k_extra "d59"; (case mO => k_extra "METH"); (case ml => k_get); (case me => rfl); k_whole)) | (k_end; wrow_close) | walk1 | (dsimp only; walk1) | (leave1; try dsimp only) | k_extra "d318" | fail "no step")) | (k_dflt (refine' Ev.use ?eu ?_; (case eu => k_extra "EVT02"); k_whole)) | (k_end; wrow_close) | walk1 | (dsimp only; walk1) | (leave1; try dsimp only) | k_extra "d318" | fail "no step"
  k_with "SEX2" => first | (k_extra "d172"; k_dflt (refine' asg_nm ?aF ?aN ?ae ?ac ?as ?_; (case ac => kernel_rfl); (case aF => k_extra "w"); (case aN => k_extra "w"); (case ae => k_extra "EVT02"); (case as => rfl); k_whole; intro qm tqq h' F' N'; (try k_sweep))) | k_extra "d310" | k_extra "d277" | k_extra "d276" | k_extra "d272" | k_extra "d305" | k_extra "d306" | k_extra "d307" | k_extra "d286" | (k_end; wrow_close) | walk1 | (dsimp only; walk1) | (leave1; try dsimp only) | k_extra "d318" | fail "no step"
  k_with "STD2" => first | (k_extra "d181"; k_dflt (first | (k_extra "d163"; refine' tst_lt ?talt ?tblt ?tclt ?_; (case talt => k_extra "EVT02"); (case tblt => k_extra "EVT02"); (case tclt => rfl); k_whole) | (k_extra "d160"; refine' tst_le ?tale ?tble ?tcle ?_; (case tale => k_extra "EVT02"); (case tble => k_extra "EVT02"); (case tcle => rfl); k_whole) | (k_extra "d164"; refine' tst_gt ?tagt ?tbgt ?tcgt ?_; (case tagt => k_extra "EVT02"); (case tbgt => k_extra "EVT02"); (case tcgt => rfl); k_whole) | (k_extra "d161"; refine' tst_ge ?tage ?tbge ?tcge ?_; (case tage => k_extra "EVT02"); (case tbge => k_extra "EVT02"); (case tcge => rfl); k_whole) | (k_extra "d165"; refine' tst_eq ?taeq ?tbeq ?tceq ?_; (case taeq => k_extra "EVT02"); (case tbeq => k_extra "EVT02"); (case tceq => rfl); k_whole) | (k_extra "d159"; refine' tst_ne ?tane ?tbne ?tcne ?_; (case tane => k_extra "EVT02"); (case tbne => k_extra "EVT02"); (case tcne => rfl); k_whole))) | k_extra "d302" | k_extra "d290" | (k_extra "d224"; k_dflt k_extra "d82") | k_extra "d310" | k_extra "d277" | k_extra "d276" | k_extra "d272" | k_extra "d305" | k_extra "d306" | k_extra "d307" | (k_extra "d157"; k_dflt (first | k_extra "d75" | (refine' item_L ?jl ?ja ?jb ?jc ?_; k_extra "d214"; k_extra "d258"; (case jb => first | decide | omega); k_extra "d153"; k_whole) | (refine' item_L ?jl ?ja ?jb ?jc ?_; (case jl => exact News.isList (by k_extra "w") (by k_extra "MEM")); k_extra "d258"; (case jb => first | decide | omega); k_extra "d153"; k_whole) | k_extra "d72")) | k_extra "d287" | k_extra "d286" | (k_end; wrow_close) | walk1 | (dsimp only; walk1) | (leave1; try dsimp only) | k_extra "d318" | fail "no step"
  k_with "CP2" => k_extra "d0"; (case qhd => k_extra "d99"); (case qhu => k_extra "d99")
  k_with "pop02" => (k_extra "d189"; k_dflt (refine' callR (pop0_ct (hd := ?qhd) (hu := ?qhu) (P := ?qP) (hr := ?_)); k_extra "CP2"; intro h9 tk9 n9; k_extra "CW"))
  k_with "push02" => (k_extra "d190"; k_dflt (refine' callR (push0_ct (hd := ?qhd) (hu := ?qhu) (P := ?qP) (hr := ?_)); k_extra "CP2"; intro h9 tk9 t9 n9; k_extra "CW"))
  k_with "rounded" => ((with_reducible show wpAny _ _ (call (Value.ref (nat_lit 557)) _) _ _ _); k_dflt (refine' callR (rounded_ct (hd := ?qhd) (hu := ?qhu) (P := ?qP) (hr := ?_)); k_extra "CP2"; intro h9 tk9 t9; k_extra "CW"))
  k_with "ABS2" => first | (exfalso; simp_all; done) | (exfalso; omega)
  k_with "z27" => repeat' (first | k_extra "d295" | (k_extra "d229"; k_extra "d32"; (first | k_extra "SEV2")) | (k_extra "d230"; k_extra "d185"; (first | k_extra "SEX2")) | k_extra "d304" | k_extra "STD2")
  k_with "z28" => repeat' (first | k_extra "d295" | (k_extra "d229"; k_extra "d32"; (first | k_extra "SEV2")) | (k_extra "d230"; k_extra "d185"; (first | k_extra "SEX2")) | (k_extra "d213"; (first | k_extra "pop02" | k_extra "push02" | k_extra "rounded" | k_extra "SCL")) | k_extra "STD2")
  k_with "mul14" => (k_extra "d197"; k_dflt (refine' callR (mul14_ct (hd := ?qhd) (hu := ?qhu) (P := ?qP) (hr := ?_)); k_extra "CP"; intro h9 tk9 t9; k_extra "CW"))
  k_with "mul14z" => (k_extra "d197"; k_dflt (refine' callR (mul14z_ct (hd := ?qhd) (hu := ?qhu) (P := ?qP) (hr := ?_)); k_extra "CP"; intro h9 tk9 t9; k_extra "CW"))
  k_with "along" => ((with_reducible show wpAny _ _ (call (Value.ref (nat_lit 430)) _) _ _ _); k_dflt (refine' callR (along_ct (hd := ?qhd) (hu := ?qhu) (P := ?qP) (hr := ?_)); k_extra "CP"; intro h9 tk9 r9 t8 t9; k_extra "CW"))
  k_with "zone1" => (k_extra "d188"; k_dflt (refine' callR (zone1_ct (hd := ?qhd) (hu := ?qhu) (P := ?qP) (hr := ?_)); k_extra "CP"; intro h9 tk9 ; k_extra "CW"))
  k_with "z29" => repeat' (first | k_extra "d295" | k_extra "d294" | k_extra "d292" | (k_extra "d213"; (first | k_extra "mdone" | k_extra "SCL")) | k_extra "STD")
  k_with "z30" => repeat' (first | k_extra "d295" | k_extra "d294" | k_extra "d292" | (k_extra "d213"; (first | k_extra "mdzero" | k_extra "SCL")) | k_extra "STD")
  k_with "z31" => repeat' (first | k_extra "d295" | k_extra "d294" | k_extra "d292" | (k_extra "d213"; (first | k_extra "mul14" | k_extra "mul14z" | k_extra "SCL")) | k_extra "STD")
  k_with "z32" => repeat' (first | k_extra "d295" | k_extra "d294" | k_extra "d292" | (k_extra "d213"; (first | k_extra "pop1" | k_extra "along" | k_extra "zone1" | k_extra "nextloop" | k_extra "pop0" | k_extra "shifted" | k_extra "SCL")) | k_extra "STD")
  k_with "z33" => repeat' (first | k_extra "d295" | k_extra "d294" | k_extra "d292" | (k_extra "d213"; (first | k_extra "put" | k_extra "SCL")) | k_extra "STD")
  k_with "pairof" => ((with_reducible show wpAny _ _ (call (Value.ref (nat_lit 926)) _) _ _ _); k_dflt (refine' callR (pairof_ct (hd := ?qhd) (hu := ?qhu) (P := ?qP) (hr := ?_) (gIx := ?qgIx) (gIo := ?qgIo) (i0 := ?qi0) (i1 := ?qi1)); k_extra "d232"; (case qgIo => first | exact ⟨rfl⟩ | k_extra "w"); k_extra "CP"; k_extra "d221"; k_extra "d222"; intro h9 tk9 r9; k_extra "CW"))
  k_with "drawn" => ((with_reducible show wpAny _ _ (call (Value.ref (nat_lit 912)) _) _ _ _); k_dflt (refine' callR (drawn_ct (hd := ?qhd) (hu := ?qhu) (P := ?qP) (hr := ?_)); k_extra "CP"; intro h9 tk9 t9; k_extra "CW"))
  k_with "putpart" => ((with_reducible show wpAny _ _ (call (Value.ref (nat_lit 919)) _) _ _ _); k_dflt (refine' callR (putpart_ct (hd := ?qhd) (hu := ?qhu) (P := ?qP) (hr := ?_) (gIx := ?qgIx) (i0 := ?qi0) (i1 := ?qi1)); k_extra "d232"; k_extra "CP"; k_extra "d221"; k_extra "d222"; intro h9 tk9 r9 t8 t9 n9; k_extra "CW"))
  k_with "z34" => repeat' (first | k_extra "d295" | k_extra "d294" | k_extra "d292" | (k_extra "d213"; (first | k_extra "pairof" | k_extra "drawn" | k_extra "putpart" | k_extra "SCL")) | k_extra "STD")
  k_with "ENTC" => (case k1 => assumption); (case k6 => k_is); (case k7 => k_is); k_extra "d178"; k_extra "d133"; (case kB => exact rfl); (case kD => decide +kernel); (case c2 => exact rfl); (case c3 => exact rfl); (case c4 => exact rfl); k_whole; intro qN lo mean mg mb L' h' g0 tk' cells' G' F' N' Y' l1 nd0 X' T' hT; k_cells Y'; (try simp only [List.cons_append, List.nil_append] at N'); (first | have nd' := ndC2 N' nd0 l1 (by k_extra "d170") (by k_extra "d170") (by (first | exact Nat.ne_of_lt (Nat.lt_succ_self _) | exact (Nat.ne_of_lt (Nat.lt_succ_self _)).symm)) | have nd' := ndC1 N' nd0 l1 (by k_extra "d170")); clear l1 nd0; (try dsimp only); k_extra "d185"
  k_with "comp" => ((with_reducible show wpAny _ _ (exec (Stmt.Assign _ (Expr.ListComp _ _ _ _) _) _) _ _ _); k_here; lct_look; lcg_calm; k_dflt (refine LCt.Assign_ListComp_T (F₀ := by k_asm) (by rfl) (by with_unfolding_all rfl) (by with_unfolding_all rfl) (by decide) (by rfl) (by decide) (by rfl) (by rfl) (by rfl) ?_))
  k_with "drawbetween" => ((with_reducible show wpAny _ _ (call (Value.ref (nat_lit 933)) _) _ _ _); k_dflt (refine' callR (drawbetween_ct (hd := ?qhd) (hu := ?qhu) (P := ?qP) (hr := ?_)); k_extra "CP"; intro h9 tk9 rA rB t5 t6 t7 t8 n9; k_extra "CW"))
  k_with "csrc" => ((with_reducible show LCt.CompSrcT _ _ _ _ _ _ _ _ _ _ _ _ _ _ _); k_dflt (refine LCt.CompSrcT.range (by rfl) (by k_asm) (by k_asm) (by assumption) (by first | decide | rfl) (by first | rfl | decide) (by first | exact Nat.le_of_ble_eq_true rfl | size_fits) ?_); intro g'; lct_lit)
  k_with "lr2" => (k_extra "d179"; k_dflt (refine' lr2 (x0 := 1) (x1 := 2) ?l1 ?l2 ?l3 ?l4 ?l5 ?l6 ?l7 ?l8 ?_; (case l1 => exact rfl); (case l2 => k_extra "w"); (case l3 => k_extra "w"); (case l4 => assumption); (case l5 => first | decide | rfl); (case l6 => first | rfl | decide); (case l7 => first | rfl | (k_extra "o")); (case l8 => first | rfl | (k_extra "o"))); intro h' tk' D' k' t0' t1' F' N' l1; (try k_lt l1); (try k_sweep))
  k_with "lr0" => (k_extra "d179"; k_dflt (refine' lr0 ?l1 ?l2 ?l3 ?l4 ?l5 ?l6 ?_; (case l1 => exact rfl); (case l2 => k_extra "w"); (case l3 => k_extra "w"); (case l4 => assumption); (case l5 => first | decide | rfl); (case l6 => first | rfl | decide)); intro h' tk' D' k'  F' N' l1; (try k_lt l1); (try k_sweep))
  k_with "z35" => repeat' (first | k_extra "d295" | k_extra "d294" | (k_extra "d230"; k_extra "d185"; (first | k_extra "comp" | k_extra "SEX")) | (k_extra "d213"; (first | k_extra "drawbetween" | k_extra "SCL")) | k_extra "csrc" | k_extra "lr2" | k_extra "lr0" | k_extra "STD")
  k_with "bounds" => ((with_reducible show wpAny _ _ (call (Value.ref (nat_lit 870)) _) _ _ _); k_dflt (refine' callR (bounds_ct (hd := ?qhd) (hu := ?qhu) (P := ?qP) (hr := ?_)); k_extra "CP"; intro h9 tk9 r9 t9; k_extra "CW"))
  k_with "drawcontour" => ((with_reducible show wpAny _ _ (call (Value.ref (nat_lit 938)) _) _ _ _); k_dflt (refine' callR (drawcontour_ct (hd := ?qhd) (hu := ?qhu) (P := ?qP) (hr := ?_)); k_extra "CP"; intro h9 tk9 rA rB t5 t6 t7 t8 n9; k_extra "CW"))
  k_with "z36" => repeat' (first | k_extra "d295" | k_extra "d294" | k_extra "d292" | (k_extra "d213"; (first | k_extra "bounds" | k_extra "drawcontour" | k_extra "SCL")) | k_extra "STD")
  k_with "bitem" => ((with_reducible show wpAny _ _ (subscriptTail _ _ (Value.bytes _ _) (Value.int _ _)) _ _ _); k_dflt ((with_reducible refine' KBw.item_K (ks := ?bks) ?bi1 ?bi2 ?bi3 ?bi4 ?_); (case bi1 => assumption); (case bi2 => (k_extra "o")); (case bi3 => (k_extra "o")); (case bi4 => (k_extra "o")); (try (rw [show List.getD _ _ _ = _ from by assumption])); intro bt bk bl1 bl2; clear bl1 bl2))
  k_with "blen" => ((with_reducible show wpAny _ _ (call (Value.builtin "len") [Value.bytes _ _]) _ _ _); k_dflt (refine' KBw.len_K (ks := ?bks) ?bi1 ?bi2 ?_; (case bi1 => assumption); (case bi2 => (k_extra "o"))))
  k_with "pshape176" => (k_extra "d198"; k_dflt (refine' callR (pshape176_ct (hd := ?qhd) (hu := ?qhu) (P := ?qP) (hr := ?_) (hk := ?qhk) (hz := ?qhz) (i0 := ?qi0) (i1 := ?qi1) (hop := ?qhop)); k_extra "CP"; (case qhk => assumption); (case qhz => assumption); (case qi0 => (k_extra "o")); (case qi1 => (k_extra "o")); (case qhop => assumption); intro h9 tk9 r9 t8 t9; k_extra "CW"))
  k_with "lb1" => (k_extra "d166"; k_dflt (refine' lb1 ?l1 ?l4 ?l2 ?l3 ?_; (case l1 => exact rfl); (case l2 => k_extra "w"); (case l3 => k_extra "w"); k_extra "d92"); intro h' tk' D' k' t0 F' N' l1; (try k_lt l1); (try k_sweep))
  k_with "pshape179" => (k_extra "d198"; k_dflt (refine' callR (pshape179_ct (hd := ?qhd) (hu := ?qhu) (P := ?qP) (hr := ?_) (hk := ?qhk) (hz := ?qhz) (i0 := ?qi0) (i1 := ?qi1) (hop := ?qhop)); k_extra "CP"; (case qhk => assumption); (case qhz => assumption); (case qi0 => (k_extra "o")); (case qi1 => (k_extra "o")); (case qhop => assumption); intro h9 tk9 r9 t8 t9; k_extra "CW"))
  k_with "lb4" => (k_extra "d166"; k_dflt (refine' lb4 ?l1 ?l4 ?l2 ?l3 ?_; (case l1 => exact rfl); (case l2 => k_extra "w"); (case l3 => k_extra "w"); k_extra "d92"); intro h' tk' D' k' t0 t1 t2 t3 F' N' l1; (try k_lt l1); (try k_sweep))
  k_with "z37" => repeat' (first | k_extra "d295" | k_extra "d294" | k_extra "d292" | k_extra "d304" | k_extra "bitem" | k_extra "blen" | k_extra "STD")
  k_with "z38" => repeat' (first | k_extra "d295" | k_extra "d294" | k_extra "d292" | (k_extra "d213"; (first | k_extra "pshape176" | k_extra "SCL")) | k_extra "bitem" | k_extra "blen" | k_extra "lb1" | k_extra "STD")
  k_with "z39" => repeat' (first | k_extra "d295" | k_extra "d294" | k_extra "d292" | (k_extra "d213"; (first | k_extra "pshape179" | k_extra "SCL")) | k_extra "bitem" | k_extra "blen" | k_extra "lb4" | k_extra "STD")
  k_with "z40" => repeat' (first | k_extra "d295" | k_extra "d294" | k_extra "d292" | k_extra "d304" | k_extra "blen" | k_extra "STD")
  k_with "ispush0" => (k_extra "d199"; k_dflt (refine' callR (ispush0_ct (hd := ?qhd) (hu := ?qhu) (P := ?qP) (hr := ?_) (o1 := ?qo1) (o2 := ?qo2) (o3 := ?qo3)); k_extra "CP"; (case qo1 => assumption); (case qo2 => assumption); (case qo3 => assumption); intro h9 tk9 ; k_extra "CW"))
  k_with "opcall" => ((with_reducible show wpAny _ _ (call (Value.ref f) _) _ _ _); (have N8 := News.tail3 (by k_extra "w")); k_dflt (refine' wpAny_call (hop ?qhd ?qhu ?qP ?_); (case qP => (refine' Pre.of ?qF ?qN ?qnd ?qS ?qX ?qT ?qf; (case qF => k_extra "w"); (case qN => exact N8); (case qnd => assumption); (case qX => k_extra "w"); (case qT => k_extra "w"); (case qS => exact List.Sublist.cons _ (List.Sublist.refl _)); (case qf => (intro H9 B9; exact Facts.mono (fun _ _ z => B9.go z) ‹_›)))); k_extra "d83"; k_extra "d84"; intro h9 tk9 Ω' new' hrel P9; have U9 := P9.use (by k_extra "w") N8 (by assumption) (Emb.skip (Emb.all (hra _ _ hrel))); obtain ⟨F9, N9, nd9⟩ := U9; clear P9))
  k_with "rwn" => (first | (rw [x1]; done) | rw [x1] | rw [x2] | rw [x3])
  k_with "oin" => ((with_reducible show wpAny _ _ (compareOp CmpOp.In (Value.int _ _) (Value.ref _)) _ _ _); k_dflt (refine' kdg_in ?bi1 ?bi2 ?bi3 ?bi5 ?bi4 ?_; (case bi1 => k_extra "w"); (case bi2 => k_extra "w"); (case bi3 => assumption); (case bi4 => assumption); (case bi5 => assumption)))
  k_with "oitem" => (k_extra "d157"; k_dflt (refine' kdg_item ?bi1 ?bi2 ?bi3 ?bi4 ?_; (case bi1 => k_extra "w"); (case bi2 => k_extra "w"); (case bi3 => assumption); (case bi4 => assumption)))
  k_with "ocw" => ((with_reducible show wpAny _ _ (callWith _ (Value.ref f) _ _ _) _ _ _); k_dflt (refine' callWith_K ?bi1 ?bi2 ?_; (case bi1 => k_extra "w"); (case bi2 => assumption); k_whole))
  k_with "z41" => repeat' (first | k_extra "d295" | k_extra "d294" | k_extra "d292" | (k_extra "d213"; (first | k_extra "ispush0" | k_extra "opcall" | k_extra "SCL")) | k_extra "rwn" | k_extra "bitem" | k_extra "blen" | k_extra "oin" | k_extra "oitem" | k_extra "ocw" | k_extra "STD")
  k_with "ispush176" => (k_extra "d199"; k_dflt (refine' callR (ispush176_ct (hd := ?qhd) (hu := ?qhu) (P := ?qP) (hr := ?_)); k_extra "CP"; intro h9 tk9 ; k_extra "CW"))
  k_with "pushed176" => (k_extra "d200"; k_dflt (refine' callR (pushed176_ct (hd := ?qhd) (hu := ?qhu) (P := ?qP) (hr := ?_) (hk := ?qhk) (hz := ?qhz) (i0 := ?qi0) (i1 := ?qi1) (hop := ?qhop) (hsl := ?qhsl)); k_extra "CP"; (case qhk => assumption); (case qhz => assumption); (case qi0 => assumption); (case qi1 => (k_extra "o")); (case qhop => assumption); (case qhsl => assumption); intro h9 tk9 r9 D9 kk9 t9 u0; k_extra "CW"))
  k_with "pushX" => (k_extra "d190"; k_dflt (refine' callR (pushG_ct (hd := ?qhd) (hu := ?qhu) (P := ?qP) (hr := ?_) (hx := ?qhx) (l := l)); k_extra "CP"; (case qhx => assumption); intro h9 tk9 t9 n9; k_extra "CW"))
  k_with "ispush179" => (k_extra "d199"; k_dflt (refine' callR (ispush179_ct (hd := ?qhd) (hu := ?qhu) (P := ?qP) (hr := ?_)); k_extra "CP"; intro h9 tk9 ; k_extra "CW"))
  k_with "pushed179" => (k_extra "d200"; k_dflt (refine' callR (pushed179_ct (hd := ?qhd) (hu := ?qhu) (P := ?qP) (hr := ?_) (hk := ?qhk) (hz := ?qhz) (i0 := ?qi0) (i1 := ?qi1) (hop := ?qhop) (hsl := ?qhsl)); k_extra "CP"; (case qhk => assumption); (case qhz => assumption); (case qi0 => assumption); (case qi1 => (k_extra "o")); (case qhop => assumption); (case qhsl => assumption); intro h9 tk9 r9 D9 kk9 t9 u0 u1 u2 u3; k_extra "CW"))
  k_with "pushl0" => (k_extra "d190"; k_dflt (refine' callR (push0_ct (hd := ?qhd) (hu := ?qhu) (P := ?qP) (hr := ?_) (l := l)); k_extra "CP"; intro h9 tk9 t9 n9; k_extra "CW"))
  k_with "pushl1" => (k_extra "d190"; k_dflt (refine' callR (push1_ct (hd := ?qhd) (hu := ?qhu) (P := ?qP) (hr := ?_) (l := l)); k_extra "CP"; intro h9 tk9 t9 n9; k_extra "CW"))
  k_with "pushl2" => (k_extra "d190"; k_dflt (refine' callR (push2_ct (hd := ?qhd) (hu := ?qhu) (P := ?qP) (hr := ?_) (l := l)); k_extra "CP"; intro h9 tk9 t9 n9; k_extra "CW"))
  k_with "pushl3" => (k_extra "d190"; k_dflt (refine' callR (push3_ct (hd := ?qhd) (hu := ?qhu) (P := ?qP) (hr := ?_) (l := l)); k_extra "CP"; intro h9 tk9 t9 n9; k_extra "CW"))
  k_with "z42" => repeat' (first | k_extra "d295" | k_extra "d294" | k_extra "d292" | (k_extra "d213"; (first | k_extra "ispush176" | k_extra "pushed176" | k_extra "pushX" | k_extra "SCL")) | k_extra "bitem" | k_extra "blen" | k_extra "STD")
  k_with "z43" => repeat' (first | k_extra "d295" | k_extra "d294" | k_extra "d292" | (k_extra "d213"; (first | k_extra "ispush179" | k_extra "pushed179" | k_extra "pushl0" | k_extra "pushl1" | k_extra "pushl2" | k_extra "pushl3" | k_extra "SCL")) | k_extra "bitem" | k_extra "blen" | k_extra "STD")
  k_with "whl" => ((with_reducible show wpAny _ _ (exec (Stmt.While _ _ _ _) _) _ _ _); k_dflt (refine' While_inv (fun n m news => m = (fun y => List.lookup y [(Str.ofString "self", Value.ref c.M)].reverse) ∧ ∃ k tk i ti Ω' Nw, news = c.mO w k tk :: (c.cl, lsO [] c.nc) :: c.pO w i ti :: (Ω' ++ Nw) ∧ (ads news).Nodup ∧ ads Ω' = ads Ω ∧ Goes w c ks.length T0 Fin n i Ω' Nw ∧ k + (n : Int) = n0) ?wF ?wN ?wJ ?wt ?wE; (case wF => k_extra "w"); (case wN => k_extra "w"); k_extra "d139"; (case wE => passes_own); intro n1 m1 news1 h1 tk1 F1 N1 hJ; obtain ⟨rfl, k, tkk, i, tii, Ωc, Nw, rfl, nd1, ha1, G1, hk1⟩ := hJ; rcases n1 with _ | n1; (obtain ⟨hi, hFin⟩ := G1; subst hi); rotate_left; (obtain ⟨i0, i1, i', T, Rel, hst, hft, hgo⟩ := G1); clear G))
  k_with "CP3" => (case qP => (refine' Pre.of ?qF ?qN ?qnd ?qS ?qX ?qT ?qf; (case qF => k_extra "w"); (case qN => k_extra "w"); (case qnd => ((repeat (first | assumption | (exact nd_sw1 (by assumption)) | (exact nd_sw2 (by assumption)) | (exact nd_sw3 (by assumption)) | k_extra "d70" | exact List.nodup_nil | k_extra "d30" | exact nd_subN (by k_extra "w") (by assumption) (by k_extra "d311") | k_extra "d73" | (refine List.nodup_cons.mpr ⟨nd_selN (by k_extra "w") (by assumption) (by (k_extra "d41"; first | done | fail)), ?_⟩))); first | done | fail)); (case qX => k_extra "w"); (case qT => k_extra "w"); (case qS => k_extra "d311"); (case qf => ((repeat (first | exact FsP.nil | refine FsP.tupG (by k_extra "w") ?_ | refine FsP.tupN (by (k_extra "d41"; first | done | fail)) ?_ | refine FsP.objG (by k_extra "w") ?_ | refine FsP.objN (by (k_extra "d41"; first | done | fail)) ?_)); first | done | fail)))); k_extra "d83"; k_extra "d84"
  k_with "isover0" => (k_extra "d201"; k_dflt (refine' callR (isover0_ct (hd := ?qhd) (hu := ?qhu) (P := ?qP) (hr := ?_) (hk := ?qhk) (hz := ?qhz) (i0 := ?qi0) (i1 := ?qi1)); k_extra "CP3"; (case qhk => assumption); (case qhz => assumption); (case qi0 => assumption); (case qi1 => assumption); intro h9 tk9 ; k_extra "CW"))
  k_with "isover1" => (k_extra "d201"; k_dflt (refine' callR (isover1_ct (hd := ?qhd) (hu := ?qhu) (P := ?qP) (hr := ?_) (hk := ?qhk) (hz := ?qhz) (i1 := ?qi1)); k_extra "CP3"; (case qhk => assumption); (case qhz => assumption); (case qi1 => first | rfl | assumption); intro h9 tk9 ; k_extra "CW"))
  k_with "stepg" => ((with_reducible show wpAny _ _ (call (Value.ref 255) _) _ _ _); k_dflt (refine' wpAny_call (hst ?qhd ?qhu (run_pre (by k_extra "w") (by k_extra "w") (by assumption) (by k_extra "w") (by k_extra "w") (by k_extra "w") (by k_extra "w") (by k_extra "w") hft) ?_); k_extra "d83"; k_extra "d84"; intro h9 tk9 Ω9 new9 t9 hrel P9; obtain ⟨ha9, Nw9, hs9, G9⟩ := hgo _ _ hrel; obtain ⟨F9, N9, nd9⟩ := run_use P9 (by k_extra "w") (by k_extra "w") (by assumption) ha9 hs9; clear P9))
  k_with "z44" => repeat' (first | k_extra "d295" | k_extra "d294" | (k_extra "d230"; k_extra "d185"; (first | k_extra "whl" | k_extra "SEX")) | (k_extra "d213"; (first | k_extra "isover0" | k_extra "isover1" | k_extra "stepg" | k_extra "SCL")) | k_extra "STD")
  k_with "CA" => (first | (refine' Post.go0 P9 ?ua0 ?ub0 ?uc0 ?ud0 ?_; (case ua0 => k_extra "w"); (case ub0 => k_extra "w"); k_extra "d11"; k_extra "d44"; clear P9; k_extra "d267"; intro qN F9 N9) | (refine' Post.go1 P9 ?ua1 ?ub1 ?uc1 ?ud1 ?_; (case ua1 => k_extra "w"); (case ub1 => k_extra "w"); k_extra "d12"; k_extra "d45"; clear P9; k_extra "d267"; intro qN F9 N9 nd9) | (refine' Post.go2 P9 ?ua2 ?ub2 ?uc2 ?ud2 ?_; (case ua2 => k_extra "w"); (case ub2 => k_extra "w"); k_extra "d13"; k_extra "d46"; clear P9; k_extra "d267"; intro qN F9 N9 nd9) | (refine' Post.goN P9 ?uaN ?ubN ?ucN ?udN ?ulN ?_; (case uaN => k_extra "w"); (case ubN => k_extra "w"); k_extra "d14"; k_extra "d47"; k_extra "d149"; clear P9; k_extra "d267"; intro qN F9 N9 nd9; k_extra "d219")); (try k_sweep); (try dsimp only); k_extra "d185"
  k_with "mkplace" => ((with_reducible show wpAny _ _ (call (Value.ref (nat_lit 173)) _ _) _ _ _); k_dflt (refine' make_ct ?m1 ?m2 ?m3 ?m4 ?m5 ?m6 ?m7 ?m8 ?_; (case m1 => exact rfl); (case m2 => k_extra "w"); (case m3 => k_extra "w"); (case m4 => k_extra "w"); k_extra "d15"; (case m6 => k_is); (case m7 => k_is); (case m8 => k_is); intro x8 d8 h8 fr8 gd8 F8 N8 nd8 l81 l82; k_extra "d262"; (try k_lt l81); (try k_lt2 l82); refine' placeI_ct (hd := ?qhd) (hu := ?qhu) (P := ?qP) (hr := ?_); k_extra "CP"; intro h9 tk9 pt cl9 ti9 P9; refine And.intro rfl ?_; (try dsimp only); k_extra "CA"))
  k_with "z45" => repeat' (first | k_extra "d295" | k_extra "d294" | k_extra "d292" | (k_extra "d213"; (first | k_extra "mkplace" | k_extra "SCL")) | k_extra "STD")
  k_with "dstr" => ((with_reducible show wpAny _ _ (eval (Expr.Dict (_ :: _) _ _) _) _ _ _); k_dflt (refine' kdn_str ?q ?F ?N ?b ?a ?l ?e ?n ?_; (case q => rfl); (case F => k_extra "w"); (case N => k_extra "w"); (case b => exact Top.nolimit (by k_asm)); (case a => rfl); (case l => rfl); (case e => exact List.cons_ne_nil _ _); (case n => exact Nat.le_of_ble_eq_true rfl)); intro d' h' o' F' N' l1 lo' hd'; (try k_lt l1))
  k_with "mkround" => ((with_reducible show wpAny _ _ (call (Value.ref (nat_lit 532)) _ _) _ _ _); k_dflt (refine' make_ct ?m1 ?m2 ?m3 ?m4 ?m5 ?m6 ?m7 ?m8 ?_; (case m1 => exact rfl); (case m2 => k_extra "w"); (case m3 => k_extra "w"); (case m4 => k_extra "w"); k_extra "d15"; (case m6 => k_is); (case m7 => k_is); (case m8 => k_is); intro x8 d8 h8 fr8 gd8 F8 N8 nd8 l81 l82; k_extra "d262"; (try k_lt l81); (try k_lt2 l82); refine' roundI_ct (hd := ?qhd) (hu := ?qhu) (P := ?qP) (hr := ?_); k_extra "CP"; intro h9 tk9 rt9 P9; refine And.intro rfl ?_; (try dsimp only); k_extra "CA"))
  k_with "z46" => repeat' (first | k_extra "d295" | (k_extra "d229"; k_extra "d32"; (first | k_extra "dstr" | k_extra "SEV")) | k_extra "d292" | (k_extra "d213"; (first | k_extra "mkround" | k_extra "SCL")) | k_extra "STD")
  k_with "named" => ((with_reducible show wpAny _ _ (call (Value.ref (nat_lit 543)) _) _ _ _); k_dflt (refine' callR (named_ct (hd := ?qhd) (hu := ?qhu) (P := ?qP) (hr := ?_)); k_extra "CP"; intro h9 tk9 rd9 rdd9 rt9; k_extra "CW"))
  k_with "z47" => repeat' (first | k_extra "d295" | k_extra "d294" | k_extra "d292" | (k_extra "d213"; (first | k_extra "named" | k_extra "SCL")) | k_extra "STD")
  k_with "mkstate" => ((with_reducible show wpAny _ _ (call (Value.ref (nat_lit 1130)) _ _) _ _ _); k_dflt (refine' make_ct ?m1 ?m2 ?m3 ?m4 ?m5 ?m6 ?m7 ?m8 ?_; (case m1 => exact rfl); (case m2 => k_extra "w"); (case m3 => k_extra "w"); (case m4 => k_extra "w"); k_extra "d15"; (case m6 => k_is); (case m7 => k_is); (case m8 => k_is); intro x8 d8 h8 fr8 gd8 F8 N8 nd8 l81 l82; k_extra "d262"; (try k_lt l81); (try k_lt2 l82); refine' stateI_ct (hd := ?qhd) (hu := ?qhu) (P := ?qP) (hr := ?_); k_extra "CP"; intro h9 tk9 gt9 gk9 rt9 f9 p9 d9 rd9 rdd9 h0 h1 h2 h3 h4 h5 h6 d0 d1 p0 p1 f0 f1 P9; refine And.intro rfl ?_; (try dsimp only); k_extra "CA"))
  k_with "mkstack" => ((with_reducible show wpAny _ _ (call (Value.ref (nat_lit 1193)) _ _) _ _ _); k_dflt (refine' make_ct ?m1 ?m2 ?m3 ?m4 ?m5 ?m6 ?m7 ?m8 ?_; (case m1 => exact rfl); (case m2 => k_extra "w"); (case m3 => k_extra "w"); (case m4 => k_extra "w"); k_extra "d15"; (case m6 => k_is); (case m7 => k_is); (case m8 => k_is); intro x8 d8 h8 fr8 gd8 F8 N8 nd8 l81 l82; k_extra "d262"; (try k_lt l81); (try k_lt2 l82); refine' stackI_ct (hd := ?qhd) (hu := ?qhu) (P := ?qP) (hr := ?_); k_extra "CP"; intro h9 tk9 ts9 l9 P9; refine And.intro rfl ?_; (try dsimp only); k_extra "CA"))
  k_with "z48" => repeat' (first | k_extra "d295" | k_extra "d294" | k_extra "d292" | (k_extra "d213"; (first | k_extra "mkstate" | k_extra "mkstack" | k_extra "SCL")) | k_extra "STD")
  k_with "lcu" => ((with_reducible show wpAny _ _ (eval (Expr.ListComp _ [⟨_, _, [], _⟩] _ _) _) _ _ _); k_here; k_dflt (refine LCg.ListComp_U (F₀ := by k_asm) (by with_unfolding_all rfl) (by decide) (by rfl) (by decide) (by rfl) ?_))
  k_with "asgAC" => ((with_reducible show wpAny _ _ (exec (Stmt.Assign [Expr.Attribute _ _ _] (Expr.ListComp _ _ _ _) _) _) _ _ _); k_here; with_reducible refine plainObj_wpAny_Assign_Attribute ?_ ?_; rotate_left; with_unfolding_all rfl)
  k_with "lct" => ((with_reducible show wpAny _ _ (eval (Expr.ListComp _ [⟨_, _, [_], _⟩] _ _) _) _ _ _); k_here; k_dflt (refine LCt.ListComp_T (F₀ := by k_asm) (by with_unfolding_all rfl) (by decide) (by rfl) (by decide) (by rfl) ?_))
  k_with "count3" => (k_extra "d191"; k_dflt (refine' callR (count3_ct (hd := ?qhd) (hu := ?qhu) (P := ?qP) (hr := ?_) (gz := ?qgz) (zt := (tk0 _ _ _ _ _ 0 0 0 0 0 0 0 0 0 0 0 0 0))); (case qgz => exact Hint.of (by k_extra "w") (by k_extra "MEM")); k_extra "CP"; intro h9 tk9 t9; k_extra "CW"))
  k_with "z49" => repeat' (k_extra "d177"; k_extra "d167"; first | k_extra "d295" | k_extra "d284" | k_extra "d296" | k_extra "d304" | k_extra "STD")
  k_with "z50" => repeat' (k_extra "d177"; k_extra "d167"; first | k_extra "d295" | k_extra "d285" | k_extra "d296" | k_extra "d291" | k_extra "STD")
  k_with "lfb" => (k_extra "d179"; k_dflt (refine' lfb ?lF ?lN ?ll ?lz ?_; (case lF => k_extra "w"); (case lN => k_extra "w"); (case ll => k_extra "w"); (case lz => exact Nat.le_of_ble_eq_true rfl)); intro D' c' h' F' N' l1; (try k_lt l1); (try k_sweep))
  k_with "z51" => repeat' (k_extra "d177"; k_extra "d167"; first | k_extra "d295" | k_extra "d285" | k_extra "d296" | k_extra "d291" | k_extra "lfb" | k_extra "STD")
  k_with "z52" => repeat' (first | k_extra "d295" | k_extra "d294" | k_extra "d292" | k_extra "d291" | k_extra "STD")
  k_with "count0" => (k_extra "d191"; k_dflt (refine' callR (count0_ct (hd := ?qhd) (hu := ?qhu) (P := ?qP) (hr := ?_) (gz := ?qgz) (zt := (tk0 _ _ _ _ _ 0 0 0 0 0 0 0 0 0 0 0 0 0))); (case qgz => exact Hint.of (by k_extra "w") (by k_extra "MEM")); k_extra "CP"; intro h9 tk9 t9; k_extra "CW"))
  k_with "z53" => repeat' (k_extra "d177"; k_extra "d167"; first | k_extra "d295" | k_extra "d285" | k_extra "d296" | (k_extra "d213"; (first | k_extra "count0" | k_extra "SCL")) | k_extra "STD")
  k_with "EVT43" => first | k_extra "d297" | k_extra "d317" | (k_extra "d216"; k_extra "d26") | (k_extra "d217"; k_extra "d20") | (k_extra "d220"; (first | k_extra "d203" | k_extra "d202" | k_extra "d125" | k_extra "d76" | k_extra "d109" | (refine' Ev.pow (i := 2) (j := 32) (r := 4294967296) ?y1a4e ?y2a4e ?y3a4e ?y4a4e; (case y1a4e => fail); (case y2a4e => fail); (case y3a4e => decide); (case y4a4e => decide)) | (refine' Ev.pow (i := 2) (j := 31) (r := 2147483648) ?y1b4e ?y2b4e ?y3b4e ?y4b4e; (case y1b4e => fail); (case y2b4e => fail); (case y3b4e => decide); (case y4b4e => decide)) | (refine' Ev.pow (i := 10) (j := 18) (r := 1000000000000000000) ?y1c4e ?y2c4e ?y3c4e ?y4c4e; (case y1c4e => fail); (case y2c4e => fail); (case y3c4e => decide); (case y4c4e => decide))))
  k_with "EVT33" => first | k_extra "d298" | k_extra "d317" | (k_extra "d216"; (first | (refine' Ev.own ?oo3e ?oF3e ?oX3e ?oI3e ?oO3e ?ol3e ?ov3e ?oe3e; (case oo3e => k_extra "EVT43"); (case oF3e => k_extra "w"); (case oX3e => k_extra "w"); k_extra "d53"; (case oO3e => k_extra "OWN"); (case ol3e => k_get); (case ov3e => k_handed); (case oe3e => with_unfolding_all rfl)))) | (k_extra "d217"; (first | (refine' Ev.sub ?s13e ?s23e ?st3e ?sa3e ?sb3e ?sc3e ?sd3e; (case s13e => k_extra "EVT43"); (case s23e => k_extra "EVT43"); k_extra "d121"; k_extra "d249"; (case sb3e => first | decide | (k_extra "o")); (case sc3e => exact rfl); k_extra "d235") | (refine' Ev.subL ?t13e ?t23e ?tt3e ?ta3e ?tb3e ?tc3e ?td3e; (case t13e => k_extra "EVT43"); (case t23e => k_extra "EVT43"); k_extra "d115"; k_extra "d250"; (case tb3e => first | decide | (k_extra "o")); k_extra "d135"; k_extra "d236"))) | (k_extra "d220"; (first | (refine' Ev.add ?p13e ?p23e; (case p13e => k_extra "EVT43"); (case p23e => k_extra "EVT43")) | (refine' Ev.subi ?q13e ?q23e; (case q13e => k_extra "EVT43"); (case q23e => k_extra "EVT43")) | (refine' Ev.mul ?u13e ?u23e ?u33e; (case u13e => k_extra "EVT43"); (case u23e => k_extra "EVT43"); k_extra "d243") | (refine' Ev.fdiv ?v13e ?v23e ?v33e ?v43e; (case v13e => k_extra "EVT43"); (case v23e => k_extra "EVT43"); (case v33e => first | k_extra "w" | decide | (k_extra "o")); (case v43e => first | decide | (k_extra "o"))) | (refine' Ev.fmod ?w13e ?w23e ?w33e; (case w13e => k_extra "EVT43"); (case w23e => k_extra "EVT43"); (case w33e => first | k_extra "w" | decide | (k_extra "o"))) | (refine' Ev.pow (i := 2) (j := 32) (r := 4294967296) ?y1a3e ?y2a3e ?y3a3e ?y4a3e; (case y1a3e => k_extra "EVT43"); (case y2a3e => k_extra "EVT43"); (case y3a3e => decide); (case y4a3e => decide)) | (refine' Ev.pow (i := 2) (j := 31) (r := 2147483648) ?y1b3e ?y2b3e ?y3b3e ?y4b3e; (case y1b3e => k_extra "EVT43"); (case y2b3e => k_extra "EVT43"); (case y3b3e => decide); (case y4b3e => decide)) | (refine' Ev.pow (i := 10) (j := 18) (r := 1000000000000000000) ?y1c3e ?y2c3e ?y3c3e ?y4c3e; (case y1c3e => k_extra "EVT43"); (case y2c3e => k_extra "EVT43"); (case y3c3e => decide); (case y4c3e => decide))))
  k_with "EVT23" => first | k_extra "d299" | k_extra "d317" | (k_extra "d216"; (first | (refine' Ev.own ?oo2e ?oF2e ?oX2e ?oI2e ?oO2e ?ol2e ?ov2e ?oe2e; (case oo2e => k_extra "EVT33"); (case oF2e => k_extra "w"); (case oX2e => k_extra "w"); k_extra "d54"; (case oO2e => k_extra "OWN"); (case ol2e => k_get); (case ov2e => k_handed); (case oe2e => with_unfolding_all rfl)))) | (k_extra "d217"; (first | (refine' Ev.sub ?s12e ?s22e ?st2e ?sa2e ?sb2e ?sc2e ?sd2e; (case s12e => k_extra "EVT33"); (case s22e => k_extra "EVT33"); k_extra "d122"; k_extra "d251"; (case sb2e => first | decide | (k_extra "o")); (case sc2e => exact rfl); k_extra "d237") | (refine' Ev.subL ?t12e ?t22e ?tt2e ?ta2e ?tb2e ?tc2e ?td2e; (case t12e => k_extra "EVT33"); (case t22e => k_extra "EVT33"); k_extra "d116"; k_extra "d252"; (case tb2e => first | decide | (k_extra "o")); k_extra "d136"; k_extra "d238"))) | (k_extra "d220"; (first | (refine' Ev.add ?p12e ?p22e; (case p12e => k_extra "EVT33"); (case p22e => k_extra "EVT33")) | (refine' Ev.subi ?q12e ?q22e; (case q12e => k_extra "EVT33"); (case q22e => k_extra "EVT33")) | (refine' Ev.mul ?u12e ?u22e ?u32e; (case u12e => k_extra "EVT33"); (case u22e => k_extra "EVT33"); k_extra "d244") | (refine' Ev.fdiv ?v12e ?v22e ?v32e ?v42e; (case v12e => k_extra "EVT33"); (case v22e => k_extra "EVT33"); (case v32e => first | k_extra "w" | decide | (k_extra "o")); (case v42e => first | decide | (k_extra "o"))) | (refine' Ev.fmod ?w12e ?w22e ?w32e; (case w12e => k_extra "EVT33"); (case w22e => k_extra "EVT33"); (case w32e => first | k_extra "w" | decide | (k_extra "o"))) | (refine' Ev.pow (i := 2) (j := 32) (r := 4294967296) ?y1a2e ?y2a2e ?y3a2e ?y4a2e; (case y1a2e => k_extra "EVT33"); (case y2a2e => k_extra "EVT33"); (case y3a2e => decide); (case y4a2e => decide)) | (refine' Ev.pow (i := 2) (j := 31) (r := 2147483648) ?y1b2e ?y2b2e ?y3b2e ?y4b2e; (case y1b2e => k_extra "EVT33"); (case y2b2e => k_extra "EVT33"); (case y3b2e => decide); (case y4b2e => decide)) | (refine' Ev.pow (i := 10) (j := 18) (r := 1000000000000000000) ?y1c2e ?y2c2e ?y3c2e ?y4c2e; (case y1c2e => k_extra "EVT33"); (case y2c2e => k_extra "EVT33"); (case y3c2e => decide); (case y4c2e => decide))))
  k_with "EVT13" => first | k_extra "d300" | k_extra "d317" | (k_extra "d216"; (first | (refine' Ev.own ?oo1e ?oF1e ?oX1e ?oI1e ?oO1e ?ol1e ?ov1e ?oe1e; (case oo1e => k_extra "EVT23"); (case oF1e => k_extra "w"); (case oX1e => k_extra "w"); k_extra "d55"; (case oO1e => k_extra "OWN"); (case ol1e => k_get); (case ov1e => k_handed); (case oe1e => with_unfolding_all rfl)))) | (k_extra "d217"; (first | (refine' Ev.sub ?s11e ?s21e ?st1e ?sa1e ?sb1e ?sc1e ?sd1e; (case s11e => k_extra "EVT23"); (case s21e => k_extra "EVT23"); k_extra "d123"; k_extra "d253"; (case sb1e => first | decide | (k_extra "o")); (case sc1e => exact rfl); k_extra "d239") | (refine' Ev.subL ?t11e ?t21e ?tt1e ?ta1e ?tb1e ?tc1e ?td1e; (case t11e => k_extra "EVT23"); (case t21e => k_extra "EVT23"); k_extra "d117"; k_extra "d254"; (case tb1e => first | decide | (k_extra "o")); k_extra "d137"; k_extra "d240"))) | (k_extra "d220"; (first | (refine' Ev.add ?p11e ?p21e; (case p11e => k_extra "EVT23"); (case p21e => k_extra "EVT23")) | (refine' Ev.subi ?q11e ?q21e; (case q11e => k_extra "EVT23"); (case q21e => k_extra "EVT23")) | (refine' Ev.mul ?u11e ?u21e ?u31e; (case u11e => k_extra "EVT23"); (case u21e => k_extra "EVT23"); k_extra "d245") | (refine' Ev.fdiv ?v11e ?v21e ?v31e ?v41e; (case v11e => k_extra "EVT23"); (case v21e => k_extra "EVT23"); (case v31e => first | k_extra "w" | decide | (k_extra "o")); (case v41e => first | decide | (k_extra "o"))) | (refine' Ev.fmod ?w11e ?w21e ?w31e; (case w11e => k_extra "EVT23"); (case w21e => k_extra "EVT23"); (case w31e => first | k_extra "w" | decide | (k_extra "o"))) | (refine' Ev.pow (i := 2) (j := 32) (r := 4294967296) ?y1a1e ?y2a1e ?y3a1e ?y4a1e; (case y1a1e => k_extra "EVT23"); (case y2a1e => k_extra "EVT23"); (case y3a1e => decide); (case y4a1e => decide)) | (refine' Ev.pow (i := 2) (j := 31) (r := 2147483648) ?y1b1e ?y2b1e ?y3b1e ?y4b1e; (case y1b1e => k_extra "EVT23"); (case y2b1e => k_extra "EVT23"); (case y3b1e => decide); (case y4b1e => decide)) | (refine' Ev.pow (i := 10) (j := 18) (r := 1000000000000000000) ?y1c1e ?y2c1e ?y3c1e ?y4c1e; (case y1c1e => k_extra "EVT23"); (case y2c1e => k_extra "EVT23"); (case y3c1e => decide); (case y4c1e => decide))))
  k_with "EVT03" => first | k_extra "d301" | k_extra "d317" | (k_extra "d216"; (first | (refine' Ev.own ?oo0e ?oF0e ?oX0e ?oI0e ?oO0e ?ol0e ?ov0e ?oe0e; (case oo0e => k_extra "EVT13"); (case oF0e => k_extra "w"); (case oX0e => k_extra "w"); k_extra "d56"; (case oO0e => k_extra "OWN"); (case ol0e => k_get); (case ov0e => k_handed); (case oe0e => with_unfolding_all rfl)))) | (k_extra "d217"; (first | (refine' Ev.sub ?s10e ?s20e ?st0e ?sa0e ?sb0e ?sc0e ?sd0e; (case s10e => k_extra "EVT13"); (case s20e => k_extra "EVT13"); k_extra "d124"; k_extra "d255"; (case sb0e => first | decide | (k_extra "o")); (case sc0e => exact rfl); k_extra "d241") | (refine' Ev.subL ?t10e ?t20e ?tt0e ?ta0e ?tb0e ?tc0e ?td0e; (case t10e => k_extra "EVT13"); (case t20e => k_extra "EVT13"); k_extra "d118"; k_extra "d256"; (case tb0e => first | decide | (k_extra "o")); k_extra "d138"; k_extra "d242"))) | (k_extra "d220"; (first | (refine' Ev.add ?p10e ?p20e; (case p10e => k_extra "EVT13"); (case p20e => k_extra "EVT13")) | (refine' Ev.subi ?q10e ?q20e; (case q10e => k_extra "EVT13"); (case q20e => k_extra "EVT13")) | (refine' Ev.mul ?u10e ?u20e ?u30e; (case u10e => k_extra "EVT13"); (case u20e => k_extra "EVT13"); k_extra "d246") | (refine' Ev.fdiv ?v10e ?v20e ?v30e ?v40e; (case v10e => k_extra "EVT13"); (case v20e => k_extra "EVT13"); (case v30e => first | k_extra "w" | decide | (k_extra "o")); (case v40e => first | decide | (k_extra "o"))) | (refine' Ev.fmod ?w10e ?w20e ?w30e; (case w10e => k_extra "EVT13"); (case w20e => k_extra "EVT13"); (case w30e => first | k_extra "w" | decide | (k_extra "o"))) | (refine' Ev.pow (i := 2) (j := 32) (r := 4294967296) ?y1a0e ?y2a0e ?y3a0e ?y4a0e; (case y1a0e => k_extra "EVT13"); (case y2a0e => k_extra "EVT13"); (case y3a0e => decide); (case y4a0e => decide)) | (refine' Ev.pow (i := 2) (j := 31) (r := 2147483648) ?y1b0e ?y2b0e ?y3b0e ?y4b0e; (case y1b0e => k_extra "EVT13"); (case y2b0e => k_extra "EVT13"); (case y3b0e => decide); (case y4b0e => decide)) | (refine' Ev.pow (i := 10) (j := 18) (r := 1000000000000000000) ?y1c0e ?y2c0e ?y3c0e ?y4c0e; (case y1c0e => k_extra "EVT13"); (case y2c0e => k_extra "EVT13"); (case y3c0e => decide); (case y4c0e => decide))))
  k_with "EVS53" => first | exact Evs.nil | (refine' Evs.cons ?va5 ?vb5 ?vc5; (case va5 => k_extra "EVT03"); (case vb5 => k_extra "EVS6"); (case vc5 => rfl))
  k_with "EVS43" => first | exact Evs.nil | (refine' Evs.cons ?va4 ?vb4 ?vc4; (case va4 => k_extra "EVT03"); (case vb4 => k_extra "EVS53"); (case vc4 => rfl))
  k_with "EVS33" => first | exact Evs.nil | (refine' Evs.cons ?va3 ?vb3 ?vc3; (case va3 => k_extra "EVT03"); (case vb3 => k_extra "EVS43"); (case vc3 => rfl))
  k_with "EVS23" => first | exact Evs.nil | (refine' Evs.cons ?va2 ?vb2 ?vc2; (case va2 => k_extra "EVT03"); (case vb2 => k_extra "EVS33"); (case vc2 => rfl))
  k_with "EVS13" => first | exact Evs.nil | (refine' Evs.cons ?va1 ?vb1 ?vc1; (case va1 => k_extra "EVT03"); (case vb1 => k_extra "EVS23"); (case vc1 => rfl))
  k_with "EVS03" => first | exact Evs.nil | (refine' Evs.cons ?va0 ?vb0 ?vc0; (case va0 => k_extra "EVT03"); (case vb0 => k_extra "EVS13"); (case vc0 => rfl))
  k_with "SEV3" => first | (k_extra "d207"; (first | (k_extra "d156"; k_dflt (refine' call_nm ?cF ?cX ?cT ?cv ?cc ?ck ?ca ?c1 ?cp ?ce ?_; (case cF => k_extra "w"); (case cX => k_extra "w"); (case cT => k_extra "w"); (case cc => kernel_rfl); (case cv => k_is); (case ck => k_is); (case ca => k_extra "EVS03"); (case c1 => rfl); (case cp => kernel_rfl); (case ce => rfl); k_whole)) | (k_extra "d162"; k_dflt k_extra "d69") | (k_extra "d151"; k_dflt (refine' call_mt ?m0 ?mF ?mX ?mI ?mO ?ml ?ma ?m1 ?mp ?me ?_; (case m0 => k_extra "EVT03"); (case mF => k_extra "w"); (case mX => k_extra "w"); k_extra "d59"; (case mO => k_extra "METH"); (case ml => k_get); (case ma => k_extra "EVS03"); (case m1 => rfl); (case mp => kernel_rfl); (case me => rfl); k_whole)) | (k_extra "d154"; k_dflt (refine' call_mt0 ?m0 ?mF ?mX ?mI ?mO ?ml ?me ?_; (case m0 => k_extra "EVT03"); (case mF => k_extra "w"); (case mX => k_extra "w"); k_extra "d59"; (case mO => k_extra "METH"); (case ml => k_get); (case me => rfl); k_whole)) | (k_end; wrow_close) | walk1 | (dsimp only; walk1) | (leave1; try dsimp only) | k_extra "d318" | fail "no step")) | (k_dflt (refine' Ev.use ?eu ?_; (case eu => k_extra "EVT03"); k_whole)) | (k_end; wrow_close) | walk1 | (dsimp only; walk1) | (leave1; try dsimp only) | k_extra "d318" | fail "no step"
  k_with "SEX3" => first | (k_extra "d172"; k_dflt (refine' asg_nm ?aF ?aN ?ae ?ac ?as ?_; (case ac => kernel_rfl); (case aF => k_extra "w"); (case aN => k_extra "w"); (case ae => k_extra "EVT03"); (case as => rfl); k_whole; intro qm tqq h' F' N'; (try k_sweep))) | k_extra "d310" | k_extra "d275" | k_extra "d276" | k_extra "d272" | k_extra "d305" | k_extra "d306" | k_extra "d307" | k_extra "d286" | (k_end; wrow_close) | walk1 | (dsimp only; walk1) | (leave1; try dsimp only) | k_extra "d318" | fail "no step"
  k_with "STD3" => first | (k_extra "d181"; k_dflt (first | (k_extra "d163"; refine' tst_lt ?talt ?tblt ?tclt ?_; (case talt => k_extra "EVT03"); (case tblt => k_extra "EVT03"); (case tclt => rfl); k_whole) | (k_extra "d160"; refine' tst_le ?tale ?tble ?tcle ?_; (case tale => k_extra "EVT03"); (case tble => k_extra "EVT03"); (case tcle => rfl); k_whole) | (k_extra "d164"; refine' tst_gt ?tagt ?tbgt ?tcgt ?_; (case tagt => k_extra "EVT03"); (case tbgt => k_extra "EVT03"); (case tcgt => rfl); k_whole) | (k_extra "d161"; refine' tst_ge ?tage ?tbge ?tcge ?_; (case tage => k_extra "EVT03"); (case tbge => k_extra "EVT03"); (case tcge => rfl); k_whole) | (k_extra "d165"; refine' tst_eq ?taeq ?tbeq ?tceq ?_; (case taeq => k_extra "EVT03"); (case tbeq => k_extra "EVT03"); (case tceq => rfl); k_whole) | (k_extra "d159"; refine' tst_ne ?tane ?tbne ?tcne ?_; (case tane => k_extra "EVT03"); (case tbne => k_extra "EVT03"); (case tcne => rfl); k_whole))) | k_extra "d302" | k_extra "d290" | (k_extra "d224"; k_dflt k_extra "d82") | k_extra "d310" | k_extra "d275" | k_extra "d276" | k_extra "d272" | k_extra "d305" | k_extra "d306" | k_extra "d307" | (k_extra "d157"; k_dflt k_extra "d19") | k_extra "d287" | k_extra "d286" | (k_end; wrow_close) | walk1 | (dsimp only; walk1) | (leave1; try dsimp only) | k_extra "d318" | fail "no step"
  k_with "z54" => repeat' (first | k_extra "d295" | k_extra "d293" | (k_extra "d230"; k_extra "d185"; (first | k_extra "SEX3")) | k_extra "d304" | k_extra "STD3")
  k_with "ltake" => ((with_reducible show wpAny _ _ (call (Value.ref (nat_lit 1318)) _) _ _ _); k_dflt (refine' callR (ltake_ct (hd := ?qhd) (hu := ?qhu) (P := ?qP) (hr := ?_) (a0 := ?qa0) (b0 := ?qb0) (b1 := ?qb1) (q0 := ?qq0) (q1 := ?qq1)); k_extra "CP"; (case qa0 => assumption); (case qb0 => assumption); (case qb1 => assumption); (case qq0 => first | assumption | (k_extra "o")); (case qq1 => first | assumption | (k_extra "o")); intro h9 tk9 a9 b9 ta9 tb9 ns9 r9 t9 a09 b09 b19 r09 r19; k_extra "CW"))
  k_with "lenV" => (k_extra "d173"; k_dflt (refine' kun_lenL (k := (vs.length : Int)) ?g1 ?g2 ?g3 ?_; (case g1 => exact Fr.lst' (by k_extra "w") (by k_extra "w")); (case g2 => exact congrArg Int.ofNat List.size_toArray); (case g3 => (k_extra "o")); k_whole))
  k_with "itemV" => (k_extra "d157"; (obtain ⟨v9, hv9⟩ := getIx r09 r19); k_dflt (refine' item_L ?jl ?ja ?jb hv9 ?_; k_extra "d214"; (case ja => exact r09); (case jb => (k_extra "o")); k_whole))
  k_with "z55" => repeat' (first | k_extra "d295" | k_extra "d293" | (k_extra "d230"; k_extra "d185"; (first | k_extra "SEX3")) | (k_extra "d213"; (first | k_extra "ltake" | k_extra "SCL")) | k_extra "lenV" | k_extra "itemV" | k_extra "STD3")
  k_with "zA" => (k_extra "d182"; k_dflt (refine' mkZA ?b1A ?b2A ?b3A ?b4A ?b5A ?b6A ?b7A ?b8A ?b9A ?bkA; (case b1A => exact rfl); (case b2A => k_extra "d94"); (case b3A => k_extra "d94"); (case b4A => k_extra "w"); (case b5A => k_extra "w"); (case b6A => k_extra "w"); (case b7A => k_extra "w"); (case b8A => k_extra "d309"); (case b9A => (intro H9 g9 n9; exact Facts.obj (n9 _ _ (by k_extra "d308")) (Facts.tup (tup_of (n9 _ _ (by k_extra "d308"))) (Facts.tup (tup_of (n9 _ _ (by k_extra "d308"))) (Facts.tup (tup_of (n9 _ _ (by k_extra "d308"))) Facts.nil))))); (case' bkA => intro h9 tk9 z9 K9 hZ9 F9 N9 nd9)))
  k_with "zB" => (k_extra "d174"; k_dflt (refine' mkZB ?b1B ?b2B ?b3B ?b4B ?b5B ?b6B ?b7B ?b8B ?b9B ?bkB; (case b1B => exact rfl); k_extra "d85"; k_extra "d86"; (case b4B => k_extra "w"); (case b5B => k_extra "w"); (case b6B => k_extra "w"); (case b7B => k_extra "w"); (case b8B => k_extra "d309"); k_extra "d21"; (case' bkB => intro h9 tk9 zB9 KB9 hB9 F9 N9 nd9)))
  k_with "mkW" => (k_extra "d184"; k_dflt (refine' mkW ?b1W ?b2W ?b3W ?b4W ?b5W ?b6W ?b7W ?b8W ?bkW; (case b1W => exact rfl); k_extra "d87"; k_extra "d88"; (case b4W => k_extra "w"); (case b5W => k_extra "w"); (case b6W => k_extra "w"); (case b7W => k_extra "w"); k_extra "d95"; (case' bkW => intro h9 tk9 W9 KW9 hW9 F9 N9 nd9)))
  k_with "z56" => repeat' (first | k_extra "d295" | k_extra "d294" | k_extra "d292" | (k_extra "d213"; (first | k_extra "zA" | k_extra "zB" | k_extra "mkW" | k_extra "SCL")) | k_extra "STD")
  k_with "disp" => (k_extra "d150"; k_dflt (refine' asg_disp (xs := [(15, .ref 473), (39, .ref 480), (41, .ref 487), (70, .ref 445), (71, .ref 445), (72, .ref 452)]) ?da ?db ?dc ?dd ?de ?df ?dg ?dh ?di ?dj ?dk ?_; (case da => kernel_rfl); k_extra "d175"; k_extra "d263"; (case dd => decide +kernel); (case dj => kernel_rfl); (case dk => rfl); (case de => k_extra "w"); (case df => k_extra "w"); (case dg => k_extra "w"); k_extra "d233"; (case di => k_extra "w")); intro D9 h9 o9 tk9 F9 N9 lo9 hd9; (try dsimp only))
  k_with "z57" => repeat' (first | k_extra "d295" | k_extra "d294" | (k_extra "d230"; k_extra "d185"; (first | k_extra "disp" | k_extra "SEX")) | k_extra "d304" | k_extra "STD")
  k_with "forx" => ((with_reducible show wpAny _ _ (exec (Stmt.For (Expr.Name _ _) _ _ [] _) _) _ _ _); k_here; k_dflt ((with_reducible refine' For_invV g0 ?fa ?fb ?_ ?fs ?fE); (case fa => exact rfl); (case fb => exact rfl); (case fs => exact (fun _ => rfl)); (case fE => passes_own)))
  k_with "disp2" => (k_extra "d150"; k_dflt (refine' asg_disp (xs := [(10, .ref 1008), (11, .ref 1008), (12, .ref 1015), (13, .ref 1015), (14, .ref 1022), (23, .ref 1043), (77, .ref 1057), (78, .ref 1057), (118, .ref 1071), (119, .ref 1071), (134, .ref 1001), (135, .ref 1001)]) ?da ?db ?dc ?dd ?de ?df ?dg ?dh ?di ?dj ?dk ?_; (case da => kernel_rfl); k_extra "d175"; k_extra "d263"; (case dd => decide +kernel); (case dj => kernel_rfl); (case dk => rfl); (case de => k_extra "w"); (case df => k_extra "w"); (case dg => k_extra "w"); k_extra "d233"; (case di => k_extra "w")); intro D9 h9 o9 tk9 F9 N9 lo9 hd9; (try dsimp only))
  k_with "kset" => (k_extra "d176"; k_dflt (refine' kda_set (knd := PySem.intKind _ _) ?kF ?kN ?kU ?kd (intKind_is _ _ _ _) ?kz ?_; (case kF => k_extra "w"); (case kN => k_extra "w"); (case kU => refine UpdF.head ?_; assumption); (case kd => assumption); (case kz => (rw [sizeLine_eq]; first | (k_extra "o") | exact Nat.le_trans (stored_length_le _ _ _) (by (k_extra "o"))))); intro h' o' F' N' hd'; (try dsimp only at N'))
  k_with "z58" => repeat' (k_extra "d208"; first | k_extra "d295" | k_extra "d294" | (k_extra "d230"; k_extra "d185"; (first | k_extra "forx" | k_extra "disp2" | k_extra "SEX")) | k_extra "d304" | k_extra "STD")
  k_with "z59" => repeat' (first | k_extra "d295" | k_extra "d294" | k_extra "d292" | k_extra "d304" | k_extra "kset" | k_extra "STD")
  k_with "z60" => repeat' (first | k_extra "d295" | k_extra "d294" | (k_extra "d230"; k_extra "d185"; (first | k_extra "disp2" | k_extra "SEX")) | k_extra "d304" | k_extra "STD")
  k_with "disp3" => (k_extra "d150"; k_dflt (refine' asg_disp (xs := [(46, .ref 592), (47, .ref 592), (62, .ref 599), (63, .ref 599), (58, .ref 634), (59, .ref 634)]) ?da ?db ?dc ?dd ?de ?df ?dg ?dh ?di ?dj ?dk ?_; (case da => kernel_rfl); k_extra "d175"; k_extra "d263"; (case dd => decide +kernel); (case dj => kernel_rfl); (case dk => rfl); (case de => k_extra "w"); (case df => k_extra "w"); (case dg => k_extra "w"); k_extra "d233"; (case di => k_extra "w")); intro D9 h9 o9 tk9 F9 N9 lo9 hd9; (try dsimp only))
  k_with "z61" => repeat' (k_extra "d208"; first | k_extra "d295" | k_extra "d294" | (k_extra "d230"; k_extra "d185"; (first | k_extra "forx" | k_extra "disp3" | k_extra "SEX")) | k_extra "d304" | k_extra "STD")
  k_with "z62" => repeat' (first | k_extra "d295" | k_extra "d294" | (k_extra "d230"; k_extra "d185"; (first | k_extra "disp3" | k_extra "SEX")) | k_extra "d304" | k_extra "STD")
  k_with "disp4" => (k_extra "d150"; k_dflt (refine' asg_disp (xs := [(32, .ref 662), (33, .ref 669), (34, .ref 676), (35, .ref 683), (36, .ref 690), (37, .ref 697), (38, .ref 702), (138, .ref 709), (142, .ref 716), (79, .ref 669), (126, .ref 669), (127, .ref 669), (133, .ref 669), (141, .ref 669), (92, .ref 737), (86, .ref 744), (87, .ref 744), (66, .ref 786), (67, .ref 793), (68, .ref 800), (69, .ref 814), (112, .ref 807), (75, .ref 835), (76, .ref 835), (136, .ref 842)]) ?da ?db ?dc ?dd ?de ?df ?dg ?dh ?di ?dj ?dk ?_; (case da => kernel_rfl); k_extra "d175"; k_extra "d263"; (case dd => decide +kernel); (case dj => kernel_rfl); (case dk => rfl); (case de => k_extra "w"); (case df => k_extra "w"); (case dg => k_extra "w"); k_extra "d233"; (case di => k_extra "w")); intro D9 h9 o9 tk9 F9 N9 lo9 hd9; (try dsimp only))
  k_with "z63" => repeat' (k_extra "d208"; first | k_extra "d295" | k_extra "d294" | (k_extra "d230"; k_extra "d185"; (first | k_extra "forx" | k_extra "disp4" | k_extra "SEX")) | k_extra "d304" | k_extra "STD")
  k_with "z64" => repeat' (first | k_extra "d295" | k_extra "d294" | (k_extra "d230"; k_extra "d185"; (first | k_extra "disp4" | k_extra "SEX")) | k_extra "d304" | k_extra "STD")
  k_with "disp5" => (k_extra "d150"; k_dflt (refine' asg_disp (xs := [(48, .ref 945), (49, .ref 945), (50, .ref 863), (51, .ref 863), (52, .ref 884), (53, .ref 884), (56, .ref 898)]) ?da ?db ?dc ?dd ?de ?df ?dg ?dh ?di ?dj ?dk ?_; (case da => kernel_rfl); k_extra "d175"; k_extra "d263"; (case dd => decide +kernel); (case dj => kernel_rfl); (case dk => rfl); (case de => k_extra "w"); (case df => k_extra "w"); (case dg => k_extra "w"); k_extra "d233"; (case di => k_extra "w")); intro D9 h9 o9 tk9 F9 N9 lo9 hd9; (try dsimp only))
  k_with "z65" => repeat' (k_extra "d208"; first | k_extra "d295" | k_extra "d294" | (k_extra "d230"; k_extra "d185"; (first | k_extra "forx" | k_extra "disp5" | k_extra "SEX")) | k_extra "d304" | k_extra "STD")
  k_with "z66" => repeat' (first | k_extra "d295" | k_extra "d294" | (k_extra "d230"; k_extra "d185"; (first | k_extra "disp5" | k_extra "SEX")) | k_extra "d304" | k_extra "STD")
  k_with "markops" => ((with_reducible show wpAny _ _ (call (Value.ref (nat_lit 508)) _) _ _ _); k_dflt (refine' callR (markops_ct (hd := ?qhd) (hu := ?qhu) (P := ?qP) (hr := ?_)); k_extra "CP"; intro h9 tk9 d9 o9 hd9 hlo9; k_extra "CW"))
  k_with "relationops" => ((with_reducible show wpAny _ _ (call (Value.ref (nat_lit 655)) _) _ _ _); k_dflt (refine' callR (relationops_ct (hd := ?qhd) (hu := ?qhu) (P := ?qP) (hr := ?_)); k_extra "CP"; intro h9 tk9 d9 o9 hd9 hlo9; k_extra "CW"))
  k_with "shiftops" => ((with_reducible show wpAny _ _ (call (Value.ref (nat_lit 952)) _) _ _ _); k_dflt (refine' callR (shiftops_ct (hd := ?qhd) (hu := ?qhu) (P := ?qP) (hr := ?_)); k_extra "CP"; intro h9 tk9 d9 o9 hd9 hlo9; k_extra "CW"))
  k_with "gmu" => ((with_reducible show wpAny _ _ (getMethod (Value.ref _) (Str.ofString "update") _) _ _ _); k_dflt (refine' kob_method (knd := PySem.intKind _ _) PySem.F.slot_dict_update PySem.F.type_dict_update ?gN ?gm ?gd ?_; (case gN => k_extra "w"); (case gm => k_extra "MEM"); (case gd => k_extra "w")))
  k_with "updA" => (k_extra "d183"; k_dflt (refine' upd2 (kvs := kvMark) (kvs2 := kvRel) ?uF ?uN ?u1 ?u2 ?u3 ?u4 ?u5 ?u6 ?u7 ?_; (case uF => k_asm); (case uN => k_extra "w"); (case u1 => k_extra "w"); (case u2 => k_extra "w"); (case u3 => k_extra "MEM"); (case u4 => k_extra "MEM"); k_extra "d103"; (case u6 => k_extra "w"); k_extra "d223"); intro h' o' F' N' hd')
  k_with "updB" => (k_extra "d183"; k_dflt (refine' upd2 (kvs := (merged kvMark kvRel)) (kvs2 := kvShi) ?uF ?uN ?u1 ?u2 ?u3 ?u4 ?u5 ?u6 ?u7 ?_; (case uF => k_asm); (case uN => k_extra "w"); (case u1 => k_extra "w"); (case u2 => k_extra "w"); (case u3 => k_extra "MEM"); (case u4 => k_extra "MEM"); k_extra "d103"; (case u6 => k_extra "w"); k_extra "d223"); intro h' o' F' N' hd')
  k_with "stackops" => ((with_reducible show wpAny _ _ (call (Value.ref (nat_lit 849)) _) _ _ _); k_dflt (refine' callR (stackops_ct (hd := ?qhd) (hu := ?qhu) (P := ?qP) (hr := ?_)); k_extra "CP"; intro h9 tk9 d9 o9 hd9 hlo9; k_extra "CW"))
  k_with "vectorops" => ((with_reducible show wpAny _ _ (call (Value.ref (nat_lit 1078)) _) _ _ _); k_dflt (refine' callR (vectorops_ct (hd := ?qhd) (hu := ?qhu) (P := ?qP) (hr := ?_)); k_extra "CP"; intro h9 tk9 d9 o9 hd9 hlo9; k_extra "CW"))
  k_with "pointops" => ((with_reducible show wpAny _ _ (call (Value.ref (nat_lit 959)) _) _ _ _); k_dflt (refine' callR (pointops_ct (hd := ?qhd) (hu := ?qhu) (P := ?qP) (hr := ?_)); k_extra "CP"; intro h9 tk9 d9 o9 hd9 hlo9; k_extra "CW"))
  k_with "dof" => ((with_reducible show wpAny _ _ (call (Value.type "dict") [Value.ref _]) _ _ _); k_dflt (refine' dictof_K (kvs := kvStk) ?dF ?dN ?db ?de ?dd ?dl ?dz ?_; (case dF => k_asm); (case dN => k_extra "w"); (case db => exact Top.nolimit (by k_asm)); (case dd => k_extra "w"); (case de => k_extra "MEM"); (case dl => k_extra "w"); (case dz => exact Nat.le_of_ble_eq_true (by kernel_rfl))); intro D' h' o' F' N' l1 lo' hd'; (try k_lt l1))
  k_with "updC" => (k_extra "d183"; k_dflt (refine' upd2 (kvs := kvStk) (kvs2 := kvVec) ?uF ?uN ?u1 ?u2 ?u3 ?u4 ?u5 ?u6 ?u7 ?_; (case uF => k_asm); (case uN => k_extra "w"); (case u1 => k_extra "w"); (case u2 => k_extra "w"); (case u3 => k_extra "MEM"); (case u4 => k_extra "MEM"); k_extra "d103"; (case u6 => k_extra "w"); k_extra "d223"); intro h' o' F' N' hd')
  k_with "updD" => (k_extra "d183"; k_dflt (refine' upd2 (kvs := (merged kvStk kvVec)) (kvs2 := kvPoi) ?uF ?uN ?u1 ?u2 ?u3 ?u4 ?u5 ?u6 ?u7 ?_; (case uF => k_asm); (case uN => k_extra "w"); (case u1 => k_extra "w"); (case u2 => k_extra "w"); (case u3 => k_extra "MEM"); (case u4 => k_extra "MEM"); k_extra "d103"; (case u6 => k_extra "w"); k_extra "d223"); intro h' o' F' N' hd')
  k_with "z67" => repeat' (first | k_extra "d295" | k_extra "d294" | k_extra "d292" | (k_extra "d213"; (first | k_extra "markops" | k_extra "relationops" | k_extra "shiftops" | k_extra "SCL")) | k_extra "gmu" | k_extra "updA" | k_extra "updB" | k_extra "STD")
  k_with "z68" => repeat' (first | k_extra "d295" | k_extra "d294" | k_extra "d292" | (k_extra "d213"; (first | k_extra "stackops" | k_extra "vectorops" | k_extra "pointops" | k_extra "SCL")) | k_extra "dof" | k_extra "gmu" | k_extra "updC" | k_extra "updD" | k_extra "STD")
  k_with "excset" => (k_extra "d210"; k_dflt (refine' exc_setN (cd := _) (P := 31) ?e1 ?e2 ?e3 ?e4 ?e5 ?e6 ?e7 ?e8 ?e9 ?_; (case e1 => k_extra "w"); (case e2 => k_extra "w"); (case e3 => k_extra "w"); (case e4 => k_extra "d313"); (case e5 => k_is); (case e6 => exact rfl); (case e7 => exact rfl); (case e8 => exact rfl); (case e9 => k_is); intro h9 tk9 dx9 F9 N9))
  k_with "z69" => repeat' (first | k_extra "d295" | k_extra "d294" | k_extra "d292" | k_extra "d304" | k_extra "excset" | k_extra "STD")
  k_with "raise" => ((with_reducible show wpAny _ _ (exec (Stmt.Raise (some _) none _) _) _ _ _); k_dflt (refine' raise_flt (w := w) ?b2 ?_; (case b2 => exact rfl)))
  k_with "flt" => ((with_reducible show wpAny _ _ (call (Value.ref (nat_lit 44)) _ _) _ _ _); k_dflt (refine' fault_call ?b1 ?b2 ?b3 ?b4 ?b5 ?b6 ?_; (case b1 => exact rfl); (case b2 => k_extra "d94"); (case b3 => k_extra "d94"); (case b4 => k_extra "w"); (case b5 => k_extra "w"); (case b6 => k_extra "w"); intro hE eE tE dE tkE kE nE gE))
  k_with "strint" => ((with_reducible show wpAny _ _ (call (Value.type "str") [Value.int _ _]) _ _ _); k_dflt (refine' PySem.P.str_of_int ?b1 ?_; (case b1 => assumption)))
  k_with "addss" => ((with_reducible show wpAny _ _ (binaryOp Operator.Add (Value.str _ _) (Value.str _ _)) _ _ _); k_dflt (refine' PyProof.Rows.add_str ?_ ?b1; (case b1 => exact fault_text (by assumption)); intro tS tkS))
  k_with "z70" => repeat' (first | k_extra "d295" | k_extra "d294" | (k_extra "d230"; k_extra "d185"; (first | k_extra "raise" | k_extra "SEX")) | (k_extra "d213"; (first | k_extra "flt" | k_extra "SCL")) | k_extra "strint" | k_extra "addss" | k_extra "STD")
  k_with "checkF" => (k_extra "d187"; k_dflt (refine' Pre.ofLk ?qF ?qN ?qnd ?qS ?qX ?qT ?qf ?qk; (case qF => k_extra "w"); (case qN => k_extra "w"); k_extra "d8"; (case qX => k_extra "w"); (case qT => k_extra "w"); (case' qk => (intro oL esL nL hoL hdL PL; refine' callR (checkF_ct (O := .cons (fun z => nomatch z) rfl hdL (by k_extra "w")) (hd := ?qhd) (hu := ?qhu) (P := PL) (hr := ?qhr) (ib := ?qib) (ix := ?qix)); k_extra "d83"; k_extra "d84"; (case qib => assumption); (case qix => assumption); skip)); k_extra "d31"; k_extra "d18"; (case' qhr => intro h9 tk9 e9  P9)))
  k_with "z71" => repeat' (first | k_extra "d295" | k_extra "d294" | k_extra "d292" | (k_extra "d213"; (first | k_extra "checkF" | k_extra "SCL")) | k_extra "STD")
  k_with "CP4" => (case qP => (refine' Pre.of ?qF ?qN ?qnd ?qS ?qX ?qT ?qf; (case qF => k_extra "w"); (case qN => k_extra "w"); k_extra "d7"; (case qX => k_extra "w"); (case qT => k_extra "w"); k_extra "d31"; k_extra "d17")); k_extra "d83"; k_extra "d84"
  k_with "CW2" => (first | (refine' Post.w0 ?ua0 ?ub0 ?uc0 ?ud0 ?_; (case ua0 => k_extra "w"); (case ub0 => k_extra "w"); k_extra "d11"; k_extra "d37"; k_extra "d267"; intro qN F9 N9) | (refine' Post.w1 ?ua1 ?ub1 ?uc1 ?ud1 ?_; (case ua1 => k_extra "w"); (case ub1 => k_extra "w"); k_extra "d12"; k_extra "d38"; k_extra "d267"; intro qN F9 N9 nd9) | (refine' Post.w2 ?ua2 ?ub2 ?uc2 ?ud2 ?_; (case ua2 => k_extra "w"); (case ub2 => k_extra "w"); k_extra "d13"; k_extra "d39"; k_extra "d267"; intro qN F9 N9 nd9) | (refine' Post.wN ?uaN ?ubN ?ucN ?udN ?ulN ?_; (case uaN => k_extra "w"); (case ubN => k_extra "w"); k_extra "d14"; k_extra "d40"; k_extra "d149"; k_extra "d267"; intro qN F9 N9 nd9; k_extra "d219")); (try k_sweep); (try dsimp only); k_extra "d185"
  k_with "zone02" => (k_extra "d188"; k_dflt (refine' callR (zone0_ct (hd := ?qhd) (hu := ?qhu) (P := ?qP) (hr := ?_)); k_extra "CP4"; intro h9 tk9 ; k_extra "CW2"))
  k_with "pop03" => (k_extra "d189"; k_dflt (refine' callR (pop0_ct (hd := ?qhd) (hu := ?qhu) (P := ?qP) (hr := ?_)); k_extra "CP4"; intro h9 tk9 n9; k_extra "CW2"))
  k_with "placeF" => (k_extra "d196"; k_dflt (refine' Pre.ofLk ?qF ?qN ?qnd ?qS ?qX ?qT ?qf ?qk; (case qF => k_extra "w"); (case qN => k_extra "w"); k_extra "d8"; (case qX => k_extra "w"); (case qT => k_extra "w"); (case' qk => (intro oL esL nL hoL hdL PL; refine' callR (placeF_ct (O := .cons (fun z => nomatch z) rfl hdL (by k_extra "w")) (hd := ?qhd) (hu := ?qhu) (P := PL) (hr := ?qhr) (ib := ?qib) (ix := ?qix)); k_extra "d83"; k_extra "d84"; (case qib => assumption); (case qix => assumption); skip)); k_extra "d31"; k_extra "d18"; (case' qhr => intro h9 tk9 e9  P9)))
  k_with "z72" => repeat' (first | k_extra "d295" | k_extra "d294" | k_extra "d292" | (k_extra "d213"; (first | k_extra "zone02" | k_extra "pop03" | k_extra "placeF" | k_extra "SCL")) | k_extra "STD")
  k_with "opcallF" => ((with_reducible show wpAny _ _ (call (Value.ref f) _) _ _ _); (have N8 := News.tail3 (by k_extra "w")); k_dflt (refine' Pre.ofLk (by k_extra "w") N8 ?qnd ?qS (by k_extra "w") (by k_extra "w") ?qf (fun oL esL nL hoL hdL PL => wpAny_call (hop (.cons (fun z => nomatch z) rfl hdL O) ?qhd ?qhu (Pre.perm (List.perm_middle).symm PL) ?qhr)); (case qnd => assumption); (case qS => exact List.Sublist.cons _ (List.Sublist.refl _)); (case qf => (intro H9 B9; exact Facts.mono (fun _ _ z => B9.go z) ‹_›)); k_extra "d83"; k_extra "d84"; (case' qhr => (intro h9 tk9 e9 Ω' hrel P9))))
  k_with "z73" => repeat' (first | k_extra "d295" | k_extra "d294" | k_extra "d292" | (k_extra "d213"; (first | k_extra "ispush0" | k_extra "opcallF" | k_extra "SCL")) | k_extra "rwn" | k_extra "bitem" | k_extra "blen" | k_extra "oin" | k_extra "oitem" | k_extra "ocw" | k_extra "STD")
  k_with "whlF" => ((with_reducible show wpAny _ _ (exec (Stmt.While _ _ _ _) _) _ _ _); k_dflt (refine' While_inv (fun n m news => m = (fun y => List.lookup y [(Str.ofString "self", Value.ref c.M)].reverse) ∧ ∃ k tk i ti Ω' Nw, news = c.mO w k tk :: (c.cl, lsO [] c.nc) :: c.pO w i ti :: ((Ω' ++ frs) ++ Nw) ∧ (ads news).Nodup ∧ ads Ω' = ads Ω ∧ GoesF w c ks.length T0 Fin n i Ω' Nw ∧ k + (n : Int) < 9999) ?wF ?wN ?wJ ?wt ?wE; (case wF => k_extra "w"); (case wN => k_extra "w"); k_extra "d139"; (case wE => passes_own); intro n1 m1 news1 h1 tk1 F1 N1 hJ; obtain ⟨rfl, k, tkk, i, tii, Ωc, Nw, rfl, nd1, ha1, G1, hk1⟩ := hJ; obtain ⟨i0, i1⟩ := G1.bd; clear G))
  k_with "stepgF" => ((with_reducible show wpAny _ _ (call (Value.ref 255) _) _ _ _); rcases n1 with _ | n1; (obtain ⟨_, _, T, Rel, hst, hft, hgo⟩ := G1; k_dflt (refine' Pre.ofLk (objs := c.pO w i tii :: (Ωc ++ frs)) ?qF ?qN ?qnd (.cons _ (.cons _ (.cons_cons _ (List.sublist_append_left _ _)))) ?qX ?qT ?qf (fun oL esL nL hoL hdL PL => wpAny_call (hst (.cons (fun z => nomatch z) rfl hdL O) ?qhd ?qhu (Pre.perm (List.perm_middle (l₁ := c.pO w i tii :: Ωc)).symm PL) ?qhr)); (case qF => k_extra "w"); (case qN => k_extra "w"); (case qnd => assumption); (case qX => k_extra "w"); (case qT => k_extra "w"); k_extra "d83"; k_extra "d84"; (case qf => (intro H B; exact Facts.obj (B.go (by k_extra "w")) (Facts.obj (B.no (.here (.cons _ (.cons_cons _ (List.sublist_append_left _ _))))) (Facts.obj (B.go (by k_extra "w")) (hft H (Facts.mono (fun _ _ z => B.go z) hX) fun p hp => B.no (.skip (.skip (.take (Sel.post hp (List.Sublist.refl _)))))))))); (case' qhr => (intro h9 tk9 e9 Ω9 t9 hrel P9; obtain ⟨ha9, hfin9⟩ := hgo _ hrel)))); rotate_left; (obtain ⟨_, _, i', T, Rel, hst, hft, hgo⟩ := G1; k_dflt (refine' wpAny_call ((StepC.frame hst (fun _ _ r => (hgo _ _ r).1) frs) ?qhd ?qhu (run_pre (by k_extra "w") (by k_extra "w") (by assumption) (by k_extra "w") (by k_extra "w") (by k_extra "w") (by k_extra "w") (by k_extra "w") hft) ?_); k_extra "d83"; k_extra "d84"; intro h9 tk9 Ω9 new9 t9 hrel P9; obtain ⟨Ω9, rfl, hrel⟩ := hrel; obtain ⟨ha9, Nw9, hs9, G9⟩ := hgo _ _ hrel; obtain ⟨F9, N9, nd9⟩ := run_use P9 (by k_extra "w") (by k_extra "w") (by assumption) (by rw [ads_app, ads_app, ha9]) hs9; clear P9)))
  k_with "z74" => repeat' (first | k_extra "d295" | k_extra "d294" | (k_extra "d230"; k_extra "d185"; (first | k_extra "whlF" | k_extra "SEX")) | (k_extra "d213"; (first | k_extra "isover0" | k_extra "stepgF" | k_extra "SCL")) | k_extra "STD")
  k_with "try" => ((with_reducible show wpAny _ _ (exec (Stmt.Try _ _ _ _ _) _) _ _ _); k_dflt (refine' wpAny_Try_except ?_))
  k_with "allops" => ((with_reducible show wpAny _ _ (call (Value.ref (nat_lit 1085)) _) _ _ _); k_dflt (refine' callR (allops_ct (hd := ?qhd) (hu := ?qhu) (P := ?qP) (hr := ?_)); k_extra "CP"; intro h9 tk9 d9 o9 hd9 hlo9; k_extra "CW"))
  k_with "mkfuncs" => ((with_reducible show wpAny _ _ (call (Value.ref (nat_lit 103)) _ _) _ _ _); k_dflt (refine' make_ct ?m1 ?m2 ?m3 ?m4 ?m5 ?m6 ?m7 ?m8 ?_; (case m1 => exact rfl); (case m2 => k_extra "w"); (case m3 => k_extra "w"); (case m4 => k_extra "w"); k_extra "d15"; (case m6 => k_is); (case m7 => k_is); (case m8 => k_is); intro xf df h8 fr8 gd8 F8 N8 nd8 l81 l82; k_extra "d262"; (try k_lt l81); (try k_lt2 l82); refine' funcsI_ct (hd := ?qhd) (hu := ?qhu) (P := ?qP) (hr := ?_); k_extra "CP"; intro h9 tk9 ft9 f19 f29 P9; refine And.intro rfl ?_; (try dsimp only); k_extra "CA"))
  k_with "mkmachine" => ((with_reducible show wpAny _ _ (call (Value.ref (nat_lit 279)) _ _) _ _ _); k_dflt (refine' make_ct ?m1 ?m2 ?m3 ?m4 ?m5 ?m6 ?m7 ?m8 ?_; (case m1 => exact rfl); (case m2 => k_extra "w"); (case m3 => k_extra "w"); (case m4 => k_extra "w"); k_extra "d15"; (case m6 => k_is); (case m7 => k_is); (case m8 => k_is); intro x8 d8 h8 fr8 gd8 F8 N8 nd8 l81 l82; k_extra "d262"; (try k_lt l81); (try k_lt2 l82); refine' machineI_ct (hd := ?qhd) (hu := ?qhu) (P := ?qP) (hr := ?_) (tmc := 0); k_extra "CP"; intro h9 tk9 mt9 pt9 tms9 tmc9 pl9 pld9 cl9 ti9 ts9 P9; refine And.intro rfl ?_; (try dsimp only); k_extra "CA"))
  k_with "bts" => ((with_reducible show wpAny _ _ (call (Value.type "bytes") [Value.ref _]) _ _ _); k_dflt (refine' bytes_K (vs := vs) (ns := ks) ?bF ?bN ?bl ?bi ?br ?bz ?bh ?_; (case bF => k_extra "w"); (case bN => k_extra "w"); (case bl => exact isl' (Fr.keep (by k_extra "w") _ _ (by k_extra "w"))); (case bi => exact hi9); (case br => exact hr9); (case bz => exact hz9); (case bh => rfl)); intro h9 tb9 tk9 F9 N9; (try dsimp only))
  k_with "z75" => repeat' ((fail_if_success (with_reducible show wpAny _ _ (call (Value.ref (nat_lit 248)) _) _ _ _)); first | k_extra "d295" | k_extra "d294" | (k_extra "d230"; k_extra "d185"; (first | k_extra "try" | k_extra "SEX")) | (k_extra "d213"; (first | k_extra "allops" | k_extra "mkfuncs" | k_extra "mkmachine" | k_extra "SCL")) | k_extra "bts" | k_extra "STD")
  k_with "cell" => ((with_reducible show wpAny _ _ (exec (Stmt.Assign [Expr.Name _ _] (Expr.IfExp _ _ _ _) _) _) _ _ _); k_dflt (refine' cellE ?cA ?cB ?cC; (case cC => rfl); (case' cB => intro i9 t9 k9)))
  k_with "item0" => (k_extra "d157"; (obtain ⟨i9, t9, hv9⟩ := cell0 hi (by assumption)); k_dflt (refine' item_L ?jl ?ja ?jb hv9 ?_; k_extra "d214"; (case ja => decide); (case jb => decide); k_whole))
  k_with "z76" => repeat' (first | k_extra "d295" | k_extra "d293" | (k_extra "d230"; k_extra "d185"; (first | k_extra "cell" | k_extra "SEX3")) | k_extra "d304" | k_extra "lenV" | k_extra "item0" | k_extra "STD3")
  k_with "CP5" => (case qP => (refine' Pre.of ?qF ?qN ?qnd ?qS ?qX ?qT ?qf; (case qF => k_extra "w"); (case qN => first | exact News.tup1 (by k_extra "w") | k_extra "w"); k_extra "d7"; (case qX => k_extra "w"); (case qT => k_extra "w"); k_extra "d31"; k_extra "d17")); k_extra "d83"; k_extra "d84"
  k_with "CW3" => (first | (refine' Post.w0 ?ua0 ?ub0 ?uc0 ?ud0 ?_; (case ua0 => k_extra "w"); (case ub0 => first | exact News.tup1 (by k_extra "w") | k_extra "w"); k_extra "d11"; k_extra "d37"; k_extra "d267"; intro qN F9 N9) | (refine' Post.w1 ?ua1 ?ub1 ?uc1 ?ud1 ?_; (case ua1 => k_extra "w"); (case ub1 => first | exact News.tup1 (by k_extra "w") | k_extra "w"); k_extra "d12"; k_extra "d38"; k_extra "d267"; intro qN F9 N9 nd9) | (refine' Post.w2 ?ua2 ?ub2 ?uc2 ?ud2 ?_; (case ua2 => k_extra "w"); (case ub2 => first | exact News.tup1 (by k_extra "w") | k_extra "w"); k_extra "d13"; k_extra "d39"; k_extra "d267"; intro qN F9 N9 nd9) | (refine' Post.wN ?uaN ?ubN ?ucN ?udN ?ulN ?_; (case uaN => k_extra "w"); (case ubN => first | exact News.tup1 (by k_extra "w") | k_extra "w"); k_extra "d14"; k_extra "d40"; k_extra "d149"; k_extra "d267"; intro qN F9 N9 nd9; k_extra "d219")); (try k_sweep); (try dsimp only); k_extra "d185"
  k_with "lheld" => (k_extra "d192"; k_dflt (refine' callR (lheld_ct (hd := ?qhd) (hu := ?qhu) (P := ?qP) (hr := ?_)); k_extra "CP5"; intro h9 tk9 t9; k_extra "CW3"))
  k_with "lnear" => (k_extra "d193"; k_dflt (refine' callR (lnear_ct (hd := ?qhd) (hu := ?qhu) (P := ?qP) (hr := ?_) (b0 := ?qb0) (b1 := ?qb1) (b2 := ?qb2)); k_extra "CP5"; (case qb0 => assumption); (case qb1 => assumption); (case qb2 => assumption); intro h9 tk9 t9; k_extra "CW3"))
  k_with "lcopy" => (k_extra "d179"; k_dflt (refine' list_copyK ?k1 ?k2 ?k3 ?_ ?z; (case k1 => k_extra "w"); (case k2 => k_extra "w"); (case k3 => exact Fr.lst' (by k_extra "w") (by k_extra "w")); (case z => exact Nat.le_of_ble_eq_true rfl)); (first | (have z9 := Dn9; clear z9; intro Do9 co9 h' F' N' l1) | intro Dn9 cn9 h' F' N' l1); (try k_lt l1); (try k_sweep))
  k_with "z77" => repeat' (k_extra "d208"; first | k_extra "d295" | k_extra "d294" | k_extra "d292" | k_extra "d280" | k_extra "lcopy" | k_extra "STD")
  k_with "z78" => repeat' (first | k_extra "d295" | k_extra "d294" | k_extra "d292" | k_extra "d280" | k_extra "tneT" | k_extra "STD")
  k_with "CW4" => (first | (refine' Post.w0 ?ua0 ?ub0 ?uc0 ?ud0 ?_; (case ua0 => k_extra "w"); (case ub0 => k_extra "w"); (case uc0 => k_extra "d316"); k_extra "d37"; k_extra "d267"; intro qN F9 N9) | (refine' Post.w1 ?ua1 ?ub1 ?uc1 ?ud1 ?_; (case ua1 => k_extra "w"); (case ub1 => k_extra "w"); (case uc1 => k_extra "d316"); k_extra "d38"; k_extra "d267"; intro qN F9 N9 nd9) | (refine' Post.w2 ?ua2 ?ub2 ?uc2 ?ud2 ?_; (case ua2 => k_extra "w"); (case ub2 => k_extra "w"); (case uc2 => k_extra "d316"); k_extra "d39"; k_extra "d267"; intro qN F9 N9 nd9) | (refine' Post.wN ?uaN ?ubN ?ucN ?udN ?ulN ?_; (case uaN => k_extra "w"); (case ubN => k_extra "w"); (case ucN => k_extra "d316"); k_extra "d40"; k_extra "d149"; k_extra "d267"; intro qN F9 N9 nd9; k_extra "d219")); (try k_sweep); (try dsimp only); k_extra "d185"
  k_with "begun" => ((with_reducible show wpAny _ _ (call (Value.ref (nat_lit 1351)) _) _ _ _); k_dflt (refine' callR (lbegun_ct (hd := ?qhd) (hu := ?qhu) (P := ?qP) (hr := ?_)); k_extra "CP4"; intro h9 tk9 r9 W9 ol9 vs9 n19 qa qt qk9 qv qi qn qb rd gt gk h0 h1 h2 h3 h4 h5 h6 nn no Rest r0 r1 r2 t0 t1 t2 hI9 hF9; k_extra "CW4"))
  k_with "ladd" => (k_extra "d155"; k_dflt (refine' kmk_add_lit (its := List.toArray vs) ?la1 ?la2 ?la3 ?la4 rfl ?la5 ?la6; (case la1 => k_extra "w"); (case la2 => k_extra "w"); k_extra "d78"; (case la4 => exact News.isList (by k_extra "w") (by k_extra "MEM")); (case la6 => (rw [sizeLine_eq]; show vs.length + 9 ≤ _; (k_extra "o"))); intro Dl9 h' F' N' l1; (try k_lt l1)))
  k_with "lwalked" => ((with_reducible show wpAny _ _ (call (Value.ref (nat_lit 1358)) _) _ _ _); k_dflt (refine' callR (lwalked_ct (hd := ?qhd) (hu := ?qhu) (P := ?qP) (hr := ?_) (hM := ?qhM) (w0 := ?qw0) (w1 := ?qw1) (w2 := ?qw2) (kx0 := ?qkx0) (kx1 := ?qkx1) (hV := ?qhV)); k_extra "CP4"; (case qhM => assumption); (case qw0 => assumption); (case qw1 => assumption); (case qw2 => assumption); (case qkx0 => assumption); (case qkx1 => assumption); (case qhV => assumption); intro h9 tk9 nw9 od9 r9 k19 k29 s09 s19 s29 u09 u19 u29; k_extra "CW4"))
  k_with "lrun1" => ((with_reducible show wpAny _ _ (call (Value.ref (nat_lit 1346)) _ _) _ _ _); k_dflt (refine' callR (lawrun_ct (Ω := [((qa (nat_lit 8)), lsO [] 0), ((qa (nat_lit 9)), gsD w gt gk (qa (nat_lit 10)) (qa (nat_lit 11)) (qa (nat_lit 12)) (.int 0 h0) (.int 0 h1) (.int 0 h2) (.int 1 h3) (.int 1 h4) (.int 1 h5) (.int 1 h6) rd), ((qa (nat_lit 17)), lsO [.ref r0, .ref r1, .ref r2] nn), ((qa (nat_lit 16)), lsO [.ref r0, .ref r1, .ref r2] no), ((qa (nat_lit 22)), lsO [.bool false, .bool false] 0), ((qa (nat_lit 23)), lsO [.bool false, .bool false] 0)]) (hd := ?qhd) (hu := ?qhu) (P := ?qP) (hi9 := ?qi) (hr9 := ?qr) (hz9 := ?qz) (n := 8 + 5 * M) (hn9 := ?qn) (hn1 := ?qo) (G9 := ?qg) (hr := ?qhr)); k_extra "d83"; k_extra "d84"; (case qP => (refine' Pre.of ?qF ?qN ?qnd ?qS ?qX ?qT ?qf; (case qF => k_extra "w"); (case qN => k_extra "w"); k_extra "d8"; (case qX => k_extra "w"); (case qT => k_extra "w"); k_extra "d31"; (case qf => exact FsP.objN (by k_extra "d312") (fun H B => hF9 H fun a o hm => B.no (.skip (.skip (.skip (.skip (.take (.take (.take (.take (.take (.take (.skip (sel_nil (List.mem_append_left frs hm))))))))))))))))); (case qi => assumption); (case qr => exact inPre _); (case qz => (k_extra "o")); (case qn => rfl); (case qo => (k_extra "o")); (case qg => exact (fun c oo hW Y => by subst hW; exact go_firstM hM1 Y rfl tblAll w0 w1 w2 kx0 kx1 hV9)); (case' qhr => intro h9 tk9 Ω9 Nw9 t9 hads hfin; apply hfin; clear hfin hads Ω9 Nw9; intro bb1 bb3 mm1 mm2 rA rB tA1 tA2 tB1 tB2 na nb n9 g9 g0' g1' g2' g3' g4' g5'; k_extra "CW4")))
  k_with "isth" => ((with_reducible show wpAny _ _ (eval (Expr.Compare _ [CmpOp.LtE, CmpOp.Lt] [_, _] _) _) _ _ _); k_dflt (refine' eval_in ?i0 ?i1 ?i2 ?i3 ?i4; (case i0 => k_extra "EVT0"); (case i1 => k_extra "EVT0"); (case i2 => k_extra "EVT0"); (case i3 => rfl); (case' i4 => intro tk9)))
  k_with "if5" => ((with_reducible show wpAny _ _ (eval (Expr.IfExp (Expr.Name _ _) _ _ _) _) _ _ _); k_dflt (refine' eval_ifI ?j0 ?j1 ?j2 ?j3; (case j0 => k_extra "EVT0"); (case j1 => k_extra "EVT0"); (case j2 => k_extra "EVT0"); (case' j3 => intro tk9 t9)))
  k_with "nileq" => (k_extra "d158"; k_dflt (refine' nil_eq (News.isL0 (by k_extra "w") (by k_extra "d308")) (News.isL0 (by k_extra "w") (by k_extra "d308")) (by k_extra "d94") ?_))
  k_with "z79" => repeat' (k_extra "d208"; first | k_extra "d295" | k_extra "d294" | k_extra "d292" | (k_extra "d213"; (first | k_extra "begun" | k_extra "SCL")) | k_extra "STD")
  k_with "z80" => repeat' (first | k_extra "d295" | k_extra "d294" | k_extra "d292" | k_extra "d304" | k_extra "ladd" | k_extra "STD")
  k_with "z81" => repeat' (k_extra "d177"; k_extra "d167"; first | k_extra "d295" | k_extra "d284" | k_extra "d296" | (k_extra "d213"; (first | k_extra "lwalked" | k_extra "lrun1" | k_extra "SCL")) | k_extra "STD")
  k_with "z82" => repeat' (k_extra "d177"; k_extra "d167"; first | k_extra "d295" | (k_extra "d229"; k_extra "d32"; (first | k_extra "lcu" | k_extra "isth" | k_extra "if5" | k_extra "SEV")) | k_extra "d296" | k_extra "d304" | k_extra "STD")
  k_with "z83" => repeat' (k_extra "d177"; k_extra "d167"; first | k_extra "d295" | (k_extra "d229"; k_extra "d32"; (first | k_extra "if5" | k_extra "lcu" | k_extra "SEV")) | k_extra "d296" | k_extra "d304" | k_extra "STD")
  k_with "z84" => repeat' (first | k_extra "d295" | k_extra "d294" | k_extra "d292" | k_extra "d304" | k_extra "nileq" | k_extra "STD")
  k_with "zC" => (k_extra "d182"; k_dflt (refine' mkZ0 ?b1C ?b2C ?b3C ?b4C ?b5C ?b6C ?b7C ?b8C ?b9C ?_; (case b1C => exact rfl); k_extra "d89"; k_extra "d90"; (case b4C => k_extra "w"); (case b5C => k_extra "w"); (case b6C => k_extra "w"); (case b7C => k_extra "w"); (case b8C => k_extra "d309"); k_extra "d74"; intro h9 tk9 z9 K9 hZ9 F9 N9 nd9))
  k_with "mkW2" => (k_extra "d184"; k_dflt (refine' mkW ?b1W ?b2W ?b3W ?b4W ?b5W ?b6W ?b7W ?b8W ?_; (case b1W => exact rfl); k_extra "d87"; k_extra "d88"; (case b4W => k_extra "w"); (case b5W => k_extra "w"); (case b6W => k_extra "w"); (case b7W => k_extra "w"); k_extra "d95"; intro h9 tk9 W9 KW9 hW9 F9 N9 nd9))
  k_with "lheld2" => (k_extra "d192"; k_dflt (refine' callR (lheld_ct (hd := ?qhd) (hu := ?qhu) (P := ?qP) (hr := ?_)); k_extra "CP"; intro h9 tk9 t9; k_extra "CW"))
  k_with "lnear2" => (k_extra "d193"; k_dflt (refine' callR (lnear_ct (hd := ?qhd) (hu := ?qhu) (P := ?qP) (hr := ?_) (b0 := ?qb0) (b1 := ?qb1) (b2 := ?qb2)); k_extra "CP"; (case qb0 => first | assumption | decide); (case qb1 => first | assumption | decide); (case qb2 => first | assumption | decide); intro h9 tk9 t9; k_extra "CW"))
  k_with "z85" => repeat' (first | k_extra "d295" | k_extra "d294" | k_extra "d292" | (k_extra "d213"; (first | k_extra "zC" | k_extra "mkW2" | k_extra "SCL")) | k_extra "STD")
  k_with "z86" => repeat' (first | k_extra "d295" | k_extra "d294" | k_extra "d292" | (k_extra "d213"; (first | k_extra "lheld2" | k_extra "lnear2" | k_extra "SCL")) | k_extra "STD")
  k_with "mkWS" => (k_extra "d184"; k_dflt (refine' mkWS ?b1V ?b2V ?b3V ?b4V ?b5V ?b6V ?b7V ?b8V ?_; (case b1V => exact rfl); (case b2V => k_extra "d94"); (case b3V => k_extra "d94"); (case b4V => k_extra "w"); (case b5V => k_extra "w"); (case b6V => k_extra "w"); (case b7V => k_extra "w"); (case b8V => k_extra "d309"); intro h9 tk9 W9 KW9 hW9 F9 N9 nd9))
  k_with "CP6" => (case qP => (refine' Pre.of ?qF ?qN ?qnd ?qS ?qX ?qT ?qf; (case qF => k_extra "w"); (case qN => k_extra "w"); (case qnd => k_extra "d316"); (case qX => k_extra "w"); (case qT => k_extra "w"); k_extra "d31"; k_extra "d17")); k_extra "d83"; k_extra "d84"
  k_with "lheld3" => (k_extra "d192"; k_dflt (refine' callR (lheld_ct (hd := ?qhd) (hu := ?qhu) (P := ?qP) (hr := ?_)); k_extra "CP6"; intro h9 tk9 t9; k_extra "CW4"))
  k_with "lnear3" => (k_extra "d193"; k_dflt (refine' callR (lnear_ct (hd := ?qhd) (hu := ?qhu) (P := ?qP) (hr := ?_) (b0 := ?qb0) (b1 := ?qb1) (b2 := ?qb2)); k_extra "CP6"; (case qb0 => first | assumption | decide); (case qb1 => first | assumption | decide); (case qb2 => first | assumption | decide); intro h9 tk9 t9; k_extra "CW4"))
  k_with "ladd2" => (k_extra "d155"; k_dflt (refine' kmk_add_lit (its := List.toArray vs) ?la1 ?la2 ?la3 ?la4 rfl ?la5 ?la6; (case la1 => k_extra "w"); (case la2 => k_extra "w"); k_extra "d78"; (case la4 => exact News.isList (by k_extra "w") (by k_extra "MEM")); (case la6 => (rw [sizeLine_eq]; show vs.length + 6 ≤ _; (k_extra "o"))); intro Dl9 h' F' N' l1; (try k_lt l1)))
  k_with "z87" => repeat' (k_extra "d208"; first | k_extra "d295" | k_extra "d294" | k_extra "d292" | (k_extra "d213"; (first | k_extra "zC" | k_extra "mkWS" | k_extra "SCL")) | k_extra "STD")
  k_with "z88" => repeat' (first | k_extra "d295" | k_extra "d294" | k_extra "d292" | (k_extra "d213"; (first | k_extra "lheld3" | k_extra "lnear3" | k_extra "SCL")) | k_extra "ladd2" | k_extra "STD")
  k_with "cellr" => ((with_reducible show wpAny _ _ (eval (Expr.Name _ _) (envOfC _ _ _ _ _)) _ _ _); name_kind "cell"; k_dflt (refine' ldCN (news := _) (by k_extra "w") rfl ?cm ?cd ?_; (case cm => k_extra "d308"); (case cd => assumption)))
  k_with "zB2" => (k_extra "d174"; k_dflt (refine' mkZB ?b1B ?b2B ?b3B ?b4B ?b5B ?b6B ?b7B ?b8B ?b9B ?_; (case b1B => exact rfl); k_extra "d85"; k_extra "d86"; (case b4B => k_extra "w"); (case b5B => k_extra "w"); (case b6B => k_extra "w"); (case b7B => k_extra "w"); (case b8B => k_extra "d6"); k_extra "d21"; intro h9 tk9 zB9 KB9 hB9 F9 N9 nd9))
  k_with "zC2" => (k_extra "d182"; k_dflt (refine' mkZ0 ?b1C ?b2C ?b3C ?b4C ?b5C ?b6C ?b7C ?b8C ?b9C ?_; (case b1C => exact rfl); k_extra "d89"; k_extra "d90"; (case b4C => k_extra "w"); (case b5C => k_extra "w"); (case b6C => k_extra "w"); (case b7C => k_extra "w"); (case b8C => k_extra "d6"); k_extra "d74"; intro h9 tk9 z9 K9 hZ9 F9 N9 nd9))
  k_with "lheldC" => ((with_reducible show wpAny _ _ (call (Value.ref (nat_lit 1332)) [_] _) _ _ _); k_dflt (refine' callR (lheld_ct (hd := ?zhd) (hu := ?zhu) (P := Pre.of (N := []) ?zF (fun p hp => nomatch hp) List.nodup_nil (List.nil_sublist _) ?zX ?zT FsP.nil) (hr := ?_)); (case zF => k_extra "w"); (case zX => k_extra "w"); (case zT => k_extra "w"); (case zhd => k_extra "d94"); (case zhu => k_extra "d94"); intro h9 tk9 t9 P9; refine' Post.wz P9 (by k_extra "w") (by k_extra "w") ?_; intro F9 N9; (try dsimp only)))
  k_with "z89" => repeat' (first | k_extra "d295" | k_extra "d303" | k_extra "d292" | (k_extra "d213"; (first | k_extra "zB2" | k_extra "zC2" | k_extra "mkW2" | k_extra "SCL")) | k_extra "STD")
  k_with "z90" => repeat' (first | k_extra "d295" | k_extra "d303" | k_extra "d292" | (k_extra "d213"; (first | k_extra "lheld3" | k_extra "SCL")) | k_extra "STD")
  k_with "z91" => repeat' (first | k_extra "d295" | k_extra "d303" | k_extra "d292" | (k_extra "d213"; (first | k_extra "lheldC" | k_extra "SCL")) | k_extra "STD")
  k_with "lfar" => ((with_reducible show wpAny _ _ (call (Value.ref (nat_lit 1382)) _) _ _ _); k_dflt (refine' callR (lfar_ct (hd := ?qhd) (hu := ?qhu) (P := ?qP) (hr := ?_) (y0 := ?qy0) (y1 := ?qy1)); k_extra "CP6"; (case qy0 => first | exact (inR (lo := -2147483648) (hi := 2147483648) (by decide) hj3).1 | decide); (case qy1 => first | exact (inR (lo := -2147483648) (hi := 2147483648) (by decide) hj3).2 | decide); intro h9 tk9 ; k_extra "CW4"))
  k_with "lpool" => ((with_reducible show wpAny _ _ (call (Value.ref (nat_lit 1311)) _) _ _ _); k_dflt (refine' callR (lpool_ct (hd := ?qhd) (hu := ?qhu) (P := ?qP) (hr := ?_) (hi := ?qhi) (hz := ?qhz)); k_extra "CP6"; (case qhi => assumption); (case qhz => assumption); intro h9 tk9 so9 a9 b9 ta9 tb9 n9 ha9 hb9 hb8; k_extra "CW4"))
  k_with "lscal" => ((with_reducible show wpAny _ _ (call (Value.ref (nat_lit 1370)) _) _ _ _); k_dflt (refine' callR (lscal_ct (hd := ?qhd) (hu := ?qhu) (P := ?qP) (hr := ?_) (v0 := ?qv0) (v1 := ?qv1) (a0 := ?qa0) (a1 := ?qa1) (b0 := ?qb0) (b1 := ?qb1) (hM := ?qhM) (M := 1 + k4)); k_extra "CP6"; (case qv0 => exact (inR (lo := -2147483648) (hi := 2147483648) (by decide) hj0).1); (case qv1 => exact (inR (lo := -2147483648) (hi := 2147483648) (by decide) hj0).2); (case qa0 => exact kA); (case qa1 => exact kB (n := 9) hr1G (by decide)); (case qb0 => exact kA); (case qb1 => exact kB (n := 3) hr1H (by decide)); (case qhM => exact kM (n := 30) hr1I (by decide)); intro h9 tk9 ; k_extra "CW4"))
  k_with "lrnd" => ((with_reducible show wpAny _ _ (call (Value.ref (nat_lit 1377)) _) _ _ _); k_dflt (refine' callR (lrnd_ct (hd := ?qhd) (hu := ?qhu) (P := ?qP) (hr := ?_) (v0 := ?qv0) (v1 := ?qv1)); k_extra "CP6"; (case qv0 => exact (inR (lo := -2147483648) (hi := 2147483648) (by decide) hj1).1); (case qv1 => exact (inR (lo := -2147483648) (hi := 2147483648) (by decide) hj1).2); intro h9 tk9 ; k_extra "CW4"))
  k_with "z92" => repeat' (first | k_extra "d295" | k_extra "d303" | k_extra "d292" | k_extra "d282" | k_extra "STD")
  k_with "z93" => repeat' (k_extra "d177"; k_extra "d167"; first | k_extra "d295" | (k_extra "d229"; k_extra "d32"; (first | k_extra "cellr" | k_extra "lcu" | k_extra "SEV")) | k_extra "d296" | k_extra "d282" | k_extra "STD")
  k_with "z94" => repeat' (first | k_extra "d295" | k_extra "d303" | k_extra "d292" | k_extra "d304" | k_extra "STD")
  k_with "z95" => repeat' (first | k_extra "d295" | k_extra "d303" | k_extra "d292" | (k_extra "d213"; (first | k_extra "lscal" | k_extra "lrnd" | k_extra "lfar" | k_extra "SCL")) | k_extra "STD")
  k_with "w" => with_reducible assumption
  k_with "o" => first | lia | omega
  k_with "d0" => (case qP => (refine' Pre.of ?qF ?qN ?qnd ?qS ?qX ?qT ?qf; (case qF => k_extra "w"); (case qN => k_extra "w"); (case qnd => k_extra "d313"); (case qX => k_extra "w"); (case qT => k_extra "w"); k_extra "d35"; k_extra "d18"))
  k_with "d1" => (refine' set_dictN ?sk1 ?sk2 ?sk3 ?skn ?sk4 ?sk5 ?sk6 ?sk7 ?sk8 ?sk9 ?sk10 ?sk11 ?sk12 ?sk13 ?_; (case sk1 => k_extra "w"); (case sk2 => k_extra "w"); (case sk3 => k_extra "w"); (case skn => k_extra "d313"); (case sk4 => k_extra "d61"); (case sk5 => exact rfl); (case sk6 => k_is); (case sk7 => k_is); (case sk8 => k_is); (case sk9 => k_is); (case sk10 => k_get); (case sk11 => k_put); (case sk12 => k_extra "d65"); (case sk13 => exact Nat.le_of_ble_eq_true rfl); k_whole; k_extra "d204"; intro qN tqq h' F' N'; (try k_sweep))
  k_with "d2" => (refine' ki_setN ?si1 ?si2 ?sin ?si3 ?si4 ?si5 ?si6 ?_; (case si1 => k_extra "w"); (case si2 => k_extra "w"); k_extra "d9"; k_extra "d62"; (case si5 => first | rfl | exact kset3 (by assumption) (by assumption)); (case si3 => first | k_extra "w" | decide); (case si4 => first | decide | (k_extra "o")))
  k_with "d3" => (refine' ki_setN ?si1 ?si2 ?sin ?si3 ?si4 ?si5 ?si6 ?_; (case si1 => k_extra "w"); (case si2 => k_extra "w"); k_extra "d9"; k_extra "d62"; (case si5 => first | rfl | exact kset3 (by assumption) (by assumption)); (case si3 => first | k_extra "w" | decide); (case si4 => first | decide | omega))
  k_with "d4" => (refine' append_N ?ap1 ?ap2 ?apn ?ap3 ?apz ?_; (case ap1 => k_extra "w"); (case ap2 => k_extra "w"); (case apn => k_extra "d313"); (case ap3 => k_extra "d65"); (case apz => first | exact Nat.le_of_ble_eq_true rfl | size_fits); k_whole)
  k_with "d5" => (refine' kl_popN ?po1 ?po2 ?pon ?po3 ?po4 ?po5 ?_; (case po1 => k_extra "w"); (case po2 => k_extra "w"); k_extra "d10"; (case po3 => rfl); k_extra "d63"; (case po5 => exact Nat.le_of_ble_eq_true rfl))
  k_with "d6" => (first | k_extra "d309" | k_extra "d313")
  k_with "d7" => (case qnd => ((repeat (first | assumption | (exact nd_sw1 (by assumption)) | (exact nd_sw2 (by assumption)) | (exact nd_sw3 (by assumption)) | k_extra "d70" | exact List.nodup_nil | k_extra "d30" | exact nd_subN (by k_extra "w") (by assumption) (by k_extra "d33") | k_extra "d73" | (refine List.nodup_cons.mpr ⟨nd_selN (by k_extra "w") (by assumption) (by (k_extra "d25"; first | done | fail)), ?_⟩))); first | done | fail))
  k_with "d8" => (case qnd => first | k_extra "w" | k_extra "d313")
  k_with "d9" => (case sin => k_extra "d313")
  k_with "d10" => (case pon => k_extra "d313")
  k_with "d11" => (case uc0 => k_extra "d313")
  k_with "d12" => (case uc1 => k_extra "d313")
  k_with "d13" => (case uc2 => k_extra "d313")
  k_with "d14" => (case ucN => k_extra "d313")
  k_with "d15" => (case m5 => k_extra "d313")
  k_with "d16" => (repeat (first | assumption | (exact nd_sw1 (by assumption)) | (exact nd_sw2 (by assumption)) | (exact nd_sw3 (by assumption)) | k_extra "d70" | exact List.nodup_nil | k_extra "d30" | exact nd_subN (by k_extra "w") (by assumption) (by k_extra "d36") | k_extra "d73" | (refine List.nodup_cons.mpr ⟨nd_selN (by k_extra "w") (by assumption) (by k_extra "d312"), ?_⟩)))
  k_with "d17" => (case qf => ((repeat (first | exact FsP.nil | refine FsP.tupG (by k_extra "w") ?_ | refine FsP.tupN (by (k_extra "d25"; first | done | fail)) ?_ | refine FsP.objG (by k_extra "w") ?_ | refine FsP.objN (by (k_extra "d25"; first | done | fail)) ?_)); first | done | fail))
  k_with "d18" => (case qf => ((repeat (first | exact FsP.nil | refine FsP.tupG (by k_extra "w") ?_ | refine FsP.tupN (by k_extra "d312") ?_ | refine FsP.objG (by k_extra "w") ?_ | refine FsP.objN (by k_extra "d312") ?_)); first | done | fail))
  k_with "d19" => (first | k_extra "d75" | (refine' item_L ?jl ?ja ?jb ?jc ?_; k_extra "d214"; k_extra "d258"; (case jb => first | decide | (k_extra "o")); k_extra "d153"; k_whole) | (refine' item_L ?jl ?ja ?jb ?jc ?_; (case jl => exact News.isList (by k_extra "w") (by k_extra "MEM")); k_extra "d258"; (case jb => first | decide | (k_extra "o")); k_extra "d153"; k_whole) | k_extra "d72")
  k_with "d20" => (first | (refine' Ev.sub ?s14e ?s24e ?st4e ?sa4e ?sb4e ?sc4e ?sd4e; (case s14e => fail); (case s24e => fail); k_extra "d120"; (case sa4e => first | decide | k_extra "w"); (case sb4e => first | decide | (k_extra "o")); (case sc4e => exact rfl); (case sd4e => intro _; with_unfolding_all rfl)) | (refine' Ev.subL ?t14e ?t24e ?tt4e ?ta4e ?tb4e ?tc4e ?td4e; (case t14e => fail); (case t24e => fail); k_extra "d114"; (case ta4e => first | decide | k_extra "w"); (case tb4e => first | decide | (k_extra "o")); k_extra "d134"; (case td4e => intro _; with_unfolding_all rfl)))
  k_with "d21" => (case b9B => (intro H9 g9 n9; exact Facts.obj (n9 _ _ (by k_extra "d308")) (Facts.tup (tup_of (n9 _ _ (by k_extra "d308"))) (Facts.tup (tup_of (n9 _ _ (by k_extra "d308"))) (Facts.tup (tup_of (n9 _ _ (by k_extra "d308"))) (Facts.obj (n9 _ _ (by k_extra "d308")) Facts.nil))))))
  k_with "d22" => (repeat (first | (refine' Sel.here2 ?sea ?seb ?_; k_extra "d268"; k_extra "d234"; (first | ((repeat (first | exact List.nil_sublist _ | exact List.sublist_append_right _ _ | exact List.Sublist.refl _ | k_extra "d131" | refine List.Sublist.cons _ ?_)); first | done | fail) | ((repeat (first | exact List.nil_sublist _ | exact List.sublist_append_right _ _ | exact List.Sublist.refl _ | k_extra "d265" | refine List.Sublist.cons _ ?_)); first | done | fail))) | (apply Sel.take) | apply Sel.skip))
  k_with "d23" => (repeat (first | (refine' Sel.here2 ?sea ?seb ?_; k_extra "d268"; k_extra "d234"; (first | ((repeat (first | exact List.nil_sublist _ | exact List.sublist_append_right _ _ | k_extra "d131" | refine List.Sublist.cons _ ?_)); first | done | fail) | ((repeat (first | exact List.nil_sublist _ | exact List.sublist_append_right _ _ | k_extra "d265" | refine List.Sublist.cons _ ?_)); first | done | fail))) | (apply Sel.take) | apply Sel.skip))
  k_with "d24" => (repeat (first | (refine' Sel.here2 ?sea ?seb ?_; k_extra "d268"; k_extra "d234"; k_extra "d34") | (apply Sel.take) | apply Sel.skip))
  k_with "d25" => (repeat (first | (refine' Sel.here2 ?sea ?seb ?_; k_extra "d268"; k_extra "d234"; k_extra "d33") | (apply Sel.take) | apply Sel.skip))
  k_with "d26" => (first | (refine' Ev.own ?oo4e ?oF4e ?oX4e ?oI4e ?oO4e ?ol4e ?ov4e ?oe4e; (case oo4e => fail); (case oF4e => k_extra "w"); (case oX4e => k_extra "w"); (case oI4e => (first | (refine' inst_ss ?ia4 ?ib4 ?ic4; (case ia4 => k_extra "w"); (case ib4 => k_extra "w"); (case ic4 => k_extra "w")) | (refine' inst_sn ?ia4 ?iN4 ?ib4 ?ic4; (case ia4 => k_extra "w"); (case iN4 => k_extra "w"); (case ib4 => k_extra "w"); (case ic4 => k_extra "MEM")) | k_inst)); (case oO4e => k_extra "OWN"); (case ol4e => k_get); (case ov4e => k_handed); (case oe4e => with_unfolding_all rfl)))
  k_with "d27" => (repeat (first | (refine' Sel.here2 ?sea ?seb ?_; k_extra "d268"; k_extra "d234"; k_extra "d36") | (apply Sel.take) | apply Sel.skip))
  k_with "d28" => (refine' get_own ?g1 ?g2 ?g3 ?g4 ?g5 ?g6 ?g7 ?g8 ?g9 ?_; (case g1 => k_extra "w"); (case g2 => k_extra "w"); k_extra "d60"; (case g4 => k_is); (case g5 => k_is); (case g6 => k_is); (case g7 => k_is); (case g8 => k_get); (case g9 => k_handed); k_whole)
  k_with "d29" => (refine' method_inst ?g1 ?g2 ?g3 ?g4 ?g5 ?g6 ?g7 ?_; (case g1 => k_extra "w"); (case g2 => k_extra "w"); k_extra "d60"; (case g4 => k_is); (case g5 => k_is); (case g6 => k_is); (case g7 => k_get); k_whole)
  k_with "d30" => (refine List.nodup_cons.mpr ⟨(by (first | (refine' nin_led ?nh ?ne; (case nh => k_extra "w"); (case ne => exact rfl)) | (refine nin_allLt ?_; first | k_extra "w" | assumption) | ((refine nin_lt ?_); simp +zetaDelta only [ads, List.map_cons, List.map_nil, List.forall_mem_cons, List.not_mem_nil, false_imp_iff, implies_true, and_true]; first | done | assumption | (with_reducible (rename _ < _ ∧ _ => l7); simp only [l7, and_self]; first | done | fail)))), ?_⟩)
  k_with "d31" => (case qS => k_extra "d33")
  k_with "d32" => (try (first | k_extra "d207" | (with_reducible show wpAny _ _ (eval (Expr.List _ _) _) _ _ _) | (with_reducible show wpAny _ _ (eval (Expr.Tuple _ _ _) _) _ _ _) | (with_reducible show wpAny _ _ (eval (Expr.BinOp _ _ _ _) _) _ _ _) | (with_reducible show wpAny _ _ (eval (Expr.Subscript _ _ _) _) _ _ _)); (first | (fail_if_success k_fold) | (refine' fold_ ?_; intro qk ek)))
  k_with "d33" => (first | ((repeat (first | exact List.nil_sublist _ | exact List.Sublist.refl _ | k_extra "d131" | refine List.Sublist.cons _ ?_)); first | done | fail) | k_extra "d311")
  k_with "d34" => (first | ((repeat (first | exact List.Sublist.refl _ | exact List.nil_sublist _ | k_extra "d131" | refine List.Sublist.cons _ ?_)); first | done | fail) | ((repeat (first | exact List.Sublist.refl _ | exact List.nil_sublist _ | k_extra "d265" | refine List.Sublist.cons _ ?_)); first | done | fail))
  k_with "d35" => (case qS => k_extra "d36")
  k_with "d36" => (first | ((repeat (first | exact List.nil_sublist _ | k_extra "d131" | refine List.Sublist.cons _ ?_)); first | done | fail) | (k_extra "d127"; first | done | fail))
  k_with "d37" => (case ud0 => k_extra "d42")
  k_with "d38" => (case ud1 => k_extra "d42")
  k_with "d39" => (case ud2 => k_extra "d42")
  k_with "d40" => (case udN => k_extra "d42")
  k_with "d41" => (repeat (first | (refine' Sel.here2 ?sea ?seb ?_; k_extra "d268"; k_extra "d234"; k_extra "d311") | (apply Sel.take) | apply Sel.skip))
  k_with "d42" => (first | ((repeat (first | exact Emb.none _ | exact Emb.nil | k_extra "d128" | apply Emb.skip)); first | done | fail) | ((repeat (first | exact Emb.none _ | exact Emb.nil | (apply Emb.take) | apply Emb.skip)); first | done | fail))
  k_with "d43" => (refine' unpackN_ ?uk1 ?uk2 ?uk3 ?uk4 ?uk5 ?uk6 ?_; (case uk1 => k_extra "w"); (case uk2 => k_extra "w"); k_extra "d126"; (case uk4 => exact rfl); (case uk5 => exact rfl); (case uk6 => exact rfl); k_whole)
  k_with "d44" => (case ud0 => k_extra "d57")
  k_with "d45" => (case ud1 => k_extra "d57")
  k_with "d46" => (case ud2 => k_extra "d57")
  k_with "d47" => (case udN => k_extra "d57")
  k_with "d48" => (first | (refine' Ev.nameL ?a4e ?b4e ?c4e; (case c4e => kernel_rfl); (case a4e => k_extra "w"); (case b4e => exact rfl)) | (refine' Ev.nameK ?aa4e ?ax4e ?at4e ?ab4e ?ac4e; (case ac4e => kernel_rfl); (case aa4e => k_extra "w"); (case ax4e => k_extra "w"); (case at4e => k_extra "w"); (case ab4e => k_is)))
  k_with "d49" => (first | (refine' Ev.nameL ?a3e ?b3e ?c3e; (case c3e => kernel_rfl); (case a3e => k_extra "w"); (case b3e => exact rfl)) | (refine' Ev.nameK ?aa3e ?ax3e ?at3e ?ab3e ?ac3e; (case ac3e => kernel_rfl); (case aa3e => k_extra "w"); (case ax3e => k_extra "w"); (case at3e => k_extra "w"); (case ab3e => k_is)))
  k_with "d50" => (first | (refine' Ev.nameL ?a2e ?b2e ?c2e; (case c2e => kernel_rfl); (case a2e => k_extra "w"); (case b2e => exact rfl)) | (refine' Ev.nameK ?aa2e ?ax2e ?at2e ?ab2e ?ac2e; (case ac2e => kernel_rfl); (case aa2e => k_extra "w"); (case ax2e => k_extra "w"); (case at2e => k_extra "w"); (case ab2e => k_is)))
  k_with "d51" => (first | (refine' Ev.nameL ?a1e ?b1e ?c1e; (case c1e => kernel_rfl); (case a1e => k_extra "w"); (case b1e => exact rfl)) | (refine' Ev.nameK ?aa1e ?ax1e ?at1e ?ab1e ?ac1e; (case ac1e => kernel_rfl); (case aa1e => k_extra "w"); (case ax1e => k_extra "w"); (case at1e => k_extra "w"); (case ab1e => k_is)))
  k_with "d52" => (first | (refine' Ev.nameL ?a0e ?b0e ?c0e; (case c0e => kernel_rfl); (case a0e => k_extra "w"); (case b0e => exact rfl)) | (refine' Ev.nameK ?aa0e ?ax0e ?at0e ?ab0e ?ac0e; (case ac0e => kernel_rfl); (case aa0e => k_extra "w"); (case ax0e => k_extra "w"); (case at0e => k_extra "w"); (case ab0e => k_is)))
  k_with "d53" => (case oI3e => (first | (refine' inst_ss ?ia3 ?ib3 ?ic3; (case ia3 => k_extra "w"); (case ib3 => k_extra "w"); (case ic3 => k_extra "w")) | (refine' inst_sn ?ia3 ?iN3 ?ib3 ?ic3; (case ia3 => k_extra "w"); (case iN3 => k_extra "w"); (case ib3 => k_extra "w"); (case ic3 => k_extra "MEM")) | k_inst))
  k_with "d54" => (case oI2e => (first | (refine' inst_ss ?ia2 ?ib2 ?ic2; (case ia2 => k_extra "w"); (case ib2 => k_extra "w"); (case ic2 => k_extra "w")) | (refine' inst_sn ?ia2 ?iN2 ?ib2 ?ic2; (case ia2 => k_extra "w"); (case iN2 => k_extra "w"); (case ib2 => k_extra "w"); (case ic2 => k_extra "MEM")) | k_inst))
  k_with "d55" => (case oI1e => (first | (refine' inst_ss ?ia1 ?ib1 ?ic1; (case ia1 => k_extra "w"); (case ib1 => k_extra "w"); (case ic1 => k_extra "w")) | (refine' inst_sn ?ia1 ?iN1 ?ib1 ?ic1; (case ia1 => k_extra "w"); (case iN1 => k_extra "w"); (case ib1 => k_extra "w"); (case ic1 => k_extra "MEM")) | k_inst))
  k_with "d56" => (case oI0e => (first | (refine' inst_ss ?ia0 ?ib0 ?ic0; (case ia0 => k_extra "w"); (case ib0 => k_extra "w"); (case ic0 => k_extra "w")) | (refine' inst_sn ?ia0 ?iN0 ?ib0 ?ic0; (case ia0 => k_extra "w"); (case iN0 => k_extra "w"); (case ib0 => k_extra "w"); (case ic0 => k_extra "MEM")) | k_inst))
  k_with "d57" => (first | ((repeat (first | exact Emb.nil | k_extra "d128" | apply Emb.skip)); first | done | fail) | ((repeat (first | exact Emb.nil | (apply Emb.take) | apply Emb.skip)); first | done | fail))
  k_with "d58" => (refine' unpackItemsN_ ?uk1 ?uk2 ?uk3 ?uk4 ?uk5 ?_; (case uk1 => k_extra "w"); (case uk2 => k_extra "w"); k_extra "d126"; (case uk4 => exact rfl); (case uk5 => exact rfl); k_whole)
  k_with "d59" => (case mI => k_extra "d61")
  k_with "d60" => (case g3 => first | k_extra "d146" | k_extra "d108")
  k_with "d61" => (first | k_extra "d146" | k_extra "d108" | k_inst)
  k_with "d62" => (case si6 => k_extra "d65")
  k_with "d63" => (case po4 => k_extra "d65")
  k_with "d64" => (refine LCg.CompSrc.ledger (by rfl) (by k_asm) (by k_asm) (by k_extra "d308") (by first | exact Nat.le_of_ble_eq_true rfl | size_fits) ?_)
  k_with "d65" => (first | ((repeat (first | (refine' Rep.head2 ?rpa ?rpb; (case rpa => with_reducible rfl); (case rpb => first | with_reducible rfl | rfl)) | apply Rep.tail)); first | done | fail) | (repeat (first | exact Rep.head | apply Rep.tail)))
  k_with "d66" => (repeat (first | assumption | (exact nd_sw1 (by assumption)) | k_extra "d168" | refine nd_allLt (by assumption) ?_ | refine nd_allLt (allLt_of (by assumption)) ?_))
  k_with "d67" => (k_dflt (refine' enterC (binds := [(Str.ofString "self", .ref x), (Str.ofString "points", .ref pts), (Str.ofString "ends", .ref (nat_lit 1263)), (Str.ofString "on_curve", .none)]) ?k1 ?k6 ?k7 ?k8 ?k9 ?kB ?kD ?_ ?c2 ?c3 ?c4))
  k_with "d68" => (refine' WhileStep.intro (n' := n1) ?e1 ?e2 ?e3 ?e4; (case e1 => k_extra "w"); (case e2 => k_extra "w"); (case e3 => exact Nat.lt_succ_self _); exact ⟨rfl, _, _, _, _, _, _, rfl, ‹_›, ha9.trans ha1, G9, by (k_extra "o")⟩)
  k_with "d69" => (refine' call_nm0 ?cF ?cX ?cT ?cv ?cc ?ck ?ce ?_; (case cF => k_extra "w"); (case cX => k_extra "w"); (case cT => k_extra "w"); (case cc => kernel_rfl); (case cv => k_is); (case ck => k_is); (case ce => rfl); k_whole)
  k_with "d70" => (exact nd_subl (by assumption) (by ((dsimp only [ads, List.map]); (k_extra "d127"; first | done | fail))))
  k_with "d71" => (repeat (first | assumption | k_extra "d168" | refine nd_allLt (by assumption) ?_ | refine nd_allLt (allLt_of (by assumption)) ?_))
  k_with "d72" => (refine' item_tupleT ?jt ?ja ?jb ?jc ?jd ?_; (case jt => exact News.isTup (by k_extra "w") (by k_extra "MEM")); (case ja => decide); (case jb => decide); (case jc => rfl); (case jd => rfl); k_whole)
  k_with "d73" => (refine List.nodup_cons.mpr ⟨(by ((refine nin_ne ?_); simp only [ads, List.map_cons, List.map_nil, List.forall_mem_cons, List.not_mem_nil, false_imp_iff, implies_true, and_true]; assumption)), ?_⟩)
  k_with "d74" => (case b9C => (intro H9 g9 n9; exact Facts.obj (n9 _ _ (by k_extra "d308")) Facts.nil))
  k_with "d75" => (refine' item_tupleT ?jt ?ja ?jb ?jc ?jd ?_; (case jt => exact Fr.tup (by k_extra "w") (by k_extra "w")); (case ja => decide); (case jb => decide); (case jc => rfl); (case jd => rfl); k_whole)
  k_with "d76" => (refine' Ev.fdiv ?v14e ?v24e ?v34e ?v44e; (case v14e => fail); (case v24e => fail); (case v34e => first | k_extra "w" | decide | (k_extra "o")); (case v44e => first | decide | (k_extra "o")))
  k_with "d77" => (repeat (first | exact List.nil_sublist _ | exact List.Sublist.refl _ | exact List.sublist_append_right _ _ | k_extra "d265" | refine List.Sublist.cons _ ?_))
  k_with "d78" => (case la3 => exact News.isList (by k_extra "w") (by k_extra "d308"))
  k_with "d79" => (k_dflt (refine' enter (binds := [(Str.ofString "self", .ref S), (Str.ofString "dx", .int x tx), (Str.ofString "dy", .int y ty)]) ?k1 ?k6 ?k7 ?k8 ?k9 ?kB ?_ ?c2 ?c3 ?c4 ?c5))
  k_with "d80" => (k_dflt (refine' enter (binds := [(Str.ofString "state", .ref S), (Str.ofString "one", .ref u), (Str.ofString "other", .ref v)]) ?k1 ?k6 ?k7 ?k8 ?k9 ?kB ?_ ?c2 ?c3 ?c4 ?c5))
  k_with "d81" => (k_dflt (refine' enter (binds := [(Str.ofString "state", .ref S), (Str.ofString "zone", .ref z), (Str.ofString "i", .int i t)]) ?k1 ?k6 ?k7 ?k8 ?k9 ?kB ?_ ?c2 ?c3 ?c4 ?c5))
  k_with "d82" => (refine' storeX_Lq ?stF ?stN ?stc ?_; (case stF => k_extra "w"); (case stN => k_extra "w"); (case stc => exact Eq.refl true); k_whole; intro qm tqq h' F' N'; (try k_sweep))
  k_with "d83" => (case qhd => k_extra "d94")
  k_with "d84" => (case qhu => k_extra "d94")
  k_with "d85" => (case b2B => k_extra "d94")
  k_with "d86" => (case b3B => k_extra "d94")
  k_with "d87" => (case b2W => k_extra "d94")
  k_with "d88" => (case b3W => k_extra "d94")
  k_with "d89" => (case b2C => k_extra "d94")
  k_with "d90" => (case b3C => k_extra "d94")
  k_with "d91" => (refine' hr _ _ _ _ ?h1 ?h2 ?h3; (case h1 => k_extra "d228"; exact hdX); (case h2 => k_extra "w"); (case h3 => k_extra "P1"))
  k_with "d92" => (case l4 => first | assumption | (refine' slc ?sq1 ?sq2 ?sq3 ?sq4 ?sq5 ?sq6 ?sq7; (case sq1 => assumption); (case sq7 => assumption); all_goals (k_extra "o")))
  k_with "d93" => (k_dflt (refine' enter (binds := [(Str.ofString "places", .ref ps), (Str.ofString "turns", .int (M : Int) tM)]) ?k1 ?k6 ?k7 ?k8 ?k9 ?kB ?_ ?c2 ?c3 ?c4 ?c5))
  k_with "d94" => (first | exact room (by assumption) rfl | exact room2 (by assumption) rfl | exact room1 (by assumption) rfl | k_extra "d248")
  k_with "d95" => (case b8W => k_extra "d309")
  k_with "d96" => (k_dflt (refine' enter (binds := [(Str.ofString "state", .ref S), (Str.ofString "distance", .int dd td)]) ?k1 ?k6 ?k7 ?k8 ?k9 ?kB ?_ ?c2 ?c3 ?c4 ?c5))
  k_with "d97" => (refine' kun_lenL ?g1 ?g2 ?g3 ?_; (case g1 => exact Fr.lst' (by k_extra "w") (by k_extra "w")); (case g2 => kun_count); (case g3 => decide); k_whole)
  k_with "d98" => (k_dflt (refine' enter (binds := [(Str.ofString "code", .bytes b tb), (Str.ofString "at", .int i ti)]) ?k1 ?k6 ?k7 ?k8 ?k9 ?kB ?_ ?c2 ?c3 ?c4 ?c5))
  k_with "d99" => (first | exact room (by assumption) rfl | exact room2 (by assumption) rfl | exact room1 (by assumption) rfl | (dsimp only [Around.deeper]; omega))
  k_with "d100" => (k_dflt (refine' enter (binds := [(Str.ofString "work", .ref W), (Str.ofString "code", .int 70 tc)]) ?k1 ?k6 ?k7 ?k8 ?k9 ?kB ?_ ?c2 ?c3 ?c4 ?c5))
  k_with "d101" => (k_dflt (refine' enter (binds := [(Str.ofString "work", .ref W), (Str.ofString "code", .int 46 tc)]) ?k1 ?k6 ?k7 ?k8 ?k9 ?kB ?_ ?c2 ?c3 ?c4 ?c5))
  k_with "d102" => (k_dflt (refine' enter (binds := [(Str.ofString "work", .ref W), (Str.ofString "code", .int 69 tc)]) ?k1 ?k6 ?k7 ?k8 ?k9 ?kB ?_ ?c2 ?c3 ?c4 ?c5))
  k_with "d103" => (case u5 => first | k_ne | (refine' ne_nd ?na ?nb; (case na => k_extra "w"); (case nb => k_extra "MEM")) | (intro q9; subst q9; simp_all; done))
  k_with "d104" => (repeat (first | exact List.nil_sublist _ | exact List.Sublist.refl _ | k_extra "d265" | refine List.Sublist.cons _ ?_))
  k_with "d105" => (fail_if_success (first | (with_reducible show Ev _ _ (compEnvC _ _ _ _) _ _ _ _) | (with_reducible show Ev _ _ (envOfC _ _ _ _ _) _ _ _ _)))
  k_with "d106" => (k_dflt (refine' enter (binds := [(Str.ofString "self", .ref z), (Str.ofString "i", .int i t)]) ?k1 ?k6 ?k7 ?k8 ?k9 ?kB ?_ ?c2 ?c3 ?c4 ?c5))
  k_with "d107" => (refine LCg.CompSrc.base (by rfl) (by k_asm) (by k_asm) (isl (by k_extra "w")) (by first | exact Nat.le_of_ble_eq_true rfl | size_fits) ?_)
  k_with "d108" => (refine' inst_sn ?ia ?iN ?ib ?ic; (case ia => k_extra "w"); (case iN => k_extra "w"); (case ib => k_extra "w"); (case ic => k_extra "MEM"))
  k_with "d109" => (refine' Ev.fmod ?w14e ?w24e ?w34e; (case w14e => fail); (case w24e => fail); (case w34e => first | k_extra "w" | decide | (k_extra "o")))
  k_with "d110" => (refine LCt.CompSrcT.ledger (by rfl) (by k_asm) (by k_asm) (by k_mem) (by first | exact Nat.le_of_ble_eq_true rfl | size_fits) ?_)
  k_with "d111" => (with_reducible show wpAny _ _ (callWith _ (Value.ref _) _ (backTo _ (starEach (_ :: _) _)) (backToKw _ (keywordEach _ _))) _ _ _)
  k_with "d112" => (refine LCg.CompSrc.ledger (by rfl) (by k_asm) (by k_asm) (by k_mem) (by first | exact Nat.le_of_ble_eq_true rfl | size_fits) ?_)
  k_with "d113" => (refine' restA (its := [.ref q0, .ref q1, .ref q2]) (fun _ o => o = lsO [.bool false, .bool false] 0) ?rs2 ?rh2 ?rn2 ?rf2 ?rg2)
  k_with "d114" => (case tt4e => first | exact Fr.lst' (by k_extra "w") (by k_extra "w") | exact News.isList (by k_extra "w") (by k_extra "MEM"))
  k_with "d115" => (case tt3e => first | exact Fr.lst' (by k_extra "w") (by k_extra "w") | exact News.isList (by k_extra "w") (by k_extra "MEM"))
  k_with "d116" => (case tt2e => first | exact Fr.lst' (by k_extra "w") (by k_extra "w") | exact News.isList (by k_extra "w") (by k_extra "MEM"))
  k_with "d117" => (case tt1e => first | exact Fr.lst' (by k_extra "w") (by k_extra "w") | exact News.isList (by k_extra "w") (by k_extra "MEM"))
  k_with "d118" => (case tt0e => first | exact Fr.lst' (by k_extra "w") (by k_extra "w") | exact News.isList (by k_extra "w") (by k_extra "MEM"))
  k_with "d119" => (try dsimp only [ads, List.map, List.reverse, List.reverseAux, List.nil_append, List.cons_append, List.append_eq] at N9 nd9)
  k_with "d120" => (case st4e => first | exact Fr.tup (by k_extra "w") (by k_extra "w") | exact News.isTup (by k_extra "w") (by k_extra "MEM"))
  k_with "d121" => (case st3e => first | exact Fr.tup (by k_extra "w") (by k_extra "w") | exact News.isTup (by k_extra "w") (by k_extra "MEM"))
  k_with "d122" => (case st2e => first | exact Fr.tup (by k_extra "w") (by k_extra "w") | exact News.isTup (by k_extra "w") (by k_extra "MEM"))
  k_with "d123" => (case st1e => first | exact Fr.tup (by k_extra "w") (by k_extra "w") | exact News.isTup (by k_extra "w") (by k_extra "MEM"))
  k_with "d124" => (case st0e => first | exact Fr.tup (by k_extra "w") (by k_extra "w") | exact News.isTup (by k_extra "w") (by k_extra "MEM"))
  k_with "d125" => (refine' Ev.mul ?u14e ?u24e ?u34e; (case u14e => fail); (case u24e => fail); (case u34e => first | k_extra "w" | mul_fits))
  k_with "d126" => (case uk3 => first | exact Fr.tup (by k_extra "w") (by k_extra "w") | exact News.isTup (by k_extra "w") (by k_extra "MEM"))
  k_with "d127" => (repeat (first | exact List.nil_sublist _ | k_extra "d265" | refine List.Sublist.cons _ ?_))
  k_with "d128" => (refine' Emb.take2 ?ema ?emb ?_; (case ema => with_reducible rfl); (case emb => first | with_reducible rfl | rfl))
  k_with "d129" => (repeat (first | assumption | refine nd_allLt (by assumption) ?_ | refine nd_allLt (allLt_of (by assumption)) ?_))
  k_with "d130" => (refine' callWith_KW ?cwa ?cwb ?cwc ?_; (case cwa => k_asm); (case cwb => k_is); (case cwc => exact rfl); k_whole)
  k_with "d131" => (refine' sub_take ?sua ?sub ?_; (case sua => with_reducible rfl); (case sub => first | with_reducible rfl | rfl))
  k_with "d132" => (k_dflt (refine' enter (binds := [(Str.ofString "self", .ref c.M)]) ?k1 ?k6 ?k7 ?k8 ?k9 ?kB ?_ ?c2 ?c3 ?c4 ?c5))
  k_with "d133" => (case k9 => first | exact BindsTo.of_eq rfl | exact binds_K (Pre.kin (by assumption)) rfl (by k_is) rfl rfl rfl)
  k_with "d134" => (case tc4e => first | exact rfl | exact (IxR.out (by k_extra "w")).symm | exact (IxT.out (by k_extra "w")).symm)
  k_with "d135" => (case tc3e => first | exact rfl | exact (IxR.out (by k_extra "w")).symm | exact (IxT.out (by k_extra "w")).symm)
  k_with "d136" => (case tc2e => first | exact rfl | exact (IxR.out (by k_extra "w")).symm | exact (IxT.out (by k_extra "w")).symm)
  k_with "d137" => (case tc1e => first | exact rfl | exact (IxR.out (by k_extra "w")).symm | exact (IxT.out (by k_extra "w")).symm)
  k_with "d138" => (case tc0e => first | exact rfl | exact (IxR.out (by k_extra "w")).symm | exact (IxT.out (by k_extra "w")).symm)
  k_with "d139" => (case wJ => exact ⟨rfl, 0, tk, 0, ti, Ω, [], by rw [List.append_nil], by k_extra "w", rfl, G, by (k_extra "o")⟩)
  k_with "d140" => (k_dflt (refine' enter (binds := [(Str.ofString "self", .ref pl)]) ?k1 ?k6 ?k7 ?k8 ?k9 ?kB ?_ ?c2 ?c3 ?c4 ?c5))
  k_with "d141" => (case tS => exact (List.Sublist.cons_cons _ (List.Sublist.cons _ (List.Sublist.cons _ (List.Sublist.refl _)))))
  k_with "d142" => (k_dflt (refine' enter (binds := [(Str.ofString "self", .ref M)]) ?k1 ?k6 ?k7 ?k8 ?k9 ?kB ?_ ?c2 ?c3 ?c4 ?c5))
  k_with "d143" => (k_dflt (refine' enter (binds := [(Str.ofString "self", .ref x)]) ?k1 ?k6 ?k7 ?k8 ?k9 ?kB ?_ ?c2 ?c3 ?c4 ?c5))
  k_with "d144" => (k_dflt (refine' enter (binds := [(Str.ofString "self", .ref z)]) ?k1 ?k6 ?k7 ?k8 ?k9 ?kB ?_ ?c2 ?c3 ?c4 ?c5))
  k_with "d145" => (try dsimp only [List.reverse, List.reverseAux, List.nil_append, List.cons_append, List.append_eq] at N9 nd9)
  k_with "d146" => (refine' inst_ss ?ia ?ib ?ic; (case ia => k_extra "w"); (case ib => k_extra "w"); (case ic => k_extra "w"))
  k_with "d147" => (refine kcj_end ?kce (by with_unfolding_all rfl) rfl (by assumption) (by assumption) (fun p hp => hp))
  k_with "d148" => (repeat (first | exact List.Mem.head _ | apply List.mem_append_right | refine List.Mem.tail _ ?_))
  k_with "d149" => (case ulN => ((dsimp only [ads, List.map, List.nil_append, List.cons_append]); (try exact rfl)))
  k_with "d150" => (with_reducible show wpAny _ _ (exec (Stmt.Assign [Expr.Name _ _] (Expr.Dict _ _ _) _) _) _ _ _)
  k_with "d151" => (with_reducible show wpAny _ _ (eval (Expr.Call (Expr.Attribute _ _ _) (_ :: _) [] _) _) _ _ _)
  k_with "d152" => (with_reducible show wpAny _ _ (call (Value.builtin "list.append") [Value.ref _, _]) _ _ _)
  k_with "d153" => (case jc => first | rfl | exact IxR.out (by k_extra "w") | exact IxT.out (by k_extra "w"))
  k_with "d154" => (with_reducible show wpAny _ _ (eval (Expr.Call (Expr.Attribute _ _ _) [] [] _) _) _ _ _)
  k_with "d155" => (with_reducible show wpAny _ _ (binaryOp Operator.Add (Value.ref _) (Value.ref _)) _ _ _)
  k_with "d156" => (with_reducible show wpAny _ _ (eval (Expr.Call (Expr.Name _ _) (_ :: _) [] _) _) _ _ _)
  k_with "d157" => (with_reducible show wpAny _ _ (subscriptTail _ _ (Value.ref _) (Value.int _ _)) _ _ _)
  k_with "d158" => (with_reducible show wpAny _ _ (compareOp CmpOp.Eq (Value.ref _) (Value.ref _)) _ _ _)
  k_with "d159" => (with_reducible show wpAny _ _ (isTrue (Expr.Compare _ [CmpOp.NotEq] _ _) _ _) _ _ _)
  k_with "d160" => (with_reducible show wpAny _ _ (isTrue (Expr.Compare _ [CmpOp.LtE] _ _) _ _) _ _ _)
  k_with "d161" => (with_reducible show wpAny _ _ (isTrue (Expr.Compare _ [CmpOp.GtE] _ _) _ _) _ _ _)
  k_with "d162" => (with_reducible show wpAny _ _ (eval (Expr.Call (Expr.Name _ _) [] [] _) _) _ _ _)
  k_with "d163" => (with_reducible show wpAny _ _ (isTrue (Expr.Compare _ [CmpOp.Lt] _ _) _ _) _ _ _)
  k_with "d164" => (with_reducible show wpAny _ _ (isTrue (Expr.Compare _ [CmpOp.Gt] _ _) _ _) _ _ _)
  k_with "d165" => (with_reducible show wpAny _ _ (isTrue (Expr.Compare _ [CmpOp.Eq] _ _) _ _) _ _ _)
  k_with "d166" => (with_reducible show wpAny _ _ (call (Value.type "list") [Value.bytes _ _]) _ _ _)
  k_with "d167" => (fail_if_success (with_reducible show LCt.CompSrcT _ _ _ _ _ _ _ _ _ _ _ _ _ _ _))
  k_with "d168" => (refine' nd_led ?nlh ?nle ?_; (case nlh => k_extra "w"); (case nle => exact rfl))
  k_with "d169" => (with_reducible show wpAny _ _ (assign (Expr.Tuple _ _ _) _ (Value.ref _)) _ _ _)
  k_with "d170" => (first | exact Nat.lt_succ_self _ | exact Nat.lt_succ_of_lt (Nat.lt_succ_self _))
  k_with "d171" => (repeat (first | exact List.mem_append_left frs hm | refine List.Mem.tail _ ?_))
  k_with "d172" => (with_reducible show wpAny _ _ (exec (Stmt.Assign [Expr.Name _ _] _ _) _) _ _ _)
  k_with "d173" => (with_reducible show wpAny _ _ (call (Value.builtin "len") [Value.ref _]) _ _ _)
  k_with "d174" => (with_reducible show wpAny _ _ (call (Value.ref (nat_lit 1300)) [_, _] _) _ _ _)
  k_with "d175" => (case db => first | exact Or.inl (Nat.le_of_ble_eq_true rfl) | exact Or.inr rfl)
  k_with "d176" => (with_reducible show wpAny _ _ (setItem (Value.ref _) (Value.int _ _) _) _ _ _)
  k_with "d177" => (fail_if_success (with_reducible show LCg.CompSrc _ _ _ _ _ _ _ _ _ _ _ _ _ _))
  k_with "d178" => (case k8 => first | exact room0 (by assumption) | (dsimp only; (k_extra "o")))
  k_with "d179" => (with_reducible show wpAny _ _ (call (Value.type "list") [Value.ref _]) _ _ _)
  k_with "d180" => (refine' restK (its := [.ref q0, .ref q1, .ref q2]) (fun v => v) ?rs ?rh ?rf)
  k_with "d181" => (with_reducible show wpAny _ _ (isTrue (Expr.Compare _ [_] [_] _) _ _) _ _ _)
  k_with "d182" => (with_reducible show wpAny _ _ (call (Value.ref (nat_lit 1300)) [_] _) _ _ _)
  k_with "d183" => (with_reducible show wpAny _ _ (call (Value.builtin "dict.update") _) _ _ _)
  k_with "d184" => (with_reducible show wpAny _ _ (call (Value.ref (nat_lit 1244)) _ _) _ _ _)
  k_with "d185" => (try (first | (fail_if_success k_fold) | (refine' fold_ ?_; intro qk ek)))
  k_with "d186" => (with_reducible show wpAny _ _ (call (Value.builtin "list.pop") _) _ _ _)
  k_with "d187" => (with_reducible show wpAny _ _ (call (Value.ref (nat_lit 1283)) _) _ _ _)
  k_with "d188" => (with_reducible show wpAny _ _ (call (Value.ref (nat_lit 1220)) _) _ _ _)
  k_with "d189" => (with_reducible show wpAny _ _ (call (Value.ref (nat_lit 1162)) _) _ _ _)
  k_with "d190" => (with_reducible show wpAny _ _ (call (Value.ref (nat_lit 1155)) _) _ _ _)
  k_with "d191" => (with_reducible show wpAny _ _ (call (Value.ref (nat_lit 1276)) _) _ _ _)
  k_with "d192" => (with_reducible show wpAny _ _ (call (Value.ref (nat_lit 1332)) _) _ _ _)
  k_with "d193" => (with_reducible show wpAny _ _ (call (Value.ref (nat_lit 1339)) _) _ _ _)
  k_with "d194" => (with_reducible show wpAny _ _ (unpackItems (Value.ref _) _ none) _ _ _)
  k_with "d195" => (with_reducible show wpAny _ _ (call (Value.ref (nat_lit 290)) _) _ _ _)
  k_with "d196" => (with_reducible show wpAny _ _ (call (Value.ref (nat_lit 388)) _) _ _ _)
  k_with "d197" => (with_reducible show wpAny _ _ (call (Value.ref (nat_lit 304)) _) _ _ _)
  k_with "d198" => (with_reducible show wpAny _ _ (call (Value.ref (nat_lit 198)) _) _ _ _)
  k_with "d199" => (with_reducible show wpAny _ _ (call (Value.ref (nat_lit 191)) _) _ _ _)
  k_with "d200" => (with_reducible show wpAny _ _ (call (Value.ref (nat_lit 205)) _) _ _ _)
  k_with "d201" => (with_reducible show wpAny _ _ (call (Value.ref (nat_lit 149)) _) _ _ _)
  k_with "d202" => (refine' Ev.subi ?q14e ?q24e; (case q14e => fail); (case q24e => fail))
  k_with "d203" => (refine' Ev.add ?p14e ?p24e; (case p14e => fail); (case p24e => fail))
  k_with "d204" => (try dsimp -zeta only [List.set, List.nil_append, List.cons_append])
  k_with "d205" => (k_dflt (refine' enter ?k1 ?k6 ?k7 ?k8 ?k9 ?kB ?_ ?c2 ?c3 ?c4 ?c5))
  k_with "d206" => (with_reducible show wpAny _ _ (getMethod (Value.ref _) _ _) _ _ _)
  k_with "d207" => (with_reducible show wpAny _ _ (eval (Expr.Call _ _ _ _) _) _ _ _)
  k_with "d208" => (fail_if_success (with_reducible show wpAny _ _ (pyIter _) _ _ _))
  k_with "d209" => (repeat (first | exact IntsAre.nil | refine IntsAre.cons _ _ ?_))
  k_with "d210" => (with_reducible show wpAny _ _ (setAttr (Value.ref _) _ _) _ _ _)
  k_with "d211" => (with_reducible show wpAny _ _ (getAttr (Value.ref _) _ _) _ _ _)
  k_with "d212" => (try dsimp only [List.cons_append, List.nil_append] at N9 nd9)
  k_with "d213" => (with_reducible show wpAny _ _ (call (Value.ref _) _ _) _ _ _)
  k_with "d214" => (case jl => exact Fr.lst' (by k_extra "w") (by k_extra "w"))
  k_with "d215" => (first | (with_reducible show wpAny _ _ _ _ _ _) | k_unfold)
  k_with "d216" => (with_reducible show Ev _ _ _ _ (Expr.Attribute _ _ _) _ _)
  k_with "d217" => (with_reducible show Ev _ _ _ _ (Expr.Subscript _ _ _) _ _)
  k_with "d218" => (with_reducible show Ev _ _ _ _ (Expr.Constant _ _ _) _ _)
  k_with "d219" => (try dsimp only [List.nil_append, List.cons_append] at N9)
  k_with "d220" => (with_reducible show Ev _ _ _ _ (Expr.BinOp _ _ _ _) _ _)
  k_with "d221" => (case qi0 => first | assumption | (k_extra "o") | decide)
  k_with "d222" => (case qi1 => first | assumption | (k_extra "o") | decide)
  k_with "d223" => (case u7 => exact Nat.le_of_ble_eq_true (by kernel_rfl))
  k_with "d224" => (with_reducible show wpAny _ _ (storeName _ _ _) _ _ _)
  k_with "d225" => (first | exact Ev.int | exact Ev.bool | exact Ev.str)
  k_with "d226" => (with_reducible show Ev _ _ _ _ (Expr.Name _ _) _ _)
  k_with "d227" => (with_reducible show wpAny _ _ (call _ _ _) _ _ _)
  k_with "d228" => (with_reducible rename Obj.IsDictOf _ _ _ => hdX)
  k_with "d229" => (with_reducible show wpAny _ _ (eval _ _) _ _ _)
  k_with "d230" => (with_reducible show wpAny _ _ (exec _ _) _ _ _)
  k_with "d231" => (case qgTx => first | exact ⟨rfl⟩ | k_extra "w")
  k_with "d232" => (case qgIx => first | exact ⟨rfl⟩ | k_extra "w")
  k_with "d233" => (case dh => exact Top.nolimit (by k_extra "w"))
  k_with "d234" => (case seb => first | with_reducible rfl | rfl)
  k_with "d235" => (case sd3e => intro _; with_unfolding_all rfl)
  k_with "d236" => (case td3e => intro _; with_unfolding_all rfl)
  k_with "d237" => (case sd2e => intro _; with_unfolding_all rfl)
  k_with "d238" => (case td2e => intro _; with_unfolding_all rfl)
  k_with "d239" => (case sd1e => intro _; with_unfolding_all rfl)
  k_with "d240" => (case td1e => intro _; with_unfolding_all rfl)
  k_with "d241" => (case sd0e => intro _; with_unfolding_all rfl)
  k_with "d242" => (case td0e => intro _; with_unfolding_all rfl)
  k_with "d243" => (case u33e => first | k_extra "w" | mul_fits)
  k_with "d244" => (case u32e => first | k_extra "w" | mul_fits)
  k_with "d245" => (case u31e => first | k_extra "w" | mul_fits)
  k_with "d246" => (case u30e => first | k_extra "w" | mul_fits)
  k_with "d247" => (fail_if_success (fail_if_success k_unfold))
  k_with "d248" => (dsimp only [Around.deeper]; (k_extra "o"))
  k_with "d249" => (case sa3e => first | decide | k_extra "w")
  k_with "d250" => (case ta3e => first | decide | k_extra "w")
  k_with "d251" => (case sa2e => first | decide | k_extra "w")
  k_with "d252" => (case ta2e => first | decide | k_extra "w")
  k_with "d253" => (case sa1e => first | decide | k_extra "w")
  k_with "d254" => (case ta1e => first | decide | k_extra "w")
  k_with "d255" => (case sa0e => first | decide | k_extra "w")
  k_with "d256" => (case ta0e => first | decide | k_extra "w")
  k_with "d257" => (with_reducible show KCj _ _ _ _ _ _ _ _ _)
  k_with "d258" => (case ja => first | decide | k_extra "w")
  k_with "d259" => (first | k_extra "asgAC" | k_extra "SEX")
  k_with "d260" => (first | k_extra "cellr" | k_extra "SEV")
  k_with "d261" => (try dsimp only [ads, List.map] at nd')
  k_with "d262" => (try dsimp only [ads, List.map] at nd8)
  k_with "d263" => (case dc => exact List.cons_ne_nil _ _)
  k_with "d264" => (with_reducible refine' Facts.k hT ?_)
  k_with "d265" => (refine List.Sublist.cons_cons _ ?_)
  k_with "d266" => (refine' tab_end ?tF ?tN ?tA ?tD)
  k_with "d267" => (try dsimp -zeta only [List.set])
  k_with "d268" => (case sea => with_reducible rfl)
  k_with "d269" => (k_extra "d264"; intro hT0 hT1 hT2 hT3 hT4 hT5 hT6 hT7 hT8 hT9 hT10 hT11 hT12; clear hT; (try dsimp only [FactsK]))
  k_with "d270" => (k_extra "d264"; intro hT0 hT1 hT2 hT3 hT4 hT5 hT6 hT7 hT8 hT9 hT10 hT11; clear hT; (try dsimp only [FactsK]))
  k_with "d271" => (k_extra "d266"; (case tF => k_asm); (case tN => k_asm); (case tA => exact AtX.of); (case tD => assumption))
  k_with "d272" => (k_extra "d186"; (try dsimp only); k_dflt k_extra "d5"; k_extra "d204"; intro qN h' F' N'; (try k_sweep))
  k_with "d273" => (k_extra "d264"; intro hT0 hT1 hT2 hT3 hT4 hT5 hT6 hT7; clear hT; (try dsimp only [FactsK]))
  k_with "d274" => (k_extra "d264"; intro hT0 hT1 hT2 hT3 hT4 hT5 hT6; clear hT; (try dsimp only [FactsK]))
  k_with "d275" => (k_extra "d176"; k_dflt k_extra "d2"; k_extra "d204"; intro qN h' F' N'; (try k_sweep))
  k_with "d276" => (k_extra "d152"; k_dflt k_extra "d4"; k_extra "d204"; intro qN h' F' N'; (try k_sweep))
  k_with "d277" => (k_extra "d176"; k_dflt k_extra "d3"; k_extra "d204"; intro qN h' F' N'; (try k_sweep))
  k_with "d278" => (k_extra "d264"; intro hT0 hT1 hT2 hT3 hT4 hT5; clear hT; (try dsimp only [FactsK]))
  k_with "d279" => (k_extra "d264"; intro hT0 hT1 hT2 hT3 hT4; clear hT; (try dsimp only [FactsK]))
  k_with "d280" => (k_extra "d213"; (first | k_extra "lheld" | k_extra "lnear" | k_extra "SCL"))
  k_with "d281" => (k_extra "d264"; intro hT0 hT1 hT2 hT3; clear hT; (try dsimp only [FactsK]))
  k_with "d282" => (k_extra "d213"; (first | k_extra "lfar" | k_extra "lpool" | k_extra "SCL"))
  k_with "d283" => (k_extra "d264"; intro hT0 hT1 hT2; clear hT; (try dsimp only [FactsK]))
  k_with "d284" => (k_extra "d229"; k_extra "d32"; (first | k_extra "lcu" | k_extra "SEV"))
  k_with "d285" => (k_extra "d229"; k_extra "d32"; (first | k_extra "lct" | k_extra "SEV"))
  k_with "d286" => (k_extra "d169"; k_dflt k_extra "d43"; intro h' F' N'; (try k_sweep))
  k_with "d287" => (k_extra "d194"; k_dflt k_extra "d58"; intro h' F' N'; (try k_sweep))
  k_with "d288" => (k_extra "d264"; intro hT0 hT1; clear hT; (try dsimp only [FactsK]))
  k_with "d289" => (k_extra "d264"; intro hT0; clear hT; (try dsimp only [FactsK]))
  k_with "d290" => (k_extra "d257"; kpf_tidy; k_extra "d147"; (case kce => kpf_eq))
  k_with "d291" => (k_extra "d213"; (first | k_extra "count3" | k_extra "SCL"))
  k_with "d292" => (k_extra "d230"; k_extra "d185"; (first | k_extra "SEX"))
  k_with "d293" => (k_extra "d229"; k_extra "d32"; (first | k_extra "SEV3"))
  k_with "d294" => (k_extra "d229"; k_extra "d32"; (first | k_extra "SEV"))
  k_with "d295" => (k_extra "d247"; k_extra "d215"; (try dsimp only))
  k_with "d296" => (k_extra "d230"; k_extra "d185"; k_extra "d259")
  k_with "d297" => (k_extra "d226"; k_extra "d105"; k_extra "d48")
  k_with "d298" => (k_extra "d226"; k_extra "d105"; k_extra "d49")
  k_with "d299" => (k_extra "d226"; k_extra "d105"; k_extra "d50")
  k_with "d300" => (k_extra "d226"; k_extra "d105"; k_extra "d51")
  k_with "d301" => (k_extra "d226"; k_extra "d105"; k_extra "d52")
  k_with "d302" => (k_extra "d111"; k_here; k_dflt k_extra "d130")
  k_with "d303" => (k_extra "d229"; k_extra "d32"; k_extra "d260")
  k_with "d304" => (k_extra "d213"; (first | k_extra "SCL"))
  k_with "d305" => (k_extra "d211"; k_dflt k_extra "d28")
  k_with "d306" => (k_extra "d206"; k_dflt k_extra "d29")
  k_with "d307" => (k_extra "d173"; k_dflt k_extra "d97")
  k_with "d308" => (k_extra "d148"; first | done | fail)
  k_with "d309" => (k_extra "d129"; first | done | fail)
  k_with "d310" => (k_extra "d210"; k_dflt k_extra "d1")
  k_with "d311" => (k_extra "d104"; first | done | fail)
  k_with "d312" => (k_extra "d27"; first | done | fail)
  k_with "d313" => (k_extra "d16"; first | done | fail)
  k_with "d314" => (k_extra "d71"; first | done | fail)
  k_with "d315" => (k_extra "d77"; first | done | fail)
  k_with "d316" => (k_extra "d66"; first | done | fail)
  k_with "d317" => (k_extra "d218"; k_extra "d225")
  k_with "d318" => (k_extra "d227"; dsimp only)
  exact trivial
end
section
open PySem PySem.W PySem.Calls PySem.Spec PyProof.Rows
variable {B V1 V2 a c0 c1 c2 d0' d1' d2' dd i j kq op u0 u1 v x x0 x1 x2 y y0 y1 y2 : Int} {Fin Rel : Objs → Objs → Prop} {G : Prop} {H g h h' hH : Heap} {KW N N' Nw frs new o' objs Ω : Objs} {L M Sd W Wd a0 a1 a2 ai b c cl cv d dx e f k kd l md o od ol p pl pld ps pts r0 r1 r2 rd ri s0 s1 s2 sc sg so th z zb zd zs : Addr} {Q : Value → Shared → Prop} {R : Result → Shared → Prop} {T T0 T1 : List Fact} {b0 b1 b2 b3 : Bool} {d0 d1 f0 f1 g0' g1' g2' h0 h1 h2 h3 h5 o0x o0y o1x o1y o2x o2y p0 p0x p0y p1 p1x p1y p2x p2y q0 q1 q2 t t0 t1 t2 tA tB tM ta tb tc td te ti tm tmc tms to tu tv tx ty : Tok} {dD dr : Drawn} {dp m0 m1 m2 n n0 nc ne no np nq nz tT tk un : Nat} {env : Env} {fr : Option (List Env)} {gG gs : Array GenState} {gd : Option (List Code)} {gk gt mt pt qk ts wn wt zt : Nat → Tok} {ks ns r : List Int} {kvs : List (Int × Value)} {lo : List Str} {lp rp0 rp1 rp2 zp0 zp1 zp2 : Value} {m mb mg : Str → Option Value} {mean : ExcName → Option Value} {oO os : OsState} {oo : Obj} {outer : List Env} {pos : Pos} {qa : Nat → Addr} {qb : Nat → Bool} {qi : Nat → Int} {qn : Nat → Nat} {qt : Nat → Nat → Tok} {qv : Nat → Value} {u2 : Tok → Tok} {vs : List Value} {w : World} {σ : Shared}
section
noncomputable abbrev en (w : World) (x : String) (t : Tok) (v : Value) : DictEntry := ⟨PyData.keyHash w.params (Str.ofString x), .str (Str.ofString x) t, v⟩
noncomputable abbrev stkD (w : World) (ts : Nat → Tok) (tm : Tok) (l : Addr) : Obj := dictOf [en w "most" (ts 0) (.int 64 tm), en w "numbers" (ts 1) (.ref l)] 2
noncomputable abbrev gsD (w : World) (ts tk : Nat → Tok) (f p d : Addr) (rp0 rp1 rp2 zp0 zp1 zp2 lp : Value) (rd : Addr) : Obj := dictOf [en w "freedom" (ts 0) (.ref f), en w "projection" (ts 1) (.ref p), en w "dual" (ts 2) (.ref d), en w "rp0" (ts 3) rp0, en w "rp1" (ts 4) rp1, en w "rp2" (ts 5) rp2, en w "zp0" (ts 6) zp0, en w "zp1" (ts 7) zp1, en w "zp2" (ts 8) zp2, en w "loop" (ts 9) lp, en w "minimum" (ts 10) (.int 64 (tk 0)), en w "cut_in" (ts 11) (.int 68 (tk 1)), en w "single_cut_in" (ts 12) (.int 0 (tk 2)), en w "single_width" (ts 13) (.int 0 (tk 3)), en w "delta_base" (ts 14) (.int 9 (tk 4)), en w "delta_shift" (ts 15) (.int 3 (tk 5)), en w "auto_flip" (ts 16) (.bool true), en w "rounding" (ts 17) (.ref rd)] 18
noncomputable abbrev znD (w : World) (ts : Nat → Tok) (o c t e b : Addr) : Obj := dictOf [en w "original" (ts 0) (.ref o), en w "current" (ts 1) (.ref c), en w "touched" (ts 2) (.ref t), en w "ends" (ts 3) (.ref e), en w "on_curve" (ts 4) (.ref b)] 5
noncomputable abbrev wkD (w : World) (ts tk : Nat → Tok) (st sk zs cv sg sc : Addr) : Obj := dictOf [en w "state" (ts 0) (.ref st), en w "stack" (ts 1) (.ref sk), en w "zones" (ts 2) (.ref zs), en w "cvt" (ts 3) (.ref cv), en w "storage" (ts 4) (.ref sg), en w "ppem" (ts 5) (.int 12 (tk 0)), en w "point_size" (ts 6) (.int 768 (tk 1)), en w "scale" (ts 7) (.ref sc)] 8
noncomputable abbrev lsO (l : List Value) (n : Nat) : Obj := listOf l.toArray n
noncomputable abbrev tupO (l : List Value) : Obj := { cls := .type "tuple", data := .seq l.toArray }
noncomputable def wrapZ (n : Int) : Int := Int.fmod (n + 2147483648) 4294967296 - 2147483648
theorem wrap_ct {n : Int} (hd : dp + 1 < recursionLimit) (hu : un + 74 < cLine) (P : Pre w hH [] [])
    (hr : ∀ h' tk' t', Post hH h' [] [] [] → R (.ok (.ret (.int (wrapZ n) t'))) ⟨h', gG, dD, tk', oO⟩) : codeAny (model PR w) (AA dp un fr gd) (.call (.ref 318) ⟨[.int n t], []⟩) R ⟨hH, gG, dD, tT, oO⟩ := by
  k_extra "d205"; k_extra "ENT"; k_extra "d261"; (clear hT)
  k_extra "z"
  all_goals exact hr _ _ _ (by k_extra "P0")
noncomputable def mdZ (p c : Int) : Int := if p < 0 then 0 - Int.fdiv (0 - 2 * p + c) (2 * c) else Int.fdiv (2 * p + c) (2 * c)
noncomputable def muldivZ (a b c : Int) : Int := if c < 0 then mdZ (0 - a * b) (0 - c) else mdZ (a * b) c
theorem muldiv_ct {b c : Int} (hd : dp + 1 < recursionLimit) (hu : un + 74 < cLine) (P : Pre w hH [] []) (xm : IntMulOk a b) (c0 : c ≠ 0) (c1 : -(2 ^ 28) ≤ c) (c2 : c < 2 ^ 28)
    (hr : ∀ h' tk' t', Post hH h' [] [] [] → R (.ok (.ret (.int (muldivZ a b c) t'))) ⟨h', gG, dD, tk', oO⟩) : codeAny (model PR w) (AA dp un fr gd) (.call (.ref 290) ⟨[.int a ta, .int b tb, .int c tc], []⟩) R ⟨hH, gG, dD, tT, oO⟩ := by
  have hr' : ∀ x h' tk' t', x = muldivZ a b c → Post hH h' [] [] [] → R (.ok (.ret (.int x t'))) ⟨h', gG, dD, tk', oO⟩ := fun x h' tk' t' e p => e ▸ hr h' tk' t' p
  clear hr
  k_extra "d205"; k_extra "ENT"; k_extra "d261"; (clear hT)
  k_extra "z"
  all_goals exact hr' _ _ _ _ (by (unfold muldivZ mdZ; repeat' split) <;> first | rfl | (k_extra "o")) (by k_extra "P0")
theorem dot_ct {v : Addr} (hd : dp + 2 < recursionLimit) (hu : un + 78 < cLine) (P : Pre w hH [] [.tup v [.int (16384) t0, .int 0 t1]])
    (hr : ∀ h' tk' t', Post hH h' [] [] [] → R (.ok (.ret (.int x t'))) ⟨h', gG, dD, tk', oO⟩) : codeAny (model PR w) (AA dp un fr gd) (.call (.ref 311) ⟨[.int x tx, .int y ty, .ref v], []⟩) R ⟨hH, gG, dD, tT, oO⟩ := by
  (k_dflt (refine' enter (binds := [(Str.ofString "x", .int x tx), (Str.ofString "y", .int y ty), (Str.ofString "vector", .ref v)]) ?k1 ?k6 ?k7 ?k8 ?k9 ?kB ?_ ?c2 ?c3 ?c4 ?c5)); k_extra "ENT"; k_extra "d261"; k_extra "d289"
  have e : muldivZ (x * 16384 + y * 0) 1 16384 = x := by
    unfold muldivZ mdZ
    rw [if_neg (by decide)]
    split
    · rw [show 0 - Int.fdiv (0 - 2 * ((x * 16384 + y * 0) * 1) + 16384) (2 * 16384) = x from ?_]
      have := Int.fdiv_eq_ediv_of_nonneg (0 - 2 * ((x * 16384 + y * 0) * 1) + 16384) (show (0:Int) ≤ 2 * 16384 by decide)
      rw [this]; (k_extra "o")
    · have := Int.fdiv_eq_ediv_of_nonneg (2 * ((x * 16384 + y * 0) * 1) + 16384) (show (0:Int) ≤ 2 * 16384 by decide)
      rw [this]; (k_extra "o")
  k_extra "z2"
  rw [e]
  all_goals exact hr _ _ _ (by k_extra "P0")
theorem md_one {c : Int} (hc : 0 < c) : muldivZ a c c = a := by
  unfold muldivZ mdZ
  rw [if_neg (by (k_extra "o"))]
  have e1 : Int.fdiv (0 - 2 * (a * c) + c) (2 * c) = -a := by
    rw [Int.fdiv_eq_ediv_of_nonneg _ (by (k_extra "o")), show 0 - 2 * (a * c) + c = c + (2 * c) * (-a) from by rw [Int.mul_assoc, Int.mul_comm c (-a), Int.neg_mul, Int.mul_neg]; (k_extra "o"), Int.add_mul_ediv_left _ _ (by (k_extra "o")), Int.ediv_eq_zero_of_lt (by (k_extra "o")) (by (k_extra "o"))]
    (k_extra "o")
  have e2 : Int.fdiv (2 * (a * c) + c) (2 * c) = a := by
    rw [Int.fdiv_eq_ediv_of_nonneg _ (by (k_extra "o")), show 2 * (a * c) + c = c + (2 * c) * a from by rw [Int.mul_assoc, Int.mul_comm c a]; (k_extra "o"), Int.add_mul_ediv_left _ _ (by (k_extra "o")), Int.ediv_eq_zero_of_lt (by (k_extra "o")) (by (k_extra "o"))]
    (k_extra "o")
  split
  · rw [e1]; (k_extra "o")
  · exact e2
theorem md_zero : muldivZ a 0 16384 = 0 := by unfold muldivZ mdZ; rw [Int.mul_zero]; decide
theorem mdone_ct (hd : dp + 1 < recursionLimit) (hu : un + 74 < cLine) (P : Pre w hH [] [])
    (hr : ∀ h' tk' t', Post hH h' [] [] [] → R (.ok (.ret (.int a t'))) ⟨h', gG, dD, tk', oO⟩) : codeAny (model PR w) (AA dp un fr gd) (.call (.ref 290) ⟨[.int a ta, .int 16384 tb, .int 16384 tc], []⟩) R ⟨hH, gG, dD, tT, oO⟩ :=
  muldiv_ct hd hu P (.of_right (by decide)) (by decide) (by decide) (by decide) (by rw [md_one (by decide)]; exact hr)
theorem mdzero_ct (hd : dp + 1 < recursionLimit) (hu : un + 74 < cLine) (P : Pre w hH [] [])
    (hr : ∀ h' tk' t', Post hH h' [] [] [] → R (.ok (.ret (.int 0 t'))) ⟨h', gG, dD, tk', oO⟩) : codeAny (model PR w) (AA dp un fr gd) (.call (.ref 290) ⟨[.int a ta, .int 0 tb, .int 16384 tc], []⟩) R ⟨hH, gG, dD, tT, oO⟩ :=
  muldiv_ct hd hu P (.of_right (by decide)) (by decide) (by decide) (by decide) (by rw [md_zero]; exact hr)
end
section
theorem pushG_ct {xs : List Value} (hd : dp + 2 < recursionLimit) (hu : un + 78 < cLine) (P : Pre w hH [(l, lsO xs n0)] [.obj k (instObj 1193 kd), .obj kd (stkD w ts tm l)]) (hx : (xs.length : Int) < 64)
    (hr : ∀ h' tk' t' n', Post hH h' [(l, lsO xs n0)] [(l, lsO (xs ++ [.int (wrapZ v) t']) n')] [] → R (.ok (.ret .none)) ⟨h', gG, dD, tk', oO⟩) : codeAny (model PR w) (AA dp un fr gd) (.call (.ref 1155) ⟨[.ref k, .int v t], []⟩) R ⟨hH, gG, dD, tT, oO⟩ := by
  (k_dflt (refine' enter (binds := [(Str.ofString "self", .ref k), (Str.ofString "number", .int v t)]) ?k1 ?k6 ?k7 ?k8 ?k9 ?kB ?_ ?c2 ?c3 ?c4 ?c5)); k_extra "ENT"; k_extra "d261"; k_extra "d288"
  k_extra "z3"
  all_goals first | (exfalso; (k_extra "o")) | ((replace N' : News g0 L' h' [(l, W.listOf (xs.toArray.push (.int (wrapZ v) t9)) (n0 + 1))] := N'); rw [List.push_toArray] at N'; exact hr _ _ _ _ (by k_extra "P0"))
theorem popG_ct {p : List Value} {y : Value} {js : List Int} (hd : dp + 1 < recursionLimit) (hu : un + 74 < cLine) (P : Pre w hH [(l, lsO vs n0)] [.obj k (instObj 1193 kd), .obj kd (stkD w ts tm l)]) (hI : IntsAre vs (j :: js)) (he : kl_last vs = some (p, y)) (hz : vs.length ≤ 64)
    (hr : ∀ h' tk' n', Post hH h' [(l, lsO vs n0)] [(l, lsO p n')] [] → R (.ok (.ret y)) ⟨h', gG, dD, tk', oO⟩) : codeAny (model PR w) (AA dp un fr gd) (.call (.ref 1162) ⟨[.ref k], []⟩) R ⟨hH, gG, dD, tT, oO⟩ := by
  (k_dflt (refine' enter (binds := [(Str.ofString "self", .ref k)]) ?k1 ?k6 ?k7 ?k8 ?k9 ?kB ?_ ?c2 ?c3 ?c4 ?c5)); k_extra "ENT"; k_extra "d261"; k_extra "d288"
  k_extra "z4"
  all_goals first | exact hr _ _ _ (by k_extra "P0") | (exact absurd (by assumption) (List.cons_ne_nil j js)) | (exfalso; simp_all; done)
theorem push0_ct (hd : dp + 2 < recursionLimit) (hu : un + 78 < cLine) (P : Pre w hH [(l, lsO [] n0)] [.obj k (instObj 1193 kd), .obj kd (stkD w ts tm l)])
    (hr : ∀ h' tk' t' n', Post hH h' [(l, lsO [] n0)] [(l, lsO [.int (wrapZ v) t'] n')] [] → R (.ok (.ret .none)) ⟨h', gG, dD, tk', oO⟩) : codeAny (model PR w) (AA dp un fr gd) (.call (.ref 1155) ⟨[.ref k, .int v t], []⟩) R ⟨hH, gG, dD, tT, oO⟩ := by
  exact pushG_ct (xs := []) hd hu P (by decide : (0 : Int) < 64) hr
theorem pop0_ct (hd : dp + 1 < recursionLimit) (hu : un + 74 < cLine) (P : Pre w hH [(l, lsO [.int x t] n0)] [.obj k (instObj 1193 kd), .obj kd (stkD w ts tm l)])
    (hr : ∀ h' tk' n', Post hH h' [(l, lsO [.int x t] n0)] [(l, lsO [] n')] [] → R (.ok (.ret (.int x t))) ⟨h', gG, dD, tk', oO⟩) : codeAny (model PR w) (AA dp un fr gd) (.call (.ref 1162) ⟨[.ref k], []⟩) R ⟨hH, gG, dD, tT, oO⟩ := by
  exact popG_ct (vs := [.int x t]) (p := []) hd hu P (.cons _ _ IntsAre.nil) rfl (by decide : 1 ≤ 64) hr
theorem push1_ct (hd : dp + 2 < recursionLimit) (hu : un + 78 < cLine) (P : Pre w hH [(l, lsO [.int x0 t0] n0)] [.obj k (instObj 1193 kd), .obj kd (stkD w ts tm l)])
    (hr : ∀ h' tk' t' n', Post hH h' [(l, lsO [.int x0 t0] n0)] [(l, lsO [.int x0 t0, .int (wrapZ v) t'] n')] [] → R (.ok (.ret .none)) ⟨h', gG, dD, tk', oO⟩) : codeAny (model PR w) (AA dp un fr gd) (.call (.ref 1155) ⟨[.ref k, .int v t], []⟩) R ⟨hH, gG, dD, tT, oO⟩ := by
  exact pushG_ct (xs := [.int x0 t0]) hd hu P (by decide : (1 : Int) < 64) hr
theorem pop1_ct (hd : dp + 1 < recursionLimit) (hu : un + 74 < cLine) (P : Pre w hH [(l, lsO [.int x0 t0, .int x t] n0)] [.obj k (instObj 1193 kd), .obj kd (stkD w ts tm l)])
    (hr : ∀ h' tk' n', Post hH h' [(l, lsO [.int x0 t0, .int x t] n0)] [(l, lsO [.int x0 t0] n')] [] → R (.ok (.ret (.int x t))) ⟨h', gG, dD, tk', oO⟩) : codeAny (model PR w) (AA dp un fr gd) (.call (.ref 1162) ⟨[.ref k], []⟩) R ⟨hH, gG, dD, tT, oO⟩ := by
  exact popG_ct (vs := [.int x0 t0, .int x t]) (p := [.int x0 t0]) hd hu P (.cons _ _ (.cons _ _ IntsAre.nil)) rfl (by decide : 2 ≤ 64) hr
theorem push2_ct (hd : dp + 2 < recursionLimit) (hu : un + 78 < cLine) (P : Pre w hH [(l, lsO [.int x0 t0, .int x1 t1] n0)] [.obj k (instObj 1193 kd), .obj kd (stkD w ts tm l)])
    (hr : ∀ h' tk' t' n', Post hH h' [(l, lsO [.int x0 t0, .int x1 t1] n0)] [(l, lsO [.int x0 t0, .int x1 t1, .int (wrapZ v) t'] n')] [] → R (.ok (.ret .none)) ⟨h', gG, dD, tk', oO⟩) : codeAny (model PR w) (AA dp un fr gd) (.call (.ref 1155) ⟨[.ref k, .int v t], []⟩) R ⟨hH, gG, dD, tT, oO⟩ := by
  exact pushG_ct (xs := [.int x0 t0, .int x1 t1]) hd hu P (by decide : (2 : Int) < 64) hr
theorem pop2_ct (hd : dp + 1 < recursionLimit) (hu : un + 74 < cLine) (P : Pre w hH [(l, lsO [.int x0 t0, .int x1 t1, .int x t] n0)] [.obj k (instObj 1193 kd), .obj kd (stkD w ts tm l)])
    (hr : ∀ h' tk' n', Post hH h' [(l, lsO [.int x0 t0, .int x1 t1, .int x t] n0)] [(l, lsO [.int x0 t0, .int x1 t1] n')] [] → R (.ok (.ret (.int x t))) ⟨h', gG, dD, tk', oO⟩) : codeAny (model PR w) (AA dp un fr gd) (.call (.ref 1162) ⟨[.ref k], []⟩) R ⟨hH, gG, dD, tT, oO⟩ := by
  exact popG_ct (vs := [.int x0 t0, .int x1 t1, .int x t]) (p := [.int x0 t0, .int x1 t1]) hd hu P (.cons _ _ (.cons _ _ (.cons _ _ IntsAre.nil))) rfl (by decide : 3 ≤ 64) hr
theorem push3_ct (hd : dp + 2 < recursionLimit) (hu : un + 78 < cLine) (P : Pre w hH [(l, lsO [.int x0 t0, .int x1 t1, .int x2 t2] n0)] [.obj k (instObj 1193 kd), .obj kd (stkD w ts tm l)])
    (hr : ∀ h' tk' t' n', Post hH h' [(l, lsO [.int x0 t0, .int x1 t1, .int x2 t2] n0)] [(l, lsO [.int x0 t0, .int x1 t1, .int x2 t2, .int (wrapZ v) t'] n')] [] → R (.ok (.ret .none)) ⟨h', gG, dD, tk', oO⟩) : codeAny (model PR w) (AA dp un fr gd) (.call (.ref 1155) ⟨[.ref k, .int v t], []⟩) R ⟨hH, gG, dD, tT, oO⟩ := by
  exact pushG_ct (xs := [.int x0 t0, .int x1 t1, .int x2 t2]) hd hu P (by decide : (3 : Int) < 64) hr
theorem pop3_ct (hd : dp + 1 < recursionLimit) (hu : un + 74 < cLine) (P : Pre w hH [(l, lsO [.int x0 t0, .int x1 t1, .int x2 t2, .int x t] n0)] [.obj k (instObj 1193 kd), .obj kd (stkD w ts tm l)])
    (hr : ∀ h' tk' n', Post hH h' [(l, lsO [.int x0 t0, .int x1 t1, .int x2 t2, .int x t] n0)] [(l, lsO [.int x0 t0, .int x1 t1, .int x2 t2] n')] [] → R (.ok (.ret (.int x t))) ⟨h', gG, dD, tk', oO⟩) : codeAny (model PR w) (AA dp un fr gd) (.call (.ref 1162) ⟨[.ref k], []⟩) R ⟨hH, gG, dD, tT, oO⟩ := by
  exact popG_ct (vs := [.int x0 t0, .int x1 t1, .int x2 t2, .int x t]) (p := [.int x0 t0, .int x1 t1, .int x2 t2]) hd hu P (.cons _ _ (.cons _ _ (.cons _ _ (.cons _ _ IntsAre.nil)))) rfl (by decide : 4 ≤ 64) hr
end
section
theorem check_ct (hd : dp + 1 < recursionLimit) (hu : un + 74 < cLine) (P : Pre w hH [] [.obj z (instObj 1300 zd), .obj zd (znD w zt o c th e b), .obj c (lsO [.ref r0, .ref r1, .ref r2] n)]) (i0 : 0 ≤ i) (i1 : i < 3)
    (hr : ∀ h' tk' , Post hH h' [] [] [] → R (.ok (.ret (.int i t))) ⟨h', gG, dD, tk', oO⟩) : codeAny (model PR w) (AA dp un fr gd) (.call (.ref 1283) ⟨[.ref z, .int i t], []⟩) R ⟨hH, gG, dD, tT, oO⟩ := by
  k_extra "d106"; k_extra "ENT"; k_extra "d261"; k_extra "d283"
  k_extra "z"
  all_goals first | (apply hr; k_extra "P0") | (apply hr; k_extra "P1") | k_extra "ABS"
theorem held_ct {q : Addr} (hd : dp + 2 < recursionLimit) (hu : un + 78 < cLine) (P : Pre w hH [] [.tup q [.int x tx, .int y ty]])
    (hr : ∀ h' tk' r t1 t2, Post hH h' [] [] [(r, tupO [.int (wrapZ x) t1, .int (wrapZ y) t2])] → R (.ok (.ret (.ref r))) ⟨h', gG, dD, tk', oO⟩) : codeAny (model PR w) (AA dp un fr gd) (.call (.ref 1255) ⟨[.ref q], []⟩) R ⟨hH, gG, dD, tT, oO⟩ := by
  (k_dflt (refine' enter (binds := [(Str.ofString "place", .ref q)]) ?k1 ?k6 ?k7 ?k8 ?k9 ?kB ?_ ?c2 ?c3 ?c4 ?c5)); k_extra "ENT"; k_extra "d261"; k_extra "d289"
  k_extra "z5"
  all_goals first | (apply hr; k_extra "P0") | (apply hr; k_extra "P1") | k_extra "ABS"
theorem put_ct {q : Addr} (hd : dp + 3 < recursionLimit) (hu : un + 82 < cLine) (P : Pre w hH [(c, lsO [.ref r0, .ref r1, .ref r2] n)] [.obj z (instObj 1300 zd), .obj zd (znD w zt o c th e b), .tup q [.int x tx, .int y ty]]) (i0 : 0 ≤ i) (i1 : i < 3)
    (hr : ∀ h' tk' r t1 t2 n', Post hH h' [(c, lsO [.ref r0, .ref r1, .ref r2] n)] [(c, lsO ([.ref r0, .ref r1, .ref r2].set i.toNat (.ref r)) n')] [(r, tupO [.int (wrapZ x) t1, .int (wrapZ y) t2])] → R (.ok (.ret .none)) ⟨h', gG, dD, tk', oO⟩) : codeAny (model PR w) (AA dp un fr gd) (.call (.ref 1290) ⟨[.ref z, .int i t, .ref q], []⟩) R ⟨hH, gG, dD, tT, oO⟩ := by
  (k_dflt (refine' enter (binds := [(Str.ofString "self", .ref z), (Str.ofString "i", .int i t), (Str.ofString "place", .ref q)]) ?k1 ?k6 ?k7 ?k8 ?k9 ?kB ?_ ?c2 ?c3 ?c4 ?c5)); k_extra "ENT"; k_extra "d261"; k_extra "d283"
  k_extra "z6"
  all_goals first | (apply hr; k_extra "P0") | (apply hr; k_extra "P1") | k_extra "ABS"
theorem projected_ct {S : Addr} (hd : dp + 3 < recursionLimit) (hu : un + 82 < cLine) (P : Pre w hH [] [.obj S (instObj 1130 Sd), .obj Sd (gsD w gt gk f p d rp0 rp1 rp2 zp0 zp1 zp2 lp rd), .tup p [.int 16384 p0, .int 0 p1]])
    (hr : ∀ h' tk' t', Post hH h' [] [] [] → R (.ok (.ret (.int x t'))) ⟨h', gG, dD, tk', oO⟩) : codeAny (model PR w) (AA dp un fr gd) (.call (.ref 1113) ⟨[.ref S, .int x tx, .int y ty], []⟩) R ⟨hH, gG, dD, tT, oO⟩ := by
  k_extra "d79"; k_extra "ENT"; k_extra "d261"; k_extra "d283"
  k_extra "z7"
  all_goals first | (apply hr; k_extra "P0") | (apply hr; k_extra "P1") | k_extra "ABS"
theorem dualp_ct {S : Addr} (hd : dp + 3 < recursionLimit) (hu : un + 82 < cLine) (P : Pre w hH [] [.obj S (instObj 1130 Sd), .obj Sd (gsD w gt gk f p d rp0 rp1 rp2 zp0 zp1 zp2 lp rd), .tup d [.int 16384 d0, .int 0 d1]])
    (hr : ∀ h' tk' t', Post hH h' [] [] [] → R (.ok (.ret (.int x t'))) ⟨h', gG, dD, tk', oO⟩) : codeAny (model PR w) (AA dp un fr gd) (.call (.ref 1120) ⟨[.ref S, .int x tx, .int y ty], []⟩) R ⟨hH, gG, dD, tT, oO⟩ := by
  k_extra "d79"; k_extra "ENT"; k_extra "d261"; k_extra "d283"
  k_extra "z7"
  all_goals first | (apply hr; k_extra "P0") | (apply hr; k_extra "P1") | k_extra "ABS"
theorem freedot_ct {S : Addr} (hd : dp + 3 < recursionLimit) (hu : un + 82 < cLine) (P : Pre w hH [] [.obj S (instObj 1130 Sd), .obj Sd (gsD w gt gk f p d rp0 rp1 rp2 zp0 zp1 zp2 lp rd), .tup f [.int 16384 f0, .int 0 f1], .tup p [.int 16384 p0, .int 0 p1]])
    (hr : ∀ h' tk' t', Post hH h' [] [] [] → R (.ok (.ret (.int 16384 t'))) ⟨h', gG, dD, tk', oO⟩) : codeAny (model PR w) (AA dp un fr gd) (.call (.ref 1106) ⟨[.ref S], []⟩) R ⟨hH, gG, dD, tT, oO⟩ := by
  (k_dflt (refine' enter (binds := [(Str.ofString "self", .ref S)]) ?k1 ?k6 ?k7 ?k8 ?k9 ?kB ?_ ?c2 ?c3 ?c4 ?c5)); k_extra "ENT"; k_extra "d261"; k_extra "d281"
  k_extra "z7"
  all_goals first | (apply hr; k_extra "P0") | (apply hr; k_extra "P1") | k_extra "ABS"
end
section
theorem touch_ct {S : Addr} {m : Nat} (hd : dp + 1 < recursionLimit) (hu : un + 74 < cLine) (P : Pre w hH [(ai, lsO [.bool b0, .bool b1] m2)] [.obj S (instObj 1130 Sd), .obj Sd (gsD w gt gk f p d rp0 rp1 rp2 zp0 zp1 zp2 lp rd), .obj z (instObj 1300 zd), .obj zd (znD w zt o c th e b), .obj th (lsO [.ref a0, .ref a1, .ref a2] m), .tup f [.int 16384 f0, .int 0 f1]]) (gTx : IxT [.ref a0, .ref a1, .ref a2] i ai) (i0 : 0 ≤ i) (i1 : i < 3)
    (hr : ∀ h' tk' , Post hH h' [(ai, lsO [.bool b0, .bool b1] m2)] [(ai, lsO [.bool true, .bool b1] m2)] [] → R (.ok (.ret .none)) ⟨h', gG, dD, tk', oO⟩) : codeAny (model PR w) (AA dp un fr gd) (.call (.ref 395) ⟨[.ref S, .ref z, .int i t], []⟩) R ⟨hH, gG, dD, tT, oO⟩ := by
  k_extra "d81"; k_extra "ENT"; k_extra "d261"; k_extra "d278"
  k_extra "z"
  all_goals first | (apply hr; k_extra "P0") | (apply hr; k_extra "P1") | k_extra "ABS"
theorem stepof_ct {S : Addr} (hd : dp + 4 < recursionLimit) (hu : un + 86 < cLine) (P : Pre w hH [] [.obj S (instObj 1130 Sd), .obj Sd (gsD w gt gk f p d rp0 rp1 rp2 zp0 zp1 zp2 lp rd), .tup f [.int 16384 f0, .int 0 f1], .tup p [.int 16384 p0, .int 0 p1]])
    (hr : ∀ h' tk' r t1 t2, Post hH h' [] [] [(r, tupO [.int dd t1, .int 0 t2])] → R (.ok (.ret (.ref r))) ⟨h', gG, dD, tk', oO⟩) : codeAny (model PR w) (AA dp un fr gd) (.call (.ref 402) ⟨[.ref S, .int dd td], []⟩) R ⟨hH, gG, dD, tT, oO⟩ := by
  k_extra "d96"; k_extra "ENT"; k_extra "d261"; k_extra "d281"
  k_extra "z8"
  all_goals first | (apply hr; k_extra "P0") | (apply hr; k_extra "P1") | k_extra "ABS"
theorem place_ct {S : Addr} (hd : dp + 4 < recursionLimit) (hu : un + 86 < cLine) (P : Pre w hH [] [.obj S (instObj 1130 Sd), .obj Sd (gsD w gt gk f p d rp0 rp1 rp2 zp0 zp1 zp2 lp rd), .obj z (instObj 1300 zd), .obj zd (znD w zt o c th e b), .obj c (lsO [.ref r0, .ref r1, .ref r2] n), .tup p [.int 16384 p0, .int 0 p1], .tup ri [.int x tx, .int y ty]]) (gIx : IxR [.ref r0, .ref r1, .ref r2] i ri) (i0 : 0 ≤ i) (i1 : i < 3)
    (hr : ∀ h' tk' t', Post hH h' [] [] [] → R (.ok (.ret (.int x t'))) ⟨h', gG, dD, tk', oO⟩) : codeAny (model PR w) (AA dp un fr gd) (.call (.ref 388) ⟨[.ref S, .ref z, .int i t], []⟩) R ⟨hH, gG, dD, tT, oO⟩ := by
  k_extra "d81"; k_extra "ENT"; k_extra "d261"; k_extra "d274"
  k_extra "z9"
  all_goals first | (apply hr; k_extra "P0") | (apply hr; k_extra "P1") | k_extra "ABS"
theorem measured_ct {S : Addr} {u v : Addr} {x' y' : Int} {tx' ty' : Tok} (hd : dp + 4 < recursionLimit) (hu : un + 86 < cLine) (P : Pre w hH [] [.obj S (instObj 1130 Sd), .obj Sd (gsD w gt gk f p d rp0 rp1 rp2 zp0 zp1 zp2 lp rd), .tup p [.int 16384 p0, .int 0 p1], .tup u [.int x tx, .int y ty], .tup v [.int x' tx', .int y' ty']])
    (hr : ∀ h' tk' t', Post hH h' [] [] [] → R (.ok (.ret (.int (x - x') t'))) ⟨h', gG, dD, tk', oO⟩) : codeAny (model PR w) (AA dp un fr gd) (.call (.ref 374) ⟨[.ref S, .ref u, .ref v], []⟩) R ⟨hH, gG, dD, tT, oO⟩ := by
  k_extra "d80"; k_extra "ENT"; k_extra "d261"; k_extra "d279"
  k_extra "z10"
  all_goals first | (apply hr; k_extra "P0") | (apply hr; k_extra "P1") | k_extra "ABS"
theorem dmeasured_ct {S : Addr} {u v : Addr} {x' y' : Int} {tx' ty' : Tok} (hd : dp + 4 < recursionLimit) (hu : un + 86 < cLine) (P : Pre w hH [] [.obj S (instObj 1130 Sd), .obj Sd (gsD w gt gk f p d rp0 rp1 rp2 zp0 zp1 zp2 lp rd), .tup d [.int 16384 d0, .int 0 d1], .tup u [.int x tx, .int y ty], .tup v [.int x' tx', .int y' ty']])
    (hr : ∀ h' tk' t', Post hH h' [] [] [] → R (.ok (.ret (.int (x - x') t'))) ⟨h', gG, dD, tk', oO⟩) : codeAny (model PR w) (AA dp un fr gd) (.call (.ref 381) ⟨[.ref S, .ref u, .ref v], []⟩) R ⟨hH, gG, dD, tT, oO⟩ := by
  k_extra "d80"; k_extra "ENT"; k_extra "d261"; k_extra "d279"
  k_extra "z11"
  all_goals first | (apply hr; k_extra "P0") | (apply hr; k_extra "P1") | k_extra "ABS"
theorem shifted_ct {S : Addr} {m : Nat} {st : Addr} (hd : dp + 4 < recursionLimit) (hu : un + 86 < cLine) (P : Pre w hH [(c, lsO [.ref r0, .ref r1, .ref r2] n), (ai, lsO [.bool b0, .bool b1] m2)] [.obj S (instObj 1130 Sd), .obj Sd (gsD w gt gk f p d rp0 rp1 rp2 zp0 zp1 zp2 lp rd), .obj z (instObj 1300 zd), .obj zd (znD w zt o c th e b), .obj th (lsO [.ref a0, .ref a1, .ref a2] m), .tup f [.int 16384 f0, .int 0 f1], .tup ri [.int x tx, .int y ty], .tup st [.int dd td, .int 0 te]]) (gIx : IxR [.ref r0, .ref r1, .ref r2] i ri) (gTx : IxT [.ref a0, .ref a1, .ref a2] i ai) (i0 : 0 ≤ i) (i1 : i < 3)
    (hr : ∀ h' tk' r t1 t2 n', Post hH h' [(c, lsO [.ref r0, .ref r1, .ref r2] n), (ai, lsO [.bool b0, .bool b1] m2)] [(c, lsO ([.ref r0, .ref r1, .ref r2].set i.toNat (.ref r)) n'), (ai, lsO [.bool true, .bool b1] m2)] [(r, tupO [.int (wrapZ (x + dd)) t1, .int (wrapZ y) t2])] → R (.ok (.ret .none)) ⟨h', gG, dD, tk', oO⟩) : codeAny (model PR w) (AA dp un fr gd) (.call (.ref 409) ⟨[.ref S, .ref z, .int i t, .ref st, .bool true], []⟩) R ⟨hH, gG, dD, tT, oO⟩ := by
  (k_dflt (refine' enter (binds := [(Str.ofString "state", .ref S), (Str.ofString "zone", .ref z), (Str.ofString "i", .int i t), (Str.ofString "step", .ref st), (Str.ofString "is_touching", .bool true)]) ?k1 ?k6 ?k7 ?k8 ?k9 ?kB ?_ ?c2 ?c3 ?c4 ?c5)); k_extra "ENT"; k_extra "d261"; k_extra "d273"
  k_extra "z12"
  all_goals first | (apply hr; k_extra "P0") | (apply hr; k_extra "P1") | k_extra "ABS"
end
section
theorem zone0_ct {S : Addr} (hd : dp + 1 < recursionLimit) (hu : un + 74 < cLine) (P : Pre w hH [] [.obj W (instObj 1244 Wd), .obj Wd (wkD w wt wn S k zs cv sg sc), .obj zs (lsO [.ref z, .ref zb] nz)])
    (hr : ∀ h' tk' , Post hH h' [] [] [] → R (.ok (.ret (.ref z))) ⟨h', gG, dD, tk', oO⟩) : codeAny (model PR w) (AA dp un fr gd) (.call (.ref 1220) ⟨[.ref W, .int 0 t], []⟩) R ⟨hH, gG, dD, tT, oO⟩ := by
  (k_dflt (refine' enter (binds := [(Str.ofString "self", .ref W), (Str.ofString "number", .int 0 t)]) ?k1 ?k6 ?k7 ?k8 ?k9 ?kB ?_ ?c2 ?c3 ?c4 ?c5)); k_extra "ENT"; k_extra "d261"; k_extra "d283"
  k_extra "z"
  all_goals first | (apply hr; k_extra "P0") | (apply hr; k_extra "P1") | k_extra "ABS"
theorem zone1_ct {S : Addr} (hd : dp + 1 < recursionLimit) (hu : un + 74 < cLine) (P : Pre w hH [] [.obj W (instObj 1244 Wd), .obj Wd (wkD w wt wn S k zs cv sg sc), .obj zs (lsO [.ref z, .ref zb] nz)])
    (hr : ∀ h' tk' , Post hH h' [] [] [] → R (.ok (.ret (.ref zb))) ⟨h', gG, dD, tk', oO⟩) : codeAny (model PR w) (AA dp un fr gd) (.call (.ref 1220) ⟨[.ref W, .int 1 t], []⟩) R ⟨hH, gG, dD, tT, oO⟩ := by
  (k_dflt (refine' enter (binds := [(Str.ofString "self", .ref W), (Str.ofString "number", .int 1 t)]) ?k1 ?k6 ?k7 ?k8 ?k9 ?kB ?_ ?c2 ?c3 ?c4 ?c5)); k_extra "ENT"; k_extra "d261"; k_extra "d283"
  k_extra "z"
  all_goals first | (apply hr; k_extra "P0") | (apply hr; k_extra "P1") | k_extra "ABS"
theorem nextloop_ct {S : Addr} {tl : Tok} (hd : dp + 1 < recursionLimit) (hu : un + 74 < cLine) (P : Pre w hH [(Sd, gsD w gt gk f p d rp0 rp1 rp2 zp0 zp1 zp2 (.int 1 tl) rd)] [.obj W (instObj 1244 Wd), .obj Wd (wkD w wt wn S k zs cv sg sc), .obj S (instObj 1130 Sd)])
    (hr : ∀ h' tk' t', Post hH h' [(Sd, gsD w gt gk f p d rp0 rp1 rp2 zp0 zp1 zp2 (.int 1 tl) rd)] [(Sd, gsD w gt gk f p d rp0 rp1 rp2 zp0 zp1 zp2 (.int 1 t') rd)] [] → R (.ok (.ret (.int 1 tl))) ⟨h', gG, dD, tk', oO⟩) : codeAny (model PR w) (AA dp un fr gd) (.call (.ref 1241) ⟨[.ref W], []⟩) R ⟨hH, gG, dD, tT, oO⟩ := by
  (k_dflt (refine' enter (binds := [(Str.ofString "self", .ref W)]) ?k1 ?k6 ?k7 ?k8 ?k9 ?kB ?_ ?c2 ?c3 ?c4 ?c5)); k_extra "ENT"; k_extra "d261"; k_extra "d283"
  k_extra "z"
  all_goals first | (apply hr; k_extra "P0") | (apply hr; k_extra "P1") | k_extra "ABS"
theorem move_ct {S : Addr} {m : Nat} (hd : dp + 5 < recursionLimit) (hu : un + 90 < cLine) (P : Pre w hH [(c, lsO [.ref r0, .ref r1, .ref r2] n), (ai, lsO [.bool b0, .bool b1] m2)] [.obj W (instObj 1244 Wd), .obj Wd (wkD w wt wn S k zs cv sg sc), .obj S (instObj 1130 Sd), .obj Sd (gsD w gt gk f p d rp0 rp1 rp2 zp0 zp1 zp2 lp rd), .obj z (instObj 1300 zd), .obj zd (znD w zt o c th e b), .obj th (lsO [.ref a0, .ref a1, .ref a2] m), .tup f [.int 16384 f0, .int 0 f1], .tup p [.int 16384 p0, .int 0 p1], .tup ri [.int x tx, .int y ty]]) (gIx : IxR [.ref r0, .ref r1, .ref r2] i ri) (gTx : IxT [.ref a0, .ref a1, .ref a2] i ai) (i0 : 0 ≤ i) (i1 : i < 3)
    (hr : ∀ h' tk' r t1 t2 n', Post hH h' [(c, lsO [.ref r0, .ref r1, .ref r2] n), (ai, lsO [.bool b0, .bool b1] m2)] [(c, lsO ([.ref r0, .ref r1, .ref r2].set i.toNat (.ref r)) n'), (ai, lsO [.bool true, .bool b1] m2)] [(r, tupO [.int (wrapZ (x + dd)) t1, .int (wrapZ y) t2])] → R (.ok (.ret .none)) ⟨h', gG, dD, tk', oO⟩) : codeAny (model PR w) (AA dp un fr gd) (.call (.ref 416) ⟨[.ref W, .ref z, .int i t, .int dd td], []⟩) R ⟨hH, gG, dD, tT, oO⟩ := by
  (k_dflt (refine' enter (binds := [(Str.ofString "work", .ref W), (Str.ofString "zone", .ref z), (Str.ofString "i", .int i t), (Str.ofString "distance", .int dd td)]) ?k1 ?k6 ?k7 ?k8 ?k9 ?kB ?_ ?c2 ?c3 ?c4 ?c5)); k_extra "ENT"; k_extra "d261"; (k_extra "d264"; intro hT0 hT1 hT2 hT3 hT4 hT5 hT6 hT7 hT8 hT9; clear hT; (try dsimp only [FactsK]))
  k_extra "z13"
  all_goals first | (apply hr; k_extra "P0") | (apply hr; k_extra "P1") | k_extra "ABS"
theorem anchor_ct {S : Addr} {tz : Tok} (hd : dp + 3 < recursionLimit) (hu : un + 82 < cLine) (P : Pre w hH [] [.obj W (instObj 1244 Wd), .obj Wd (wkD w wt wn S k zs cv sg sc), .obj S (instObj 1130 Sd), .obj Sd (gsD w gt gk f p d (.int i ti) rp1 rp2 (.int 0 tz) zp1 zp2 lp rd), .obj zs (lsO [.ref z, .ref zb] nz), .obj z (instObj 1300 zd), .obj zd (znD w zt o c th e b), .obj c (lsO [.ref r0, .ref r1, .ref r2] n)]) (i0 : 0 ≤ i) (i1 : i < 3)
    (hr : ∀ h' tk' r, Post hH h' [] [] [(r, tupO [.ref z, .int i ti])] → R (.ok (.ret (.ref r))) ⟨h', gG, dD, tk', oO⟩) : codeAny (model PR w) (AA dp un fr gd) (.call (.ref 613) ⟨[.ref W], []⟩) R ⟨hH, gG, dD, tT, oO⟩ := by
  (k_dflt (refine' enter (binds := [(Str.ofString "work", .ref W)]) ?k1 ?k6 ?k7 ?k8 ?k9 ?kB ?_ ?c2 ?c3 ?c4 ?c5)); k_extra "ENT"; k_extra "d261"; k_extra "d273"
  k_extra "z14"
  all_goals first | (apply hr; k_extra "P0") | (apply hr; k_extra "P1") | k_extra "ABS"
end
section
theorem point16_ct {S : Addr} (hd : dp + 3 < recursionLimit) (hu : un + 82 < cLine) (P : Pre w hH [(l, lsO [.int x tx] n0), (Sd, gsD w gt gk f p d rp0 rp1 rp2 zp0 zp1 zp2 lp rd)] [.obj W (instObj 1244 Wd), .obj Wd (wkD w wt wn S k zs cv sg sc), .obj k (instObj 1193 kd), .obj kd (stkD w ts tm l), .obj S (instObj 1130 Sd)])
    (hr : ∀ h' tk' n', Post hH h' [(l, lsO [.int x tx] n0), (Sd, gsD w gt gk f p d rp0 rp1 rp2 zp0 zp1 zp2 lp rd)] [(l, lsO [] n'), (Sd, gsD w gt gk f p d (.int x tx) rp1 rp2 zp0 zp1 zp2 lp rd)] [] → R (.ok (.ret .none)) ⟨h', gG, dD, tk', oO⟩) : codeAny (model PR w) (AA dp un fr gd) (.call (.ref 1029) ⟨[.ref W, .int 16 tc], []⟩) R ⟨hH, gG, dD, tT, oO⟩ := by
  (k_dflt (refine' enter (binds := [(Str.ofString "work", .ref W), (Str.ofString "code", .int 16 tc)]) ?k1 ?k6 ?k7 ?k8 ?k9 ?kB ?_ ?c2 ?c3 ?c4 ?c5)); k_extra "ENT"; k_extra "d261"; k_extra "d279"
  k_extra "z15"
  all_goals first | (apply hr; k_extra "P0") | (apply hr; k_extra "P1") | k_extra "ABS"
theorem point17_ct {S : Addr} (hd : dp + 3 < recursionLimit) (hu : un + 82 < cLine) (P : Pre w hH [(l, lsO [.int x tx] n0), (Sd, gsD w gt gk f p d rp0 rp1 rp2 zp0 zp1 zp2 lp rd)] [.obj W (instObj 1244 Wd), .obj Wd (wkD w wt wn S k zs cv sg sc), .obj k (instObj 1193 kd), .obj kd (stkD w ts tm l), .obj S (instObj 1130 Sd)])
    (hr : ∀ h' tk' n', Post hH h' [(l, lsO [.int x tx] n0), (Sd, gsD w gt gk f p d rp0 rp1 rp2 zp0 zp1 zp2 lp rd)] [(l, lsO [] n'), (Sd, gsD w gt gk f p d rp0 (.int x tx) rp2 zp0 zp1 zp2 lp rd)] [] → R (.ok (.ret .none)) ⟨h', gG, dD, tk', oO⟩) : codeAny (model PR w) (AA dp un fr gd) (.call (.ref 1029) ⟨[.ref W, .int 17 tc], []⟩) R ⟨hH, gG, dD, tT, oO⟩ := by
  (k_dflt (refine' enter (binds := [(Str.ofString "work", .ref W), (Str.ofString "code", .int 17 tc)]) ?k1 ?k6 ?k7 ?k8 ?k9 ?kB ?_ ?c2 ?c3 ?c4 ?c5)); k_extra "ENT"; k_extra "d261"; k_extra "d279"
  k_extra "z15"
  all_goals first | (apply hr; k_extra "P0") | (apply hr; k_extra "P1") | k_extra "ABS"
theorem point18_ct {S : Addr} (hd : dp + 3 < recursionLimit) (hu : un + 82 < cLine) (P : Pre w hH [(l, lsO [.int x tx] n0), (Sd, gsD w gt gk f p d rp0 rp1 rp2 zp0 zp1 zp2 lp rd)] [.obj W (instObj 1244 Wd), .obj Wd (wkD w wt wn S k zs cv sg sc), .obj k (instObj 1193 kd), .obj kd (stkD w ts tm l), .obj S (instObj 1130 Sd)])
    (hr : ∀ h' tk' n', Post hH h' [(l, lsO [.int x tx] n0), (Sd, gsD w gt gk f p d rp0 rp1 rp2 zp0 zp1 zp2 lp rd)] [(l, lsO [] n'), (Sd, gsD w gt gk f p d rp0 rp1 (.int x tx) zp0 zp1 zp2 lp rd)] [] → R (.ok (.ret .none)) ⟨h', gG, dD, tk', oO⟩) : codeAny (model PR w) (AA dp un fr gd) (.call (.ref 1029) ⟨[.ref W, .int 18 tc], []⟩) R ⟨hH, gG, dD, tT, oO⟩ := by
  (k_dflt (refine' enter (binds := [(Str.ofString "work", .ref W), (Str.ofString "code", .int 18 tc)]) ?k1 ?k6 ?k7 ?k8 ?k9 ?kB ?_ ?c2 ?c3 ?c4 ?c5)); k_extra "ENT"; k_extra "d261"; k_extra "d279"
  k_extra "z15"
  all_goals first | (apply hr; k_extra "P0") | (apply hr; k_extra "P1") | k_extra "ABS"
theorem dozone_ct {S : Addr} (hd : dp + 3 < recursionLimit) (hu : un + 82 < cLine) (P : Pre w hH [(l, lsO [.int 0 tx] n0), (Sd, gsD w gt gk f p d rp0 rp1 rp2 zp0 zp1 zp2 lp rd)] [.obj W (instObj 1244 Wd), .obj Wd (wkD w wt wn S k zs cv sg sc), .obj k (instObj 1193 kd), .obj kd (stkD w ts tm l), .obj S (instObj 1130 Sd), .obj zs (lsO [.ref z, .ref zb] nz)])
    (hr : ∀ h' tk' n', Post hH h' [(l, lsO [.int 0 tx] n0), (Sd, gsD w gt gk f p d rp0 rp1 rp2 zp0 zp1 zp2 lp rd)] [(l, lsO [] n'), (Sd, gsD w gt gk f p d rp0 rp1 rp2 (.int 0 tx) (.int 0 tx) (.int 0 tx) lp rd)] [] → R (.ok (.ret .none)) ⟨h', gG, dD, tk', oO⟩) : codeAny (model PR w) (AA dp un fr gd) (.call (.ref 1036) ⟨[.ref W, .int 22 tc], []⟩) R ⟨hH, gG, dD, tT, oO⟩ := by
  (k_dflt (refine' enter (binds := [(Str.ofString "work", .ref W), (Str.ofString "code", .int 22 tc)]) ?k1 ?k6 ?k7 ?k8 ?k9 ?kB ?_ ?c2 ?c3 ?c4 ?c5)); k_extra "ENT"; k_extra "d261"; k_extra "d278"
  k_extra "z16"
  all_goals first | (apply hr; k_extra "P0") | (apply hr; k_extra "P1") | k_extra "ABS"
end
section
theorem alignrp_ct {S : Addr} {m : Nat} {u2 : Int} {q3 : Tok} (hd : dp + 6 < recursionLimit) (hu : un + 94 < cLine) (P : Pre w hH [(l, lsO [.int u0 q0, .int u1 q1, .int u2 q2, .int 1 q3] n0), (Sd, gsD w gt gk f p d (.int 2 h0) rp1 rp2 (.int 0 h1) (.int 0 h2) zp2 (.int 1 h3) rd), (c, lsO [.ref r0, .ref r1, .ref r2] n), (a1, lsO [.bool b0, .bool b1] m2)] [.obj W (instObj 1244 Wd), .obj Wd (wkD w wt wn S k zs cv sg sc), .obj k (instObj 1193 kd), .obj kd (stkD w ts tm l), .obj S (instObj 1130 Sd), .obj zs (lsO [.ref z, .ref zb] nz), .obj z (instObj 1300 zd), .obj zd (znD w zt o c th e b), .obj th (lsO [.ref a0, .ref a1, .ref a2] m), .tup f [.int 16384 f0, .int 0 f1], .tup p [.int 16384 p0, .int 0 p1], .tup r1 [.int x1 p1x, .int 5 p1y], .tup r2 [.int x2 p2x, .int 5 p2y]])
    (hr : ∀ h' tk' t' r t1 t2 n' n2, Post hH h' [(l, lsO [.int u0 q0, .int u1 q1, .int u2 q2, .int 1 q3] n0), (Sd, gsD w gt gk f p d (.int 2 h0) rp1 rp2 (.int 0 h1) (.int 0 h2) zp2 (.int 1 h3) rd), (c, lsO [.ref r0, .ref r1, .ref r2] n), (a1, lsO [.bool b0, .bool b1] m2)] [(l, lsO [.int u0 q0, .int u1 q1, .int u2 q2] n2), (Sd, gsD w gt gk f p d (.int 2 h0) rp1 rp2 (.int 0 h1) (.int 0 h2) zp2 (.int 1 t') rd), (c, lsO [.ref r0, .ref r, .ref r2] n'), (a1, lsO [.bool true, .bool b1] m2)] [(r, tupO [.int (wrapZ (x1 + (0 - (x1 - x2)))) t1, .int (wrapZ 5) t2])] → R (.ok (.ret .none)) ⟨h', gG, dD, tk', oO⟩) : codeAny (model PR w) (AA dp un fr gd) (.call (.ref 641) ⟨[.ref W, .int 60 tc], []⟩) R ⟨hH, gG, dD, tT, oO⟩ := by
  (k_dflt (refine' enter (binds := [(Str.ofString "work", .ref W), (Str.ofString "code", .int 60 tc)]) ?k1 ?k6 ?k7 ?k8 ?k9 ?kB ?_ ?c2 ?c3 ?c4 ?c5)); k_extra "ENT"; k_extra "d261"; k_extra "d269"
  k_extra "z17"
  all_goals first | (apply hr; k_extra "P0") | (apply hr; k_extra "P1") | k_extra "ABS"
end
section
theorem ip_ct {S : Addr} {m : Nat} {h4 : Tok} (hd : dp + 6 < recursionLimit) (hu : un + 94 < cLine) (P : Pre w hH [(l, lsO [.int u0 q0, .int u1 q1, .int 2 q2] n0), (Sd, gsD w gt gk f p d rp0 (.int 0 h0) (.int 1 h1) (.int 0 h2) (.int 0 h3) (.int 0 h4) (.int 1 h5) rd), (c, lsO [.ref r0, .ref r1, .ref r2] n), (a2, lsO [.bool b0, .bool b1] m2)] [.obj W (instObj 1244 Wd), .obj Wd (wkD w wt wn S k zs cv sg sc), .obj k (instObj 1193 kd), .obj kd (stkD w ts tm l), .obj S (instObj 1130 Sd), .obj zs (lsO [.ref z, .ref zb] nz), .obj z (instObj 1300 zd), .obj zd (znD w zt o c th e b), .obj o (lsO [.ref s0, .ref s1, .ref s2] no), .obj th (lsO [.ref a0, .ref a1, .ref a2] m), .tup f [.int 16384 f0, .int 0 f1], .tup p [.int 16384 p0, .int 0 p1], .tup d [.int 16384 d0, .int 0 d1], .tup r0 [.int x0 p0x, .int 5 p0y], .tup r1 [.int x1 p1x, .int 5 p1y], .tup r2 [.int x2 p2x, .int 5 p2y], .tup s0 [.int y0 o0x, .int 5 o0y], .tup s1 [.int y1 o1x, .int 5 o1y], .tup s2 [.int y2 o2x, .int 5 o2y]]) (w0 : y1 - y0 ≠ 0) (w1 : -(2 ^ 28) ≤ y1 - y0) (w2 : y1 - y0 < 2 ^ 28) (xm : IntMulOk (y2 - y0) (x1 - x0))
    (hr : ∀ h' tk' t' r t1 t2 n' n2, Post hH h' [(l, lsO [.int u0 q0, .int u1 q1, .int 2 q2] n0), (Sd, gsD w gt gk f p d rp0 (.int 0 h0) (.int 1 h1) (.int 0 h2) (.int 0 h3) (.int 0 h4) (.int 1 h5) rd), (c, lsO [.ref r0, .ref r1, .ref r2] n), (a2, lsO [.bool b0, .bool b1] m2)] [(l, lsO [.int u0 q0, .int u1 q1] n2), (Sd, gsD w gt gk f p d rp0 (.int 0 h0) (.int 1 h1) (.int 0 h2) (.int 0 h3) (.int 0 h4) (.int 1 t') rd), (c, lsO [.ref r0, .ref r1, .ref r] n'), (a2, lsO [.bool true, .bool b1] m2)] [(r, tupO [.int (wrapZ (x2 + (muldivZ (y2 - y0) (x1 - x0) (y1 - y0) - (x2 - x0)))) t1, .int (wrapZ 5) t2])] → R (.ok (.ret .none)) ⟨h', gG, dD, tk', oO⟩) : codeAny (model PR w) (AA dp un fr gd) (.call (.ref 648) ⟨[.ref W, .int 57 tc], []⟩) R ⟨hH, gG, dD, tT, oO⟩ := by
  (k_dflt (refine' enter (binds := [(Str.ofString "work", .ref W), (Str.ofString "code", .int 57 tc)]) ?k1 ?k6 ?k7 ?k8 ?k9 ?kB ?_ ?c2 ?c3 ?c4 ?c5)); k_extra "ENT"; k_extra "d261"; (k_extra "d264"; intro hT0 hT1 hT2 hT3 hT4 hT5 hT6 hT7 hT8 hT9 hT10 hT11 hT12 hT13 hT14 hT15 hT16 hT17 hT18; clear hT; (try dsimp only [FactsK]))
  k_extra "z18"
  all_goals first | (apply hr; k_extra "P0") | (apply hr; k_extra "P1") | k_extra "ABS"
end
section
theorem gc1_ct {S : Addr} (hd : dp + 6 < recursionLimit) (hu : un + 94 < cLine) (P : Pre w hH [(l, lsO [.int u0 q0, .int 2 q1] n0)] [.obj W (instObj 1244 Wd), .obj Wd (wkD w wt wn S k zs cv sg sc), .obj k (instObj 1193 kd), .obj kd (stkD w ts tm l), .obj S (instObj 1130 Sd), .obj Sd (gsD w gt gk f p d rp0 rp1 rp2 zp0 zp1 (.int 0 h0) lp rd), .obj zs (lsO [.ref z, .ref zb] nz), .obj z (instObj 1300 zd), .obj zd (znD w zt o c th e b), .obj c (lsO [.ref r0, .ref r1, .ref r2] n), .tup p [.int 16384 p0, .int 0 p1], .tup r2 [.int x2 p2x, .int 5 p2y]])
    (hr : ∀ h' tk' t' n2, Post hH h' [(l, lsO [.int u0 q0, .int 2 q1] n0)] [(l, lsO [.int u0 q0, .int (wrapZ x2) t'] n2)] [] → R (.ok (.ret .none)) ⟨h', gG, dD, tk', oO⟩) : codeAny (model PR w) (AA dp un fr gd) (.call (.ref 445) ⟨[.ref W, .int 70 tc], []⟩) R ⟨hH, gG, dD, tT, oO⟩ := by
  k_extra "d100"; k_extra "ENT"; k_extra "d261"; k_extra "d270"
  k_extra "z19"
  all_goals first | (apply hr; k_extra "P0") | (apply hr; k_extra "P1") | k_extra "ABS"
theorem gc0_ct {S : Addr} (hd : dp + 6 < recursionLimit) (hu : un + 94 < cLine) (P : Pre w hH [(l, lsO [.int 2 q1] n0)] [.obj W (instObj 1244 Wd), .obj Wd (wkD w wt wn S k zs cv sg sc), .obj k (instObj 1193 kd), .obj kd (stkD w ts tm l), .obj S (instObj 1130 Sd), .obj Sd (gsD w gt gk f p d rp0 rp1 rp2 zp0 zp1 (.int 0 h0) lp rd), .obj zs (lsO [.ref z, .ref zb] nz), .obj z (instObj 1300 zd), .obj zd (znD w zt o c th e b), .obj c (lsO [.ref r0, .ref r1, .ref r2] n), .tup p [.int 16384 p0, .int 0 p1], .tup r2 [.int x2 p2x, .int 5 p2y]])
    (hr : ∀ h' tk' t' n2, Post hH h' [(l, lsO [.int 2 q1] n0)] [(l, lsO [.int (wrapZ x2) t'] n2)] [] → R (.ok (.ret .none)) ⟨h', gG, dD, tk', oO⟩) : codeAny (model PR w) (AA dp un fr gd) (.call (.ref 445) ⟨[.ref W, .int 70 tc], []⟩) R ⟨hH, gG, dD, tT, oO⟩ := by
  k_extra "d100"; k_extra "ENT"; k_extra "d261"; k_extra "d270"
  k_extra "z20"
  all_goals first | (apply hr; k_extra "P0") | (apply hr; k_extra "P1") | k_extra "ABS"
theorem scfs_ct {S : Addr} {m : Nat} (hd : dp + 6 < recursionLimit) (hu : un + 94 < cLine) (P : Pre w hH [(l, lsO [.int 2 q0, .int v q1] n0), (c, lsO [.ref r0, .ref r1, .ref r2] n), (o, lsO [.ref s0, .ref s1, .ref s2] no), (a2, lsO [.bool b0, .bool b1] m2)] [.obj W (instObj 1244 Wd), .obj Wd (wkD w wt wn S k zs cv sg sc), .obj k (instObj 1193 kd), .obj kd (stkD w ts tm l), .obj S (instObj 1130 Sd), .obj Sd (gsD w gt gk f p d rp0 rp1 rp2 zp0 zp1 (.int 0 h0) lp rd), .obj zs (lsO [.ref z, .ref zb] nz), .obj z (instObj 1300 zd), .obj zd (znD w zt o c th e b), .obj th (lsO [.ref a0, .ref a1, .ref a2] m), .tup f [.int 16384 f0, .int 0 f1], .tup p [.int 16384 p0, .int 0 p1], .tup r2 [.int x2 p2x, .int 5 p2y]])
    (hr : ∀ h' tk' r t1 t2 n' n2 n3, Post hH h' [(l, lsO [.int 2 q0, .int v q1] n0), (c, lsO [.ref r0, .ref r1, .ref r2] n), (o, lsO [.ref s0, .ref s1, .ref s2] no), (a2, lsO [.bool b0, .bool b1] m2)] [(l, lsO [] n2), (c, lsO [.ref r0, .ref r1, .ref r] n'), (o, lsO [.ref s0, .ref s1, .ref r] n3), (a2, lsO [.bool true, .bool b1] m2)] [(r, tupO [.int (wrapZ (x2 + (v - x2))) t1, .int (wrapZ 5) t2])] → R (.ok (.ret .none)) ⟨h', gG, dD, tk', oO⟩) : codeAny (model PR w) (AA dp un fr gd) (.call (.ref 452) ⟨[.ref W, .int 72 tc], []⟩) R ⟨hH, gG, dD, tT, oO⟩ := by
  (k_dflt (refine' enter (binds := [(Str.ofString "work", .ref W), (Str.ofString "code", .int 72 tc)]) ?k1 ?k6 ?k7 ?k8 ?k9 ?kB ?_ ?c2 ?c3 ?c4 ?c5)); k_extra "ENT"; k_extra "d261"; k_extra "d269"
  k_extra "z21"
  all_goals first | (apply hr; k_extra "P0") | (apply hr; k_extra "P1") | k_extra "ABS"
end
section
theorem mdap_ct {S : Addr} {m : Nat} (hd : dp + 6 < recursionLimit) (hu : un + 94 < cLine) (P : Pre w hH [(l, lsO [.int i ti] n0), (Sd, gsD w gt gk f p d rp0 rp1 rp2 (.int 0 h0) zp1 zp2 lp rd), (c, lsO [.ref r0, .ref r1, .ref r2] n), (ai, lsO [.bool b0, .bool b1] m2)] [.obj W (instObj 1244 Wd), .obj Wd (wkD w wt wn S k zs cv sg sc), .obj k (instObj 1193 kd), .obj kd (stkD w ts tm l), .obj S (instObj 1130 Sd), .obj zs (lsO [.ref z, .ref zb] nz), .obj z (instObj 1300 zd), .obj zd (znD w zt o c th e b), .obj th (lsO [.ref a0, .ref a1, .ref a2] m), .tup f [.int 16384 f0, .int 0 f1], .tup p [.int 16384 p0, .int 0 p1], .tup ri [.int x tx, .int y ty]]) (gIx : IxR [.ref r0, .ref r1, .ref r2] i ri) (gTx : IxT [.ref a0, .ref a1, .ref a2] i ai) (i0 : 0 ≤ i) (i1 : i < 3)
    (hr : ∀ h' tk' r t1 t2 n' n2, Post hH h' [(l, lsO [.int i ti] n0), (Sd, gsD w gt gk f p d rp0 rp1 rp2 (.int 0 h0) zp1 zp2 lp rd), (c, lsO [.ref r0, .ref r1, .ref r2] n), (ai, lsO [.bool b0, .bool b1] m2)] [(l, lsO [] n2), (Sd, gsD w gt gk f p d (.int i ti) (.int i ti) rp2 (.int 0 h0) zp1 zp2 lp rd), (c, lsO ([.ref r0, .ref r1, .ref r2].set i.toNat (.ref r)) n'), (ai, lsO [.bool true, .bool b1] m2)] [(r, tupO [.int (wrapZ (x + 0)) t1, .int (wrapZ y) t2])] → R (.ok (.ret .none)) ⟨h', gG, dD, tk', oO⟩) : codeAny (model PR w) (AA dp un fr gd) (.call (.ref 592) ⟨[.ref W, .int 46 tc], []⟩) R ⟨hH, gG, dD, tT, oO⟩ := by
  k_extra "d101"; k_extra "ENT"; k_extra "d261"; k_extra "d270"
  k_extra "z22"
  all_goals first | (apply hr; k_extra "P0") | (apply hr; k_extra "P1") | k_extra "ABS"
end
section
theorem cvtval_ct {S : Addr} (hd : dp + 1 < recursionLimit) (hu : un + 74 < cLine) (P : Pre w hH [] [.obj W (instObj 1244 Wd), .obj Wd (wkD w wt wn S k zs cv sg sc), .obj cv (lsO [.int v tv] nc)])
    (hr : ∀ h' tk' , Post hH h' [] [] [] → R (.ok (.ret (.int v tv))) ⟨h', gG, dD, tk', oO⟩) : codeAny (model PR w) (AA dp un fr gd) (.call (.ref 1227) ⟨[.ref W, .int 0 t], []⟩) R ⟨hH, gG, dD, tT, oO⟩ := by
  (k_dflt (refine' enter (binds := [(Str.ofString "self", .ref W), (Str.ofString "i", .int 0 t)]) ?k1 ?k6 ?k7 ?k8 ?k9 ?kB ?_ ?c2 ?c3 ?c4 ?c5)); k_extra "ENT"; k_extra "d261"; k_extra "d283"
  k_extra "z"
  all_goals first | (apply hr; k_extra "P0") | (apply hr; k_extra "P1") | k_extra "ABS"
theorem rcvt0_ct {S : Addr} (hd : dp + 3 < recursionLimit) (hu : un + 82 < cLine) (P : Pre w hH [(l, lsO [.int 0 q1] n0)] [.obj W (instObj 1244 Wd), .obj Wd (wkD w wt wn S k zs cv sg sc), .obj k (instObj 1193 kd), .obj kd (stkD w ts tm l), .obj cv (lsO [.int v tv] nc)])
    (hr : ∀ h' tk' t' n2, Post hH h' [(l, lsO [.int 0 q1] n0)] [(l, lsO [.int (wrapZ v) t'] n2)] [] → R (.ok (.ret .none)) ⟨h', gG, dD, tk', oO⟩) : codeAny (model PR w) (AA dp un fr gd) (.call (.ref 814) ⟨[.ref W, .int 69 tc], []⟩) R ⟨hH, gG, dD, tT, oO⟩ := by
  k_extra "d102"; k_extra "ENT"; k_extra "d261"; k_extra "d279"
  k_extra "z23"
  all_goals first | (apply hr; k_extra "P0") | (apply hr; k_extra "P1") | k_extra "ABS"
theorem rcvt1_ct {S : Addr} (hd : dp + 3 < recursionLimit) (hu : un + 82 < cLine) (P : Pre w hH [(l, lsO [.int u0 q0, .int 0 q1] n0)] [.obj W (instObj 1244 Wd), .obj Wd (wkD w wt wn S k zs cv sg sc), .obj k (instObj 1193 kd), .obj kd (stkD w ts tm l), .obj cv (lsO [.int v tv] nc)])
    (hr : ∀ h' tk' t' n2, Post hH h' [(l, lsO [.int u0 q0, .int 0 q1] n0)] [(l, lsO [.int u0 q0, .int (wrapZ v) t'] n2)] [] → R (.ok (.ret .none)) ⟨h', gG, dD, tk', oO⟩) : codeAny (model PR w) (AA dp un fr gd) (.call (.ref 814) ⟨[.ref W, .int 69 tc], []⟩) R ⟨hH, gG, dD, tT, oO⟩ := by
  k_extra "d102"; k_extra "ENT"; k_extra "d261"; k_extra "d279"
  k_extra "z24"
  all_goals first | (apply hr; k_extra "P0") | (apply hr; k_extra "P1") | k_extra "ABS"
theorem putcvt_ct {S : Addr} (hd : dp + 2 < recursionLimit) (hu : un + 78 < cLine) (P : Pre w hH [(cv, lsO [.int v tv] nc)] [.obj W (instObj 1244 Wd), .obj Wd (wkD w wt wn S k zs cv sg sc)])
    (hr : ∀ h' tk' t' n', Post hH h' [(cv, lsO [.int v tv] nc)] [(cv, lsO [.int (wrapZ x) t'] n')] [] → R (.ok (.ret .none)) ⟨h', gG, dD, tk', oO⟩) : codeAny (model PR w) (AA dp un fr gd) (.call (.ref 1234) ⟨[.ref W, .int 0 t, .int x tx], []⟩) R ⟨hH, gG, dD, tT, oO⟩ := by
  (k_dflt (refine' enter (binds := [(Str.ofString "self", .ref W), (Str.ofString "i", .int 0 t), (Str.ofString "value", .int x tx)]) ?k1 ?k6 ?k7 ?k8 ?k9 ?kB ?_ ?c2 ?c3 ?c4 ?c5)); k_extra "ENT"; k_extra "d261"; k_extra "d288"
  k_extra "z25"
  all_goals first | (apply hr; k_extra "P0") | (apply hr; k_extra "P1") | k_extra "ABS"
theorem wcvtf_ct {S : Addr} {A : Int} (hd : dp + 3 < recursionLimit) (hu : un + 82 < cLine) (P : Pre w hH [(l, lsO [.int 0 q0, .int x q1] n0), (cv, lsO [.int v tv] nc)] [.obj W (instObj 1244 Wd), .obj Wd (wkD w wt wn S k zs cv sg sc), .obj k (instObj 1193 kd), .obj kd (stkD w ts tm l), .tup sc [.int A tA, .int B tB]]) (b0 : B ≠ 0) (b1 : -(2 ^ 28) ≤ B) (b2 : B < 2 ^ 28) (xm : IntMulOk x A)
    (hr : ∀ h' tk' t' n' n2, Post hH h' [(l, lsO [.int 0 q0, .int x q1] n0), (cv, lsO [.int v tv] nc)] [(l, lsO [] n2), (cv, lsO [.int (wrapZ (muldivZ x A B)) t'] n')] [] → R (.ok (.ret .none)) ⟨h', gG, dD, tk', oO⟩) : codeAny (model PR w) (AA dp un fr gd) (.call (.ref 807) ⟨[.ref W, .int 112 tc], []⟩) R ⟨hH, gG, dD, tT, oO⟩ := by
  (k_dflt (refine' enter (binds := [(Str.ofString "work", .ref W), (Str.ofString "code", .int 112 tc)]) ?k1 ?k6 ?k7 ?k8 ?k9 ?kB ?_ ?c2 ?c3 ?c4 ?c5)); k_extra "ENT"; k_extra "d261"; k_extra "d279"
  k_extra "z26"
  all_goals first | (apply hr; k_extra "P0") | (apply hr; k_extra "P1") | k_extra "ABS"
end
section
noncomputable abbrev rdD (w : World) (ts : Nat → Tok) : Obj := dictOf [en w "period" (ts 0) (.int 64 (ts 3)), en w "phase" (ts 1) (.int 0 (ts 4)), en w "threshold" (ts 2) (.int 32 (ts 5))] 3
noncomputable def roundP (x : Int) : Int := if Int.fdiv (x - 0 + 32) 64 * 64 + 0 < 0 then 0 else Int.fdiv (x - 0 + 32) 64 * 64 + 0
noncomputable def roundZ (x : Int) : Int := if x < 0 then 0 - roundP (0 - x) else roundP x
theorem rounded_ct {rdd : Addr} {rt : Nat → Tok} (hd : dp + 1 < recursionLimit) (hu : un + 74 < cLine) (P : Pre w hH [] [.obj rd (instObj 532 rdd), .obj rdd (rdD w rt)])
    (hr : ∀ h' tk' t', Post hH h' [] [] [] → R (.ok (.ret (.int (roundZ x) t'))) ⟨h', gG, dD, tk', oO⟩) : codeAny (model PR w) (AA dp un fr gd) (.call (.ref 557) ⟨[.int x tx, .ref rd], []⟩) R ⟨hH, gG, dD, tT, oO⟩ := by
  have hr' : ∀ y h' tk' t', y = roundZ x → Post hH h' [] [] [] → R (.ok (.ret (.int y t'))) ⟨h', gG, dD, tk', oO⟩ := fun y h' tk' t' e p => e ▸ hr h' tk' t' p
  clear hr
  (k_dflt (refine' enter (binds := [(Str.ofString "distance", .int x tx), (Str.ofString "rounding", .ref rd)]) ?k1 ?k6 ?k7 ?k8 ?k9 ?kB ?_ ?c2 ?c3 ?c4 ?c5)); k_extra "ENT2"; k_extra "d261"; k_extra "d288"
  k_extra "z27"
  all_goals first | exact hr' _ _ _ _ (by (unfold roundZ roundP; have e1 := Int.fdiv_eq_ediv_of_nonneg (x - 0 + 32) (show (0:Int) ≤ 64 by decide); have e2 := Int.fdiv_eq_ediv_of_nonneg (0 - x - 0 + 32) (show (0:Int) ≤ 64 by decide); repeat' split) <;> first | rfl | omega) (by k_extra "P0") | (exfalso; simp_all; done)
theorem doround_ct {S : Addr} {rdd : Addr} {rt : Nat → Tok} (hd : dp + 3 < recursionLimit) (hu : un + 82 < cLine) (P : Pre w hH [(l, lsO [.int x q0] n0)] [.obj W (instObj 1244 Wd), .obj Wd (wkD w wt wn S k zs cv sg sc), .obj k (instObj 1193 kd), .obj kd (stkD w ts tm l), .obj S (instObj 1130 Sd), .obj Sd (gsD w gt gk f p d rp0 rp1 rp2 zp0 zp1 zp2 lp rd), .obj rd (instObj 532 rdd), .obj rdd (rdD w rt)])
    (hr : ∀ h' tk' t' n2, Post hH h' [(l, lsO [.int x q0] n0)] [(l, lsO [.int (wrapZ (roundZ x)) t'] n2)] [] → R (.ok (.ret .none)) ⟨h', gG, dD, tk', oO⟩) : codeAny (model PR w) (AA dp un fr gd) (.call (.ref 772) ⟨[.ref W, .int 104 tc], []⟩) R ⟨hH, gG, dD, tT, oO⟩ := by
  (k_dflt (refine' enter (binds := [(Str.ofString "work", .ref W), (Str.ofString "code", .int 104 tc)]) ?k1 ?k6 ?k7 ?k8 ?k9 ?kB ?_ ?c2 ?c3 ?c4 ?c5)); k_extra "ENT2"; k_extra "d261"; k_extra "d273"
  k_extra "z28"
  all_goals first | (apply hr; k_extra "P0") | (apply hr; k_extra "P1") | k_extra "ABS2"
end
section
theorem mdone_r : muldivZ a 16384 16384 = a := md_one (by decide)
theorem mul14_ct (hd : dp + 2 < recursionLimit) (hu : un + 78 < cLine) (P : Pre w hH [] [])
    (hr : ∀ h' tk' t', Post hH h' [] [] [] → R (.ok (.ret (.int a t'))) ⟨h', gG, dD, tk', oO⟩) : codeAny (model PR w) (AA dp un fr gd) (.call (.ref 304) ⟨[.int a ta, .int 16384 tb], []⟩) R ⟨hH, gG, dD, tT, oO⟩ := by
  (k_dflt (refine' enter (binds := [(Str.ofString "a", .int a ta), (Str.ofString "b", .int 16384 tb)]) ?k1 ?k6 ?k7 ?k8 ?k9 ?kB ?_ ?c2 ?c3 ?c4 ?c5)); k_extra "ENT"; k_extra "d261"; (clear hT)
  k_extra "z29"
  all_goals first | (apply hr; k_extra "P0") | (apply hr; k_extra "P1") | k_extra "ABS"
theorem mul14z_ct (hd : dp + 2 < recursionLimit) (hu : un + 78 < cLine) (P : Pre w hH [] [])
    (hr : ∀ h' tk' t', Post hH h' [] [] [] → R (.ok (.ret (.int 0 t'))) ⟨h', gG, dD, tk', oO⟩) : codeAny (model PR w) (AA dp un fr gd) (.call (.ref 304) ⟨[.int a ta, .int 0 tb], []⟩) R ⟨hH, gG, dD, tT, oO⟩ := by
  (k_dflt (refine' enter (binds := [(Str.ofString "a", .int a ta), (Str.ofString "b", .int 0 tb)]) ?k1 ?k6 ?k7 ?k8 ?k9 ?kB ?_ ?c2 ?c3 ?c4 ?c5)); k_extra "ENT"; k_extra "d261"; (clear hT)
  k_extra "z30"
  all_goals first | (apply hr; k_extra "P0") | (apply hr; k_extra "P1") | k_extra "ABS"
theorem along_ct {S : Addr} (hd : dp + 3 < recursionLimit) (hu : un + 82 < cLine) (P : Pre w hH [] [.obj S (instObj 1130 Sd), .obj Sd (gsD w gt gk f p d rp0 rp1 rp2 zp0 zp1 zp2 lp rd), .tup f [.int 16384 f0, .int 0 f1]])
    (hr : ∀ h' tk' r t1 t2, Post hH h' [] [] [(r, tupO [.int dd t1, .int 0 t2])] → R (.ok (.ret (.ref r))) ⟨h', gG, dD, tk', oO⟩) : codeAny (model PR w) (AA dp un fr gd) (.call (.ref 430) ⟨[.ref S, .int dd td], []⟩) R ⟨hH, gG, dD, tT, oO⟩ := by
  k_extra "d96"; k_extra "ENT"; k_extra "d261"; k_extra "d283"
  k_extra "z31"
  all_goals first | (apply hr; k_extra "P0") | (apply hr; k_extra "P1") | k_extra "ABS"
theorem shpix_ct {S : Addr} {m : Nat} {za : Addr} (hd : dp + 6 < recursionLimit) (hu : un + 94 < cLine) (P : Pre w hH [(l, lsO [.int 0 q0, .int dd q1] n0), (Sd, gsD w gt gk f p d rp0 rp1 rp2 zp0 zp1 (.int 1 h0) (.int 1 h3) rd), (c, lsO [.ref r0, .ref r1, .ref r2] n), (a0, lsO [.bool b0, .bool b1] m2)] [.obj W (instObj 1244 Wd), .obj Wd (wkD w wt wn S k zs cv sg sc), .obj k (instObj 1193 kd), .obj kd (stkD w ts tm l), .obj S (instObj 1130 Sd), .obj zs (lsO [.ref za, .ref z] nz), .obj z (instObj 1300 zd), .obj zd (znD w zt o c th e b), .obj th (lsO [.ref a0, .ref a1, .ref a2] m), .tup f [.int 16384 f0, .int 0 f1], .tup r0 [.int x tx, .int y ty]])
    (hr : ∀ h' tk' t' r t1 t2 n' n2, Post hH h' [(l, lsO [.int 0 q0, .int dd q1] n0), (Sd, gsD w gt gk f p d rp0 rp1 rp2 zp0 zp1 (.int 1 h0) (.int 1 h3) rd), (c, lsO [.ref r0, .ref r1, .ref r2] n), (a0, lsO [.bool b0, .bool b1] m2)] [(l, lsO [] n2), (Sd, gsD w gt gk f p d rp0 rp1 rp2 zp0 zp1 (.int 1 h0) (.int 1 t') rd), (c, lsO [.ref r, .ref r1, .ref r2] n'), (a0, lsO [.bool true, .bool b1] m2)] [(r, tupO [.int (wrapZ (x + dd)) t1, .int (wrapZ y) t2])] → R (.ok (.ret .none)) ⟨h', gG, dD, tk', oO⟩) : codeAny (model PR w) (AA dp un fr gd) (.call (.ref 898) ⟨[.ref W, .int 56 tc], []⟩) R ⟨hH, gG, dD, tT, oO⟩ := by
  (k_dflt (refine' enter (binds := [(Str.ofString "work", .ref W), (Str.ofString "code", .int 56 tc)]) ?k1 ?k6 ?k7 ?k8 ?k9 ?kB ?_ ?c2 ?c3 ?c4 ?c5)); k_extra "ENT"; k_extra "d261"; (k_extra "d264"; intro hT0 hT1 hT2 hT3 hT4 hT5 hT6 hT7 hT8 hT9 hT10; clear hT; (try dsimp only [FactsK]))
  k_extra "z32"
  all_goals first | (apply hr; k_extra "P0") | (apply hr; k_extra "P1") | k_extra "ABS"
end
section
theorem bounds_ct (hd : dp + 1 < recursionLimit) (hu : un + 74 < cLine) (P : Pre w hH [] [.obj z (instObj 1300 zd), .obj zd (znD w zt o c th e b), .obj e (lsO [.int 2 te] ne)])
    (hr : ∀ h' tk' r t', Post hH h' [] [] [(r, tupO [.int 0 t', .int 2 te])] → R (.ok (.ret (.ref r))) ⟨h', gG, dD, tk', oO⟩) : codeAny (model PR w) (AA dp un fr gd) (.call (.ref 870) ⟨[.ref z, .int 0 t], []⟩) R ⟨hH, gG, dD, tT, oO⟩ := by
  (k_dflt (refine' enter (binds := [(Str.ofString "zone", .ref z), (Str.ofString "contour", .int 0 t)]) ?k1 ?k6 ?k7 ?k8 ?k9 ?kB ?_ ?c2 ?c3 ?c4 ?c5)); k_extra "ENT"; k_extra "d261"; k_extra "d283"
  k_extra "z"
  all_goals first | (apply hr; k_extra "P0") | (apply hr; k_extra "P1") | k_extra "ABS"
theorem pairof_ct {si : Addr} {u : Int} (hd : dp + 1 < recursionLimit) (hu : un + 74 < cLine) (P : Pre w hH [] [.obj z (instObj 1300 zd), .obj zd (znD w zt o c th e b), .obj c (lsO [.ref r0, .ref r1, .ref r2] n), .obj o (lsO [.ref s0, .ref s1, .ref s2] no), .tup ri [.int x tx, .int y ty], .tup si [.int u tu, .int v tv]]) (gIx : IxR [.ref r0, .ref r1, .ref r2] i ri) (gIo : IxR [.ref s0, .ref s1, .ref s2] i si) (i0 : 0 ≤ i) (i1 : i < 3)
    (hr : ∀ h' tk' r, Post hH h' [] [] [(r, tupO [.int u tu, .int x tx])] → R (.ok (.ret (.ref r))) ⟨h', gG, dD, tk', oO⟩) : codeAny (model PR w) (AA dp un fr gd) (.call (.ref 926) ⟨[.ref z, .int i t, .int 0 ta], []⟩) R ⟨hH, gG, dD, tT, oO⟩ := by
  (k_dflt (refine' enter (binds := [(Str.ofString "zone", .ref z), (Str.ofString "i", .int i t), (Str.ofString "axis", .int 0 ta)]) ?k1 ?k6 ?k7 ?k8 ?k9 ?kB ?_ ?c2 ?c3 ?c4 ?c5)); k_extra "ENT"; k_extra "d261"; k_extra "d278"
  k_extra "z"
  all_goals first | (apply hr; k_extra "P0") | (apply hr; k_extra "P1") | k_extra "ABS"
theorem drawn_ct {q1 q2 : Addr} {o b : Int} {ta2 tb2 : Tok} (hd : dp + 1 < recursionLimit) (hu : un + 74 < cLine) (P : Pre w hH [] [.tup q1 [.int a ta, .int b tb], .tup q2 [.int a ta2, .int b tb2]])
    (hr : ∀ h' tk' t', Post hH h' [] [] [] → R (.ok (.ret (.int (o + b - a) t'))) ⟨h', gG, dD, tk', oO⟩) : codeAny (model PR w) (AA dp un fr gd) (.call (.ref 912) ⟨[.int o to, .ref q1, .ref q2], []⟩) R ⟨hH, gG, dD, tT, oO⟩ := by
  (k_dflt (refine' enter (binds := [(Str.ofString "original", .int o to), (Str.ofString "first", .ref q1), (Str.ofString "last", .ref q2)]) ?k1 ?k6 ?k7 ?k8 ?k9 ?kB ?_ ?c2 ?c3 ?c4 ?c5)); k_extra "ENT"; k_extra "d261"; k_extra "d288"
  k_extra "z"
  all_goals first | (apply hr; k_extra "P0") | (apply hr; k_extra "P1") | k_extra "ABS"
theorem putpart_ct {nn : Int} {tn : Tok} (hd : dp + 4 < recursionLimit) (hu : un + 86 < cLine) (P : Pre w hH [(c, lsO [.ref r0, .ref r1, .ref r2] n)] [.obj z (instObj 1300 zd), .obj zd (znD w zt o c th e b), .tup ri [.int x tx, .int y ty]]) (gIx : IxR [.ref r0, .ref r1, .ref r2] i ri) (i0 : 0 ≤ i) (i1 : i < 3)
    (hr : ∀ h' tk' r t1 t2 n', Post hH h' [(c, lsO [.ref r0, .ref r1, .ref r2] n)] [(c, lsO ([.ref r0, .ref r1, .ref r2].set i.toNat (.ref r)) n')] [(r, tupO [.int (wrapZ nn) t1, .int (wrapZ y) t2])] → R (.ok (.ret .none)) ⟨h', gG, dD, tk', oO⟩) : codeAny (model PR w) (AA dp un fr gd) (.call (.ref 919) ⟨[.ref z, .int i t, .int 0 ta, .int nn tn], []⟩) R ⟨hH, gG, dD, tT, oO⟩ := by
  (k_dflt (refine' enter (binds := [(Str.ofString "zone", .ref z), (Str.ofString "i", .int i t), (Str.ofString "axis", .int 0 ta), (Str.ofString "number", .int nn tn)]) ?k1 ?k6 ?k7 ?k8 ?k9 ?kB ?_ ?c2 ?c3 ?c4 ?c5)); k_extra "ENT"; k_extra "d261"; k_extra "d283"
  k_extra "z33"
  all_goals first | (apply hr; k_extra "P0") | (apply hr; k_extra "P1") | k_extra "ABS"
end
section
theorem drawbetween_ct {tn0 tn1 tp : Tok} {nu : Addr} {nn : Nat} (hd : dp + 5 < recursionLimit) (hu : un + 90 < cLine) (P : Pre w hH [(nu, lsO [.int 1 tn0, .int 2 tn1] nn), (c, lsO [.ref r0, .ref r1, .ref r2] n)] [.obj z (instObj 1300 zd), .obj zd (znD w zt o c th e b), .obj o (lsO [.ref s0, .ref s1, .ref s2] no), .tup r0 [.int x0 p0x, .int c0 p0y], .tup r1 [.int x1 p1x, .int c1 p1y], .tup r2 [.int x2 p2x, .int c2 p2y], .tup s0 [.int y0 o0x, .int d0' o0y], .tup s1 [.int y1 o1x, .int d1' o1y], .tup s2 [.int y2 o2x, .int d2' o2y]])
    (hr : ∀ h' tk' rA rB t1 t2 t3 t4 n', Post hH h' [(nu, lsO [.int 1 tn0, .int 2 tn1] nn), (c, lsO [.ref r0, .ref r1, .ref r2] n)] [(nu, lsO [.int 1 tn0, .int 2 tn1] nn), (c, lsO [.ref r0, .ref rA, .ref rB] n')] [(rB, tupO [.int (wrapZ (y2 + x0 - y0)) t3, .int (wrapZ c2) t4]), (rA, tupO [.int (wrapZ (y1 + x0 - y0)) t1, .int (wrapZ c1) t2])] → R (.ok (.ret .none)) ⟨h', gG, dD, tk', oO⟩) : codeAny (model PR w) (AA dp un fr gd) (.call (.ref 933) ⟨[.ref z, .int 0 ta, .ref nu, .int 0 to, .int 0 tp], []⟩) R ⟨hH, gG, dD, tT, oO⟩ := by
  (k_dflt (refine' enter (binds := [(Str.ofString "zone", .ref z), (Str.ofString "axis", .int 0 ta), (Str.ofString "numbers", .ref nu), (Str.ofString "one", .int 0 to), (Str.ofString "other", .int 0 tp)]) ?k1 ?k6 ?k7 ?k8 ?k9 ?kB ?_ ?c2 ?c3 ?c4 ?c5)); k_extra "ENT"; k_extra "d261"; (k_extra "d264"; intro hT0 hT1 hT2 hT3 hT4 hT5 hT6 hT7 hT8; clear hT; (try dsimp only [FactsK]))
  k_extra "z34"
  all_goals first | (apply hr; k_extra "P0") | (apply hr; k_extra "P1") | k_extra "ABS"
end
section
local macro_rules | `(tactic| lcg_off) => `(tactic| first | assumption | exact off_t1 (by assumption) | exact off_t2 (by assumption) | exact off_t3 (by assumption) | exact off_t4 (by assumption))
theorem drawcontour_ct {tp : Tok} {m : Nat} (hd : dp + 6 < recursionLimit) (hu : un + 94 < cLine) (P : Pre w hH [(c, lsO [.ref r0, .ref r1, .ref r2] n)] [.obj z (instObj 1300 zd), .obj zd (znD w zt o c th e b), .obj o (lsO [.ref s0, .ref s1, .ref s2] no), .obj th (lsO [.ref a0, .ref a1, .ref a2] m), .obj a0 (lsO [.bool true, .bool b0] m0), .obj a1 (lsO [.bool false, .bool b1] m1), .obj a2 (lsO [.bool false, .bool b2] m2), .tup r0 [.int x0 p0x, .int c0 p0y], .tup r1 [.int x1 p1x, .int c1 p1y], .tup r2 [.int x2 p2x, .int c2 p2y], .tup s0 [.int y0 o0x, .int d0' o0y], .tup s1 [.int y1 o1x, .int d1' o1y], .tup s2 [.int y2 o2x, .int d2' o2y]])
    (hr : ∀ h' tk' rA rB t1 t2 t3 t4 n', Post hH h' [(c, lsO [.ref r0, .ref r1, .ref r2] n)] [(c, lsO [.ref r0, .ref rA, .ref rB] n')] [(rB, tupO [.int (wrapZ (y2 + x0 - y0)) t3, .int (wrapZ c2) t4]), (rA, tupO [.int (wrapZ (y1 + x0 - y0)) t1, .int (wrapZ c1) t2])] → R (.ok (.ret .none)) ⟨h', gG, dD, tk', oO⟩) : codeAny (model PR w) (AA dp un fr gd) (.call (.ref 938) ⟨[.ref z, .int 0 ta, .int 0 to, .int 2 tp], []⟩) R ⟨hH, gG, dD, tT, oO⟩ := by
  (k_dflt (refine' enterC (binds := [(Str.ofString "zone", .ref z), (Str.ofString "axis", .int 0 ta), (Str.ofString "first", .int 0 to), (Str.ofString "last", .int 2 tp)]) ?k1 ?k6 ?k7 ?k8 ?k9 ?kB ?kD ?_ ?c2 ?c3 ?c4)); k_extra "ENTC"; k_extra "d261"; k_extra "d269"
  k_extra "z35"
  all_goals first | (apply hr; k_extra "P0") | (apply hr; k_extra "P1") | k_extra "ABS"
end
section
theorem iup_ct {S : Addr} {za : Addr} {m : Nat} (hd : dp + 7 < recursionLimit) (hu : un + 98 < cLine) (P : Pre w hH [(c, lsO [.ref r0, .ref r1, .ref r2] n)] [.obj W (instObj 1244 Wd), .obj Wd (wkD w wt wn S k zs cv sg sc), .obj zs (lsO [.ref za, .ref z] nz), .obj z (instObj 1300 zd), .obj zd (znD w zt o c th e b), .obj o (lsO [.ref s0, .ref s1, .ref s2] no), .obj e (lsO [.int 2 te] ne), .obj th (lsO [.ref a0, .ref a1, .ref a2] m), .obj a0 (lsO [.bool true, .bool b0] m0), .obj a1 (lsO [.bool false, .bool b1] m1), .obj a2 (lsO [.bool false, .bool b2] m2), .tup r0 [.int x0 p0x, .int c0 p0y], .tup r1 [.int x1 p1x, .int c1 p1y], .tup r2 [.int x2 p2x, .int c2 p2y], .tup s0 [.int y0 o0x, .int d0' o0y], .tup s1 [.int y1 o1x, .int d1' o1y], .tup s2 [.int y2 o2x, .int d2' o2y]])
    (hr : ∀ h' tk' rA rB t1 t2 t3 t4 n', Post hH h' [(c, lsO [.ref r0, .ref r1, .ref r2] n)] [(c, lsO [.ref r0, .ref rA, .ref rB] n')] [(rB, tupO [.int (wrapZ (y2 + x0 - y0)) t3, .int (wrapZ c2) t4]), (rA, tupO [.int (wrapZ (y1 + x0 - y0)) t1, .int (wrapZ c1) t2])] → R (.ok (.ret .none)) ⟨h', gG, dD, tk', oO⟩) : codeAny (model PR w) (AA dp un fr gd) (.call (.ref 945) ⟨[.ref W, .int 49 tc], []⟩) R ⟨hH, gG, dD, tT, oO⟩ := by
  (k_dflt (refine' enter (binds := [(Str.ofString "work", .ref W), (Str.ofString "code", .int 49 tc)]) ?k1 ?k6 ?k7 ?k8 ?k9 ?kB ?_ ?c2 ?c3 ?c4 ?c5)); k_extra "ENT"; k_extra "d261"; (k_extra "d264"; intro hT0 hT1 hT2 hT3 hT4 hT5 hT6 hT7 hT8 hT9 hT10 hT11 hT12 hT13 hT14 hT15 hT16; clear hT; (try dsimp only [FactsK]))
  k_extra "z36"
  all_goals first | (apply hr; k_extra "P0") | (apply hr; k_extra "P1") | k_extra "ABS"
end
section
theorem ispush0_ct (hd : dp + 1 < recursionLimit) (hu : un + 74 < cLine) (P : Pre w hH [] []) (o1 : op ≠ 64) (o2 : op ≠ 65) (o3 : op < 176)
    (hr : ∀ h' tk' , Post hH h' [] [] [] → R (.ok (.ret (.bool false))) ⟨h', gG, dD, tk', oO⟩) : codeAny (model PR w) (AA dp un fr gd) (.call (.ref 191) ⟨[.int op to], []⟩) R ⟨hH, gG, dD, tT, oO⟩ := by
  have hr' : ∀ x h' tk', x = false → Post hH h' [] [] [] → R (.ok (.ret (.bool x))) ⟨h', gG, dD, tk', oO⟩ := fun x h' tk' e p => e ▸ hr h' tk' p
  clear hr
  (k_dflt (refine' enter (binds := [(Str.ofString "op", .int op to)]) ?k1 ?k6 ?k7 ?k8 ?k9 ?kB ?_ ?c2 ?c3 ?c4 ?c5)); k_extra "ENT"; k_extra "d261"; (clear hT)
  k_extra "z"
  all_goals exact hr' _ _ _ (by first | rfl | (simp_all; done) | (simp_all; (k_extra "o"))) (by k_extra "P0")
theorem ispush176_ct (hd : dp + 1 < recursionLimit) (hu : un + 74 < cLine) (P : Pre w hH [] [])
    (hr : ∀ h' tk' , Post hH h' [] [] [] → R (.ok (.ret (.bool true))) ⟨h', gG, dD, tk', oO⟩) : codeAny (model PR w) (AA dp un fr gd) (.call (.ref 191) ⟨[.int 176 to], []⟩) R ⟨hH, gG, dD, tT, oO⟩ := by
  (k_dflt (refine' enter (binds := [(Str.ofString "op", .int 176 to)]) ?k1 ?k6 ?k7 ?k8 ?k9 ?kB ?_ ?c2 ?c3 ?c4 ?c5)); k_extra "ENT"; k_extra "d261"; (clear hT)
  k_extra "z"
  all_goals first | (apply hr; k_extra "P0") | (apply hr; k_extra "P1") | k_extra "ABS"
theorem ispush179_ct (hd : dp + 1 < recursionLimit) (hu : un + 74 < cLine) (P : Pre w hH [] [])
    (hr : ∀ h' tk' , Post hH h' [] [] [] → R (.ok (.ret (.bool true))) ⟨h', gG, dD, tk', oO⟩) : codeAny (model PR w) (AA dp un fr gd) (.call (.ref 191) ⟨[.int 179 to], []⟩) R ⟨hH, gG, dD, tT, oO⟩ := by
  (k_dflt (refine' enter (binds := [(Str.ofString "op", .int 179 to)]) ?k1 ?k6 ?k7 ?k8 ?k9 ?kB ?_ ?c2 ?c3 ?c4 ?c5)); k_extra "ENT"; k_extra "d261"; (clear hT)
  k_extra "z"
  all_goals first | (apply hr; k_extra "P0") | (apply hr; k_extra "P1") | k_extra "ABS"
theorem pshape176_ct {b : Array UInt8} (hd : dp + 1 < recursionLimit) (hu : un + 74 < cLine) (P : Pre w hH [] []) (hk : KBw.bInts b = ks) (hz : ks.length ≤ 1000) (i0 : 0 ≤ i) (i1 : i < ks.length) (hop : ks.getD i.toNat 0 = 176)
    (hr : ∀ h' tk' r t1 t2, Post hH h' [] [] [(r, tupO [.int (i + 1) t1, .int 1 t2, .bool false])] → R (.ok (.ret (.ref r))) ⟨h', gG, dD, tk', oO⟩) : codeAny (model PR w) (AA dp un fr gd) (.call (.ref 198) ⟨[.bytes b tb, .int i ti], []⟩) R ⟨hH, gG, dD, tT, oO⟩ := by
  k_extra "d98"; k_extra "ENT"; k_extra "d261"; (clear hT)
  k_extra "z37"
  all_goals first | (apply hr; k_extra "P0") | (apply hr; k_extra "P1") | k_extra "ABS"
theorem pshape179_ct {b : Array UInt8} (hd : dp + 1 < recursionLimit) (hu : un + 74 < cLine) (P : Pre w hH [] []) (hk : KBw.bInts b = ks) (hz : ks.length ≤ 1000) (i0 : 0 ≤ i) (i1 : i < ks.length) (hop : ks.getD i.toNat 0 = 179)
    (hr : ∀ h' tk' r t1 t2, Post hH h' [] [] [(r, tupO [.int (i + 1) t1, .int 4 t2, .bool false])] → R (.ok (.ret (.ref r))) ⟨h', gG, dD, tk', oO⟩) : codeAny (model PR w) (AA dp un fr gd) (.call (.ref 198) ⟨[.bytes b tb, .int i ti], []⟩) R ⟨hH, gG, dD, tT, oO⟩ := by
  k_extra "d98"; k_extra "ENT"; k_extra "d261"; (clear hT)
  k_extra "z37"
  all_goals first | (apply hr; k_extra "P0") | (apply hr; k_extra "P1") | k_extra "ABS"
theorem pushed176_ct {b : Array UInt8} {n0 : Int} (hd : dp + 2 < recursionLimit) (hu : un + 78 < cLine) (P : Pre w hH [] []) (hk : KBw.bInts b = ks) (hz : ks.length ≤ 1000) (i0 : 0 ≤ i) (i1 : i + 2 ≤ ks.length) (hop : ks.getD i.toNat 0 = 176) (hsl : (ks.drop (i.toNat + 1)).take 1 = [n0])
    (hr : ∀ h' tk' r D kk t1 u0, Post hH h' [] [] [(r, tupO [.ref D, .int (i + 1 + 1) t1]), (D, lsO [.int n0 u0] kk)] → R (.ok (.ret (.ref r))) ⟨h', gG, dD, tk', oO⟩) : codeAny (model PR w) (AA dp un fr gd) (.call (.ref 205) ⟨[.bytes b tb, .int i ti], []⟩) R ⟨hH, gG, dD, tT, oO⟩ := by
  k_extra "d98"; k_extra "ENT"; k_extra "d261"; (clear hT)
  k_extra "z38"
  all_goals first | (apply hr; k_extra "P0") | (apply hr; k_extra "P1") | k_extra "ABS"
theorem pushed179_ct {b : Array UInt8} {n0 n1 n2 n3 : Int} (hd : dp + 2 < recursionLimit) (hu : un + 78 < cLine) (P : Pre w hH [] []) (hk : KBw.bInts b = ks) (hz : ks.length ≤ 1000) (i0 : 0 ≤ i) (i1 : i + 5 ≤ ks.length) (hop : ks.getD i.toNat 0 = 179) (hsl : (ks.drop (i.toNat + 1)).take 4 = [n0, n1, n2, n3])
    (hr : ∀ h' tk' r D kk t1 u0 u1 u2 u3, Post hH h' [] [] [(r, tupO [.ref D, .int (i + 1 + 4) t1]), (D, lsO [.int n0 u0, .int n1 u1, .int n2 u2, .int n3 u3] kk)] → R (.ok (.ret (.ref r))) ⟨h', gG, dD, tk', oO⟩) : codeAny (model PR w) (AA dp un fr gd) (.call (.ref 205) ⟨[.bytes b tb, .int i ti], []⟩) R ⟨hH, gG, dD, tT, oO⟩ := by
  k_extra "d98"; k_extra "ENT"; k_extra "d261"; (clear hT)
  k_extra "z39"
  all_goals first | (apply hr; k_extra "P0") | (apply hr; k_extra "P1") | k_extra "ABS"
end
section
noncomputable abbrev plD (w : World) (pt : Nat → Tok) (b : Array UInt8) (tb : Tok) (at_ : Value) (cl : Addr) (tm : Tok) : Obj := dictOf [en w "code" (pt 0) (.bytes b tb), en w "at" (pt 1) at_, en w "calls" (pt 2) (.ref cl), en w "most_calls" (pt 3) (.int 32 tm)] 4
noncomputable abbrev mcD (w : World) (mt : Nat → Tok) (tm : Tok) (pl W od fn : Addr) (steps : Value) : Obj := dictOf [en w "place" (mt 0) (.ref pl), en w "work" (mt 1) (.ref W), en w "ops" (mt 2) (.ref od), en w "functions" (mt 3) (.ref fn), en w "most_steps" (mt 4) (.int 10000 tm), en w "steps" (mt 5) steps] 6
theorem isover0_ct {b : Array UInt8} (hd : dp + 1 < recursionLimit) (hu : un + 74 < cLine) (P : Pre w hH [] [.obj pl (instObj 173 pld), .obj pld (plD w pt b tb (.int i ti) cl tmc)]) (hk : KBw.bInts b = ks) (hz : ks.length ≤ 1000) (i0 : 0 ≤ i) (i1 : i < ks.length)
    (hr : ∀ h' tk' , Post hH h' [] [] [] → R (.ok (.ret (.bool false))) ⟨h', gG, dD, tk', oO⟩) : codeAny (model PR w) (AA dp un fr gd) (.call (.ref 149) ⟨[.ref pl], []⟩) R ⟨hH, gG, dD, tT, oO⟩ := by
  have hr' : ∀ x h' tk', x = false → Post hH h' [] [] [] → R (.ok (.ret (.bool x))) ⟨h', gG, dD, tk', oO⟩ := fun x h' tk' e p => e ▸ hr h' tk' p
  clear hr
  k_extra "d140"; k_extra "ENT"; k_extra "d261"; k_extra "d288"
  k_extra "z40"
  all_goals first | exact hr' _ _ _ (by first | rfl | (simp_all; done) | (simp_all; (k_extra "o"))) (by k_extra "P0") | k_extra "ABS"
theorem isover1_ct {b : Array UInt8} (hd : dp + 1 < recursionLimit) (hu : un + 74 < cLine) (P : Pre w hH [(cl, lsO [] nc)] [.obj pl (instObj 173 pld), .obj pld (plD w pt b tb (.int i ti) cl tmc)]) (hk : KBw.bInts b = ks) (hz : ks.length ≤ 1000) (i1 : i = ks.length)
    (hr : ∀ h' tk' , Post hH h' [(cl, lsO [] nc)] [(cl, lsO [] nc)] [] → R (.ok (.ret (.bool true))) ⟨h', gG, dD, tk', oO⟩) : codeAny (model PR w) (AA dp un fr gd) (.call (.ref 149) ⟨[.ref pl], []⟩) R ⟨hH, gG, dD, tT, oO⟩ := by
  k_extra "d140"; k_extra "ENT"; k_extra "d261"; k_extra "d288"
  k_extra "z40"
  all_goals first | (apply hr; k_extra "P0") | (apply hr; k_extra "P1") | k_extra "ABS"
end
section
noncomputable def OpC (w : World) (f W : Addr) (op : Int) (Ω : Objs) (T : List Fact) (Rel : Objs → Objs → Prop) : Prop := ∀ {dp un : Nat} {fr : Option (List Env)} {gd : Option (List Code)} {hH : Heap} {gG : Array GenState} {dD : Drawn} {tT : Nat} {oO : OsState} {R : Result → Shared → Prop} {tc : Tok},
  dp + 7 < recursionLimit → un + 98 < cLine → Pre w hH Ω T → (∀ h' tk' Ω' new, Rel Ω' new → Post hH h' Ω Ω' new → R (.ok (.ret .none)) ⟨h', gG, dD, tk', oO⟩) → codeAny (model PR w) (AA dp un fr gd) (.call (.ref f) ⟨[.ref W, .int op tc], []⟩) R ⟨hH, gG, dD, tT, oO⟩
theorem kdg_dict {o : Obj} (F : Fr g L h m) (hg : g.get? d = some o) (hd : o.IsDictOf (PySem.intKind PR w) kvs) : h.DictOf (PySem.intKind PR w) d kvs := Heap.dictOf_iff.mpr ⟨o, F.keep _ _ hg, hd⟩
theorem News.tail3 {a b c : Addr × Obj} {l : Objs} (N : News g L h (a :: b :: c :: l)) : News g L h l := fun p hp => N p (.tail _ (.tail _ (.tail _ hp)))
section
variable {w : World} {A : Around} {E : Value → Shared → Prop} {sS : Shared} {g : Heap} {L d : Addr} {m : Str → Option Value} {o : Obj} {kvs : List (Int × Value)} {k : Int} {t : Tok} {v : Value}
theorem kdg_item {value slice : PySem.Expr} (F : Fr g L sS.heap m) (hg : g.get? d = some o) (hd : o.IsDictOf (PySem.intKind PR w) kvs) (hl : valueAt kvs k = some v) (h : Q v { sS with toks := sS.toks + 1 })
    (hs : subscripted slice false (.ref d) (.int k t) = operate [.ref d, .int k t] (getItem (.ref d) (.int k t)) := by with_unfolding_all rfl) (ht : ∀ r, letTemporaryGo value (.ref d) r = pure () := by intro _; with_unfolding_all rfl) :
    wpAny (model PR w) A (subscriptTail value slice (.ref d) (.int k t)) Q E sS :=
  have hD := kdg_dict F hg hd
  subscriptTail_builtin hD.typeIs slot_dict_getitem.lookup (wpAny_getItem_of (intKind_is _ _ _ _) hD.mapOf hl h) hs ht
theorem kdg_in (F : Fr g L sS.heap m) (hg : g.get? d = some o) (hd : o.IsDictOf (PySem.intKind PR w) kvs) (lo : (d == sysModules) = false) (hl : valueAt kvs k = some v) (h : Q (.bool true) { sS with toks := sS.toks + 1 }) :
    wpAny (model PR w) A (compareOp .In (.int k t) (.ref d)) Q E sS := wpAny_in_of (intKind_is _ _ _ _) lo (kdg_dict F hg hd).mapOf (by rw [show (valueAt kvs k).isSome = true from by rw [hl]; rfl]; exact h)
end
theorem step_ct {fn : Addr} {tk : Tok} {k : Int} {b : Array UInt8}
    (hd : dp + 9 < recursionLimit) (hu : un + 110 < cLine) (P : Pre w hH ((pld, plD w pt b tb (.int i ti) cl tmc) :: Ω) (.obj M (instObj 279 md) :: .obj md (mcD w mt tms pl W od fn (.int k tk)) :: .obj pl (instObj 173 pld) :: .obj od (oo) :: T))
    (hk : KBw.bInts b = ks) (hz : ks.length ≤ 1000) (i0 : 0 ≤ i) (i1 : i < ks.length) (hop0 : ks.getD i.toNat 0 = op) (o1 : op ≠ 64) (o2 : op ≠ 65) (o3 : op < 176)
    (x1 : ([88, 27, 89] : List Int).any (fun x => x == op) = false) (x2 : ([28, 120, 121] : List Int).any (fun x => x == op) = false) (x3 : ([43, 42, 44, 137, 45] : List Int).any (fun x => x == op) = false)
    (hdo : oo.IsDictOf (PySem.intKind PR w) kvs) (hlo : (od == sysModules) = false) (hf : valueAt kvs op = some (.ref f)) (hkf : keepIn (KK w.params) (.ref f) = true) (hop : OpC w f W op Ω T Rel) (hra : ∀ Ω' new, Rel Ω' new → ads Ω' = ads Ω)
    (hr : ∀ h' tk' Ω' new t', Rel Ω' new → Post hH h' ((pld, plD w pt b tb (.int i ti) cl tmc) :: Ω) ((pld, plD w pt b tb (.int (i + 1) t') cl tmc) :: Ω') new → R (.ok (.ret .none)) ⟨h', gG, dD, tk', oO⟩) : codeAny (model PR w) (AA dp un fr gd) (.call (.ref 255) ⟨[.ref M], []⟩) R ⟨hH, gG, dD, tT, oO⟩ := by
  k_extra "d142"; k_extra "ENT"; (dsimp only [Facts] at hT); (obtain ⟨hT0, hT1, hT2, hT3, _⟩ := hT)
  k_extra "z41"
  all_goals first | (refine' hr _ _ _ _ _ hrel (postN (by k_extra "w") (by k_extra "w") (by k_extra "w") (by first | k_extra "w" | assumption) (List.Sublist.refl _) ?_); exact congrArg (List.cons pld) (hra _ _ hrel)) | k_extra "ABS"
end
section
theorem step176G_ct {fn : Addr} {tk0 : Tok} {S : Addr} {b : Array UInt8} {n0 : Int} {xs : List Value} (hd : dp + 4 < recursionLimit) (hu : un + 86 < cLine) (P : Pre w hH [(pld, plD w pt b tb (.int i ti) cl tmc), (l, lsO xs nq)] [.obj M (instObj 279 md), .obj md (mcD w mt tms pl W od fn (.int kq tk0)), .obj pl (instObj 173 pld), .obj W (instObj 1244 Wd), .obj Wd (wkD w wt wn S k zs cv sg sc), .obj k (instObj 1193 kd), .obj kd (stkD w ts tm l)]) (hk : KBw.bInts b = ks) (hz : ks.length ≤ 1000) (i0 : 0 ≤ i) (i1 : i + 2 ≤ ks.length) (hop : ks.getD i.toNat 0 = 176) (hsl : (ks.drop (i.toNat + 1)).take 1 = [n0]) (hx : (xs.length : Int) < 64)
    (hr : ∀ h' tk' t' n' u0', Post hH h' [(pld, plD w pt b tb (.int i ti) cl tmc), (l, lsO xs nq)] [(pld, plD w pt b tb (.int (i + 1 + 1) t') cl tmc), (l, lsO (xs ++ [.int (wrapZ n0) u0']) n')] [] → R (.ok (.ret .none)) ⟨h', gG, dD, tk', oO⟩) : codeAny (model PR w) (AA dp un fr gd) (.call (.ref 255) ⟨[.ref M], []⟩) R ⟨hH, gG, dD, tT, oO⟩ := by
  k_extra "d142"; k_extra "ENT"; k_extra "d261"; k_extra "d274"
  k_extra "z42"
  all_goals first | (apply hr; k_extra "P0") | (apply hr; k_extra "P1") | k_extra "ABS"
theorem step176a_ct {fn : Addr} {tk0 : Tok} {S : Addr} {b : Array UInt8} {n0 : Int} (hd : dp + 4 < recursionLimit) (hu : un + 86 < cLine) (P : Pre w hH [(pld, plD w pt b tb (.int i ti) cl tmc), (l, lsO [] nq)] [.obj M (instObj 279 md), .obj md (mcD w mt tms pl W od fn (.int kq tk0)), .obj pl (instObj 173 pld), .obj W (instObj 1244 Wd), .obj Wd (wkD w wt wn S k zs cv sg sc), .obj k (instObj 1193 kd), .obj kd (stkD w ts tm l)]) (hk : KBw.bInts b = ks) (hz : ks.length ≤ 1000) (i0 : 0 ≤ i) (i1 : i + 2 ≤ ks.length) (hop : ks.getD i.toNat 0 = 176) (hsl : (ks.drop (i.toNat + 1)).take 1 = [n0])
    (hr : ∀ h' tk' t' n' u0', Post hH h' [(pld, plD w pt b tb (.int i ti) cl tmc), (l, lsO [] nq)] [(pld, plD w pt b tb (.int (i + 1 + 1) t') cl tmc), (l, lsO [.int (wrapZ n0) u0'] n')] [] → R (.ok (.ret .none)) ⟨h', gG, dD, tk', oO⟩) : codeAny (model PR w) (AA dp un fr gd) (.call (.ref 255) ⟨[.ref M], []⟩) R ⟨hH, gG, dD, tT, oO⟩ := by
  exact step176G_ct (xs := []) hd hu P hk hz i0 i1 hop hsl (by decide : (0 : Int) < 64) hr
theorem step176b_ct {fn : Addr} {tk0 : Tok} {S : Addr} {b : Array UInt8} {n0 : Int} (hd : dp + 4 < recursionLimit) (hu : un + 86 < cLine) (P : Pre w hH [(pld, plD w pt b tb (.int i ti) cl tmc), (l, lsO [.int x0 t0] nq)] [.obj M (instObj 279 md), .obj md (mcD w mt tms pl W od fn (.int kq tk0)), .obj pl (instObj 173 pld), .obj W (instObj 1244 Wd), .obj Wd (wkD w wt wn S k zs cv sg sc), .obj k (instObj 1193 kd), .obj kd (stkD w ts tm l)]) (hk : KBw.bInts b = ks) (hz : ks.length ≤ 1000) (i0 : 0 ≤ i) (i1 : i + 2 ≤ ks.length) (hop : ks.getD i.toNat 0 = 176) (hsl : (ks.drop (i.toNat + 1)).take 1 = [n0])
    (hr : ∀ h' tk' t' n' u0', Post hH h' [(pld, plD w pt b tb (.int i ti) cl tmc), (l, lsO [.int x0 t0] nq)] [(pld, plD w pt b tb (.int (i + 1 + 1) t') cl tmc), (l, lsO [.int x0 t0, .int (wrapZ n0) u0'] n')] [] → R (.ok (.ret .none)) ⟨h', gG, dD, tk', oO⟩) : codeAny (model PR w) (AA dp un fr gd) (.call (.ref 255) ⟨[.ref M], []⟩) R ⟨hH, gG, dD, tT, oO⟩ := by
  exact step176G_ct (xs := [.int x0 t0]) hd hu P hk hz i0 i1 hop hsl (by decide : (1 : Int) < 64) hr
theorem step179_ct {fn : Addr} {tk0 : Tok} {S : Addr} {b : Array UInt8} {n0 n1 n2 n3 : Int} (hd : dp + 4 < recursionLimit) (hu : un + 86 < cLine) (P : Pre w hH [(pld, plD w pt b tb (.int i ti) cl tmc), (l, lsO [] nq)] [.obj M (instObj 279 md), .obj md (mcD w mt tms pl W od fn (.int kq tk0)), .obj pl (instObj 173 pld), .obj W (instObj 1244 Wd), .obj Wd (wkD w wt wn S k zs cv sg sc), .obj k (instObj 1193 kd), .obj kd (stkD w ts tm l)]) (hk : KBw.bInts b = ks) (hz : ks.length ≤ 1000) (i0 : 0 ≤ i) (i1 : i + 5 ≤ ks.length) (hop : ks.getD i.toNat 0 = 179) (hsl : (ks.drop (i.toNat + 1)).take 4 = [n0, n1, n2, n3])
    (hr : ∀ h' tk' t' n' u0' u1' u2' u3', Post hH h' [(pld, plD w pt b tb (.int i ti) cl tmc), (l, lsO [] nq)] [(pld, plD w pt b tb (.int (i + 1 + 4) t') cl tmc), (l, lsO [.int (wrapZ n0) u0', .int (wrapZ n1) u1', .int (wrapZ n2) u2', .int (wrapZ n3) u3'] n')] [] → R (.ok (.ret .none)) ⟨h', gG, dD, tk', oO⟩) : codeAny (model PR w) (AA dp un fr gd) (.call (.ref 255) ⟨[.ref M], []⟩) R ⟨hH, gG, dD, tT, oO⟩ := by
  k_extra "d142"; k_extra "ENT"; k_extra "d261"; k_extra "d274"
  k_extra "z43"
  all_goals first | (apply hr; k_extra "P0") | (apply hr; k_extra "P1") | k_extra "ABS"
end
section
theorem Emb.none : ∀ (N : Objs), Emb [] [] N N
  | [] => .nil
  | _ :: N => .skip (Emb.none N)
theorem Emb.pre {o : Objs} (E : Emb o o' N N') : ∀ (P : Objs), Emb o o' (P ++ N) (P ++ N')
  | [] => E
  | _ :: P => .skip (E.pre P)
theorem Emb.post {o : Objs} (E : Emb o o' N N') (P : Objs) : Emb o o' (N ++ P) (N' ++ P) := by
  induction E with
  | nil => exact Emb.none _
  | skip _ ih => exact .skip ih
  | take _ ih => exact .take ih
theorem Sel.post {a : Addr} {o : Obj} {R : Objs} (h : (a, o) ∈ R) : ∀ {Ω : Objs}, objs.Sublist Ω → Sel a o objs (Ω ++ R) := by
  intro Ω S
  induction S with
  | slnil =>
    induction R with
    | nil => cases h
    | cons p R ih =>
      rcases List.mem_cons.mp h with rfl | h
      · exact .here (List.nil_sublist _)
      · exact .skip (ih h)
  | cons _ _ ih => exact .skip ih
  | cons_cons _ _ ih => exact .take ih
structure MC where
  (M md pl pld W od fn cl : Addr)
  (mt pt : Nat → Tok)
  (tms tb tmc : Tok)
  (b : Array UInt8)
  nc : Nat
noncomputable abbrev MC.pO (c : MC) (w : World) (i : Int) (ti : Tok) : Addr × Obj := (c.pld, plD w c.pt c.b c.tb (.int i ti) c.cl c.tmc)
noncomputable abbrev MC.mO (c : MC) (w : World) (k : Int) (tk : Tok) : Addr × Obj := (c.md, mcD w c.mt c.tms c.pl c.W c.od c.fn (.int k tk))
noncomputable abbrev MC.F (c : MC) (w : World) (k : Int) (tk : Tok) (T : List Fact) : List Fact := .obj c.M (instObj 279 c.md) :: .obj c.md (mcD w c.mt c.tms c.pl c.W c.od c.fn (.int k tk)) :: .obj c.pl (instObj 173 c.pld) :: T
noncomputable def StepC (w : World) (c : MC) (i i' : Int) (Ω : Objs) (T : List Fact) (Rel : Objs → Objs → Prop) : Prop := ∀ {dp un : Nat} {fr : Option (List Env)} {gd : Option (List Code)} {hH : Heap} {gG : Array GenState} {dD : Drawn} {tT : Nat} {oO : OsState} {R : Result → Shared → Prop} {k : Int} {tk ti : Tok},
  dp + 9 < recursionLimit → un + 110 < cLine → Pre w hH (c.pO w i ti :: Ω) (c.F w k tk T) →
  (∀ h' tk' Ω' new t', Rel Ω' new → Post hH h' (c.pO w i ti :: Ω) (c.pO w i' t' :: Ω') new → R (.ok (.ret .none)) ⟨h', gG, dD, tk', oO⟩) → codeAny (model PR w) (AA dp un fr gd) (.call (.ref 255) ⟨[.ref c.M], []⟩) R ⟨hH, gG, dD, tT, oO⟩
noncomputable def GoesG (w : World) (c : MC) (n0 : Int) (T0 : List Fact) (B : Int → Objs → Objs → Prop) : Nat → Int → Objs → Objs → Prop
  | 0, i, Ω, Nw => B i Ω Nw
  | n + 1, i, Ω, Nw => 0 ≤ i ∧ i < n0 ∧ ∃ i' T Rel, StepC w c i i' Ω T Rel ∧ (∀ H, Facts H T0 → (∀ p ∈ Nw, H.get? p.1 = some p.2) → Facts H T) ∧
      ∀ Ω' new, Rel Ω' new → ads Ω' = ads Ω ∧ ∃ Nw', Nw'.Sublist (new ++ Nw) ∧ GoesG w c n0 T0 B n i' Ω' Nw'
noncomputable abbrev Goes (w : World) (c : MC) (n0 : Int) (T0 : List Fact) (Fin : Objs → Objs → Prop) : Nat → Int → Objs → Objs → Prop := GoesG w c n0 T0 (fun i Ω Nw => i = n0 ∧ Fin Ω Nw)
theorem run_pre {c : MC} {k : Int} {tk : Tok} (F : Fr g L h m) (N : News g L h (c.mO w k tk :: (c.cl, lsO [] c.nc) :: c.pO w i ti :: (Ω ++ Nw)))
    (nd : (ads (c.mO w k tk :: (c.cl, lsO [] c.nc) :: c.pO w i ti :: (Ω ++ Nw))).Nodup) (X : (KK w.params).In g) (Tp : Top VW lo mean mg mb g) (f1 : g.get? c.M = some (instObj 279 c.md)) (f2 : g.get? c.pl = some (instObj 173 c.pld)) (hT : Facts g T0)
    (hf : ∀ H, Facts H T0 → (∀ p ∈ Nw, H.get? p.1 = some p.2) → Facts H T) : Pre w h (c.pO w i ti :: Ω) (c.F w k tk T) := by
  refine Pre.of F N nd (.cons _ (.cons _ (.cons_cons _ (List.sublist_append_left _ _)))) X Tp fun H B => ?_
  refine Facts.obj (B.go f1) (Facts.obj (B.no (.here (.cons _ (.cons_cons _ (List.sublist_append_left _ _))))) (Facts.obj (B.go f2) ?_))
  exact hf H (Facts.mono (fun _ _ z => B.go z) hT) fun p hp => B.no (.skip (.skip (.take (Sel.post hp (List.Sublist.refl _)))))
theorem run_use {c : MC} {k i' : Int} {tk t' : Tok} {Ω' Nw' : Objs} (P : Post h h' (c.pO w i ti :: Ω) (c.pO w i' t' :: Ω') new) (F : Fr g L h m) (N : News g L h (c.mO w k tk :: (c.cl, lsO [] c.nc) :: c.pO w i ti :: (Ω ++ Nw)))
    (nd : (ads (c.mO w k tk :: (c.cl, lsO [] c.nc) :: c.pO w i ti :: (Ω ++ Nw))).Nodup) (ha : ads Ω' = ads Ω) (hs : Nw'.Sublist (new ++ Nw)) :
    Fr g L h' m ∧ News g L h' (c.mO w k tk :: (c.cl, lsO [] c.nc) :: c.pO w i' t' :: (Ω' ++ Nw')) ∧ (ads (c.mO w k tk :: (c.cl, lsO [] c.nc) :: c.pO w i' t' :: (Ω' ++ Nw'))).Nodup := by
  obtain ⟨F9, N9, nd9⟩ := P.use F N nd (.skip (.skip (.take ((Emb.all ha).post Nw))))
  have sub : ∀ p ∈ (c.mO w k tk :: (c.cl, lsO [] c.nc) :: c.pO w i' t' :: (Ω' ++ Nw')), p ∈ new ++ (c.mO w k tk :: (c.cl, lsO [] c.nc) :: c.pO w i' t' :: (Ω' ++ Nw)) := by
    intro p hp
    have q : p ∈ new ∨ p ∈ Nw → p ∈ new ++ (c.mO w k tk :: (c.cl, lsO [] c.nc) :: c.pO w i' t' :: (Ω' ++ Nw)) := by
      rintro (z | z)
      · exact List.mem_append_left _ z
      · exact List.mem_append_right _ (.tail _ (.tail _ (.tail _ (List.mem_append_right _ z))))
    rcases List.mem_cons.mp hp with rfl | hp
    · exact List.mem_append_right _ (.head _)
    rcases List.mem_cons.mp hp with rfl | hp
    · exact List.mem_append_right _ (.tail _ (.head _))
    rcases List.mem_cons.mp hp with rfl | hp
    · exact List.mem_append_right _ (.tail _ (.tail _ (.head _)))
    rcases List.mem_append.mp hp with hp | hp
    · exact List.mem_append_right _ (.tail _ (.tail _ (.tail _ (List.mem_append_left _ hp))))
    · exact q (List.mem_append.mp (hs.subset hp))
  refine ⟨F9, fun p hp => N9 p (sub p hp), ?_⟩
  have e : ((c.mO w k tk :: (c.cl, lsO [] c.nc) :: c.pO w i' t' :: (Ω' ++ (new ++ Nw)))).Perm (new ++ (c.mO w k tk :: (c.cl, lsO [] c.nc) :: c.pO w i' t' :: (Ω' ++ Nw))) := by
    have h1 : (Ω' ++ (new ++ Nw)).Perm (new ++ (Ω' ++ Nw)) := by
      rw [← List.append_assoc, ← List.append_assoc]
      exact List.Perm.append_right _ List.perm_append_comm
    refine ((((h1.cons _).cons _).cons _)).trans ?_
    refine List.Perm.trans ?_ (List.perm_middle.symm)
    refine List.Perm.cons _ ?_
    refine List.Perm.trans ?_ (List.perm_middle.symm)
    refine List.Perm.cons _ ?_
    exact List.perm_middle.symm
  have nd8 : (ads (c.mO w k tk :: (c.cl, lsO [] c.nc) :: c.pO w i' t' :: (Ω' ++ (new ++ Nw)))).Nodup := (e.map _).nodup_iff.mpr nd9
  exact nd_sub nd8 (.cons_cons _ (.cons_cons _ (.cons_cons _ (List.Sublist.append (List.Sublist.refl _) hs))))
theorem run_post {o0 : Objs} {a b d : Addr × Obj} (G : Gd g h (ads o0)) (F : Fr g L h' m) (N : News g L h' (a :: b :: d :: (Ω ++ Nw))) (nd : (ads (a :: b :: d :: (Ω ++ Nw))).Nodup) (e : ads (a :: b :: d :: Ω) = ads o0) : Post h h' o0 (a :: b :: d :: Ω) Nw := by
  have p : (a :: b :: d :: (Ω ++ Nw)).Perm (Nw ++ (a :: b :: d :: Ω)) := by
    rw [← List.cons_append, ← List.cons_append, ← List.cons_append]
    exact List.perm_append_comm
  exact postN G F (fun q hq => N q (p.symm.subset hq)) ((p.map _).nodup_iff.mp nd) (List.Sublist.refl _) e
end
section
theorem run_ct {c : MC} {n0 : Int} {tk : Tok}
    (hd : dp + 11 < recursionLimit) (hu : un + 130 < cLine) (hk : KBw.bInts c.b = ks) (hz : ks.length ≤ 1000) (P : Pre w hH (c.mO w 0 tk :: (c.cl, lsO [] c.nc) :: c.pO w 0 ti :: Ω) (.obj c.M (instObj 279 c.md) :: .obj c.pl (instObj 173 c.pld) :: T0))
    (hn : (n : Int) = n0) (hn1 : n0 ≤ 9999) (G : Goes w c ks.length T0 Fin n 0 Ω [])
    (hr : ∀ h' tk' Ω' Nw tk'' ti', ads Ω' = ads Ω → Fin Ω' Nw → Post hH h' (c.mO w 0 tk :: (c.cl, lsO [] c.nc) :: c.pO w 0 ti :: Ω) (c.mO w n0 tk'' :: (c.cl, lsO [] c.nc) :: c.pO w ks.length ti' :: Ω') Nw → R (.ok (.ret (.int n0 tk''))) ⟨h', gG, dD, tk', oO⟩) : codeAny (model PR w) (AA dp un fr gd) (.call (.ref 248) ⟨[.ref c.M], []⟩) R ⟨hH, gG, dD, tT, oO⟩ := by
  k_extra "d132"; k_extra "ENT"; (dsimp only [Facts] at hT); (obtain ⟨hT0, hT1, _⟩ := hT)
  have hX : Facts g0 T0 := ‹_›
  k_extra "z44"
  all_goals first
    | k_extra "d68"
    | (have hk2 : k = n0 := by (k_extra "o")
       subst hk2
       exact hr _ _ _ _ _ _ ha1 hFin (run_post (by k_extra "w") (by k_extra "w") (by k_extra "w") (by k_extra "w") (congrArg (fun z => c.md :: c.cl :: c.pld :: z) ha1)))
    | k_extra "ABS"
end
section
theorem Facts.iff : Facts H T ↔ ∀ f ∈ T, Facts H [f] := by
  induction T with
  | nil => exact Iff.intro (fun _ _ h => nomatch h) fun _ => trivial
  | cons f T ih =>
    have e : Facts H (f :: T) ↔ Facts H [f] ∧ Facts H T := by cases f <;> exact ⟨fun x => ⟨⟨x.1, trivial⟩, x.2⟩, fun x => ⟨x.1.1, x.2⟩⟩
    rw [e, ih]
    refine Iff.intro (fun x g hg => ?_) fun x => ⟨x f (.head _), fun g hg => x g (.tail _ hg)⟩
    rcases List.mem_cons.mp hg with q | q
    · subst q; exact x.1
    · exact x.2 g q
noncomputable def pkm (m : List Bool) (l : List Fact) : List Fact := ((m.zip l).filter (·.1)).map (·.2)
theorem Facts.pk (m : List Bool) {T : List Fact} (h : Facts H T) : Facts H (pkm m T) := by
  rw [Facts.iff] at h ⊢
  intro f hf
  obtain ⟨p, hp, rfl⟩ := List.mem_map.mp hf
  exact h _ (List.of_mem_zip (a := p.1) (b := p.2) (List.mem_filter.mp hp).1).2
theorem Facts.tl {f : Fact} (h : Facts H (f :: T)) : Facts H T := by
  rw [Facts.iff] at h ⊢
  exact fun g hg => h g (.tail _ hg)
theorem tup_of {a : Addr} {l : List Value} (h : H.get? a = some (tupO l)) : IsTup H a l.toArray := ⟨_, h, rfl, _, rfl⟩
theorem Facts.set {a : Addr} {l : List Value} (y : H.get? a = some (tupO l)) (n : Nat) {T : List Fact} (h : Facts H T) : Facts H (T.set n (.tup a l)) := by
  rw [Facts.iff] at h ⊢
  intro f hf
  rcases List.mem_or_eq_of_mem_set hf with q | q
  · exact h f q
  · subst q; exact ⟨tup_of y, trivial⟩
noncomputable abbrev WKF (w : World) (W Wd S k zs cv sg sc kd l : Addr) (wt wn ts : Nat → Tok) (tm : Tok) : List Fact := [.obj W (instObj 1244 Wd), .obj Wd (wkD w wt wn S k zs cv sg sc), .obj k (instObj 1193 kd), .obj kd (stkD w ts tm l)]
theorem stepO {c : MC} (hk : KBw.bInts c.b = ks) (hz : ks.length ≤ 1000) (i0 : 0 ≤ i) (i1 : i < ks.length) (hop0 : ks.getD i.toNat 0 = op) (o1 : op ≠ 64) (o2 : op ≠ 65) (o3 : op < 176)
    (x1 : ([88, 27, 89] : List Int).any (fun x => x == op) = false) (x2 : ([28, 120, 121] : List Int).any (fun x => x == op) = false) (x3 : ([43, 42, 44, 137, 45] : List Int).any (fun x => x == op) = false)
    (hdo : oo.IsDictOf (PySem.intKind PR w) kvs) (hlo : (c.od == sysModules) = false) (hf : valueAt kvs op = some (.ref f)) (hkf : keepIn (KK w.params) (.ref f) = true) (hop : OpC w f c.W op Ω T Rel) (hra : ∀ Ω' new, Rel Ω' new → ads Ω' = ads Ω) :
    StepC w c i (i + 1) Ω (.obj c.od oo :: T) Rel := fun hd hu P hr => step_ct hd hu P hk hz i0 i1 hop0 o1 o2 o3 x1 x2 x3 hdo hlo hf hkf hop hra hr
section
variable {w : World} {c : MC} {i x0 n0 n1 n2 n3 : Int} {ks : List Int} {t0 : Tok} {nq : Nat} {Ω : Objs} {T : List Fact} {Wd S k zs cv sg sc kd l : Addr} {wt wn ts : Nat → Tok} {tm : Tok}
theorem stepP176a (ej : i + 1 + 1 = j) (hk : KBw.bInts c.b = ks) (hz : ks.length ≤ 1000) (i0 : 0 ≤ i) (i1 : i + 2 ≤ ks.length) (hop : ks.getD i.toNat 0 = 176) (hsl : (ks.drop (i.toNat + 1)).take 1 = [n0]) (hT : ∀ H, Facts H T → Facts H (WKF w c.W Wd S k zs cv sg sc kd l wt wn ts tm)) :
    StepC w c i j ((l, lsO [] nq) :: Ω) T (fun Ω' new => new = [] ∧ ∃ u0' n', Ω' = (l, lsO [.int (wrapZ n0) u0'] n') :: Ω) := fun hd hu P hr => by
  subst ej
  have P2 := P.narrow (objs := [c.pO w _ _, (l, lsO [] nq)]) (T' := c.F w _ _ (WKF w c.W Wd S k zs cv sg sc kd l wt wn ts tm)) (.cons_cons _ (.cons_cons _ (List.nil_sublist _))) (fun g H hT' B9 => ⟨B9.go hT'.1, B9.go hT'.2.1, B9.go hT'.2.2.1, Facts.mono (fun _ _ z => B9.go z) (hT g hT'.2.2.2)⟩)
  refine step176a_ct (by (k_extra "o")) (by (k_extra "o")) P2 hk hz i0 i1 hop hsl fun h' tk' t' n' u0' Q => ?_
  exact hr _ _ _ _ _ ⟨rfl, u0', n', rfl⟩ (Q.widen P.led P.nd (.take (.take (Emb.none _))))
theorem stepP176b (ej : i + 1 + 1 = j) (hk : KBw.bInts c.b = ks) (hz : ks.length ≤ 1000) (i0 : 0 ≤ i) (i1 : i + 2 ≤ ks.length) (hop : ks.getD i.toNat 0 = 176) (hsl : (ks.drop (i.toNat + 1)).take 1 = [n0]) (hT : ∀ H, Facts H T → Facts H (WKF w c.W Wd S k zs cv sg sc kd l wt wn ts tm)) :
    StepC w c i j ((l, lsO [.int x0 t0] nq) :: Ω) T (fun Ω' new => new = [] ∧ ∃ u0' n', Ω' = (l, lsO [.int x0 t0, .int (wrapZ n0) u0'] n') :: Ω) := fun hd hu P hr => by
  subst ej
  have P2 := P.narrow (objs := [c.pO w _ _, (l, lsO [.int x0 t0] nq)]) (T' := c.F w _ _ (WKF w c.W Wd S k zs cv sg sc kd l wt wn ts tm)) (.cons_cons _ (.cons_cons _ (List.nil_sublist _))) (fun g H hT' B9 => ⟨B9.go hT'.1, B9.go hT'.2.1, B9.go hT'.2.2.1, Facts.mono (fun _ _ z => B9.go z) (hT g hT'.2.2.2)⟩)
  refine step176b_ct (by (k_extra "o")) (by (k_extra "o")) P2 hk hz i0 i1 hop hsl fun h' tk' t' n' u0' Q => ?_
  exact hr _ _ _ _ _ ⟨rfl, u0', n', rfl⟩ (Q.widen P.led P.nd (.take (.take (Emb.none _))))
theorem stepP179 (ej : i + 1 + 4 = j) (hk : KBw.bInts c.b = ks) (hz : ks.length ≤ 1000) (i0 : 0 ≤ i) (i1 : i + 5 ≤ ks.length) (hop : ks.getD i.toNat 0 = 179) (hsl : (ks.drop (i.toNat + 1)).take 4 = [n0, n1, n2, n3]) (hT : ∀ H, Facts H T → Facts H (WKF w c.W Wd S k zs cv sg sc kd l wt wn ts tm)) :
    StepC w c i j ((l, lsO [] nq) :: Ω) T (fun Ω' new => new = [] ∧ ∃ u0' u1' u2' u3' n', Ω' = (l, lsO [.int (wrapZ n0) u0', .int (wrapZ n1) u1', .int (wrapZ n2) u2', .int (wrapZ n3) u3'] n') :: Ω) := fun hd hu P hr => by
  subst ej
  have P2 := P.narrow (objs := [c.pO w _ _, (l, lsO [] nq)]) (T' := c.F w _ _ (WKF w c.W Wd S k zs cv sg sc kd l wt wn ts tm)) (.cons_cons _ (.cons_cons _ (List.nil_sublist _))) (fun g H hT' B9 => ⟨B9.go hT'.1, B9.go hT'.2.1, B9.go hT'.2.2.1, Facts.mono (fun _ _ z => B9.go z) (hT g hT'.2.2.2)⟩)
  refine step179_ct (by (k_extra "o")) (by (k_extra "o")) P2 hk hz i0 i1 hop hsl fun h' tk' t' n' u0' u1' u2' u3' Q => ?_
  exact hr _ _ _ _ _ ⟨rfl, u0', u1', u2', u3', n', rfl⟩ (Q.widen P.led P.nd (.take (.take (Emb.none _))))
end
end
section
noncomputable def fctR (w : World) (W : Addr) (qa : Nat → Addr) (qt : Nat → Nat → Tok) (qk : Nat → Tok) (qv : Nat → Value) (qi : Nat → Int) (qn : Nat → Nat) (qb : Nat → Bool) : List Fact := [.obj W (instObj 1244 (qa (nat_lit 0))), .obj (qa (nat_lit 0)) (wkD w (qt (nat_lit 0)) (qt (nat_lit 1)) (qa (nat_lit 1)) (qa (nat_lit 2)) (qa (nat_lit 3)) (qa (nat_lit 4)) (qa (nat_lit 5)) (qa (nat_lit 6))), .obj (qa (nat_lit 2)) (instObj 1193 (qa (nat_lit 7))), .obj (qa (nat_lit 7)) (stkD w (qt (nat_lit 2)) (qk (nat_lit 0)) (qa (nat_lit 8))), .obj (qa (nat_lit 4)) (lsO [.int (qi (nat_lit 0)) (qk (nat_lit 1))] (qn (nat_lit 0))), .obj (qa (nat_lit 1)) (instObj 1130 (qa (nat_lit 9))), .obj (qa (nat_lit 9)) (gsD w (qt (nat_lit 3)) (qt (nat_lit 4)) (qa (nat_lit 10)) (qa (nat_lit 11)) (qa (nat_lit 12)) (qv (nat_lit 0)) (qv (nat_lit 1)) (qv (nat_lit 2)) (qv (nat_lit 3)) (qv (nat_lit 4)) (qv (nat_lit 5)) (qv (nat_lit 6)) (qa (nat_lit 13))), .obj (qa (nat_lit 13)) (instObj 532 (qa (nat_lit 14))), .obj (qa (nat_lit 14)) (rdD w (qt (nat_lit 5)))]
theorem oR69 : OpC w 814 W 69 [((qa (nat_lit 8)), lsO [.int 0 q1] n0)] (fctR w W qa qt qk qv qi qn qb) (fun Ω' new => ∀ K : Objs → Objs → Prop, (∀ t' n2, K [((qa (nat_lit 8)), lsO [.int (wrapZ (qi (nat_lit 0))) t'] n2)] []) → K Ω' new) := by
  intro dp un fr gd hH gG dD tT oO R tc hd hu P hr
  have P2 := P.narrow (objs := [((qa (nat_lit 8)), lsO [.int 0 q1] n0)]) (T' := [.obj W (instObj 1244 (qa (nat_lit 0))), .obj (qa (nat_lit 0)) (wkD w (qt (nat_lit 0)) (qt (nat_lit 1)) (qa (nat_lit 1)) (qa (nat_lit 2)) (qa (nat_lit 3)) (qa (nat_lit 4)) (qa (nat_lit 5)) (qa (nat_lit 6))), .obj (qa (nat_lit 2)) (instObj 1193 (qa (nat_lit 7))), .obj (qa (nat_lit 7)) (stkD w (qt (nat_lit 2)) (qk (nat_lit 0)) (qa (nat_lit 8))), .obj (qa (nat_lit 4)) (lsO [.int (qi (nat_lit 0)) (qk (nat_lit 1))] (qn (nat_lit 0)))]) (by k_extra "d36") (fun g9 H9 hT B9 => (fun hM => Facts.pk [true, true, true, true, true] hM) (Facts.mono (fun _ _ z => B9.go z) hT))
  refine rcvt0_ct (by (k_extra "o")) (by (k_extra "o")) P2  fun h' tk' t' n2 Q => ?_
  exact hr _ _ _ _ (fun K k => k t' n2) (Q.widen P.led P.nd (by k_extra "d42"))
theorem oR104 : OpC w 772 W 104 [((qa (nat_lit 8)), lsO [.int x q0] n0)] (fctR w W qa qt qk qv qi qn qb) (fun Ω' new => ∀ K : Objs → Objs → Prop, (∀ t' n2, K [((qa (nat_lit 8)), lsO [.int (wrapZ (roundZ x)) t'] n2)] []) → K Ω' new) := by
  intro dp un fr gd hH gG dD tT oO R tc hd hu P hr
  have P2 := P.narrow (objs := [((qa (nat_lit 8)), lsO [.int x q0] n0)]) (T' := [.obj W (instObj 1244 (qa (nat_lit 0))), .obj (qa (nat_lit 0)) (wkD w (qt (nat_lit 0)) (qt (nat_lit 1)) (qa (nat_lit 1)) (qa (nat_lit 2)) (qa (nat_lit 3)) (qa (nat_lit 4)) (qa (nat_lit 5)) (qa (nat_lit 6))), .obj (qa (nat_lit 2)) (instObj 1193 (qa (nat_lit 7))), .obj (qa (nat_lit 7)) (stkD w (qt (nat_lit 2)) (qk (nat_lit 0)) (qa (nat_lit 8))), .obj (qa (nat_lit 1)) (instObj 1130 (qa (nat_lit 9))), .obj (qa (nat_lit 9)) (gsD w (qt (nat_lit 3)) (qt (nat_lit 4)) (qa (nat_lit 10)) (qa (nat_lit 11)) (qa (nat_lit 12)) (qv (nat_lit 0)) (qv (nat_lit 1)) (qv (nat_lit 2)) (qv (nat_lit 3)) (qv (nat_lit 4)) (qv (nat_lit 5)) (qv (nat_lit 6)) (qa (nat_lit 13))), .obj (qa (nat_lit 13)) (instObj 532 (qa (nat_lit 14))), .obj (qa (nat_lit 14)) (rdD w (qt (nat_lit 5)))]) (by k_extra "d36") (fun g9 H9 hT B9 => (fun hM => Facts.pk [true, true, true, true, false, true, true, true, true] hM) (Facts.mono (fun _ _ z => B9.go z) hT))
  refine doround_ct (by (k_extra "o")) (by (k_extra "o")) P2  fun h' tk' t' n2 Q => ?_
  exact hr _ _ _ _ (fun K k => k t' n2) (Q.widen P.led P.nd (by k_extra "d42"))
noncomputable def fctS (w : World) (W : Addr) (qa : Nat → Addr) (qt : Nat → Nat → Tok) (qk : Nat → Tok) (qv : Nat → Value) (qi : Nat → Int) (qn : Nat → Nat) (qb : Nat → Bool) : List Fact := [.obj W (instObj 1244 (qa (nat_lit 0))), .obj (qa (nat_lit 0)) (wkD w (qt (nat_lit 0)) (qt (nat_lit 1)) (qa (nat_lit 1)) (qa (nat_lit 2)) (qa (nat_lit 3)) (qa (nat_lit 4)) (qa (nat_lit 5)) (qa (nat_lit 6))), .obj (qa (nat_lit 2)) (instObj 1193 (qa (nat_lit 7))), .obj (qa (nat_lit 7)) (stkD w (qt (nat_lit 2)) (qk (nat_lit 0)) (qa (nat_lit 8))), .tup (qa (nat_lit 6)) [.int (qi (nat_lit 0)) (qk (nat_lit 1)), .int (qi (nat_lit 1)) (qk (nat_lit 2))]]
theorem oS69 : OpC w 814 W 69 [((qa (nat_lit 8)), lsO [.int u0 q0, .int 0 q1] n0), ((qa (nat_lit 4)), lsO [.int v tv] nc)] (fctS w W qa qt qk qv qi qn qb) (fun Ω' new => ∀ K : Objs → Objs → Prop, (∀ t' n2, K [((qa (nat_lit 8)), lsO [.int u0 q0, .int (wrapZ v) t'] n2), ((qa (nat_lit 4)), lsO [.int v tv] nc)] []) → K Ω' new) := by
  intro dp un fr gd hH gG dD tT oO R tc hd hu P hr
  have P2 := P.narrow (objs := [((qa (nat_lit 8)), lsO [.int u0 q0, .int 0 q1] n0)]) (T' := [.obj W (instObj 1244 (qa (nat_lit 0))), .obj (qa (nat_lit 0)) (wkD w (qt (nat_lit 0)) (qt (nat_lit 1)) (qa (nat_lit 1)) (qa (nat_lit 2)) (qa (nat_lit 3)) (qa (nat_lit 4)) (qa (nat_lit 5)) (qa (nat_lit 6))), .obj (qa (nat_lit 2)) (instObj 1193 (qa (nat_lit 7))), .obj (qa (nat_lit 7)) (stkD w (qt (nat_lit 2)) (qk (nat_lit 0)) (qa (nat_lit 8))), .obj (qa (nat_lit 4)) (lsO [.int v tv] nc)]) (by k_extra "d36") (fun g9 H9 hT B9 => (fun hM => @Facts.app H9 (pkm [true, true, true, true] (fctS w W qa qt qk qv qi qn qb)) [.obj (qa (nat_lit 4)) (lsO [.int v tv] nc)] (Facts.pk [true, true, true, true] hM) (Facts.obj (B9.no (by k_extra "d312")) (Facts.nil))) (Facts.mono (fun _ _ z => B9.go z) hT))
  refine rcvt1_ct (by (k_extra "o")) (by (k_extra "o")) P2  fun h' tk' t' n2 Q => ?_
  exact hr _ _ _ _ (fun K k => k t' n2) (Q.widen P.led P.nd (by k_extra "d42"))
theorem oS112 (b0 : (qi (nat_lit 1)) ≠ 0) (b1 : -(2 ^ 28) ≤ (qi (nat_lit 1))) (b2' : (qi (nat_lit 1)) < 2 ^ 28) (xm : IntMulOk x (qi (nat_lit 0))) : OpC w 807 W 112 [((qa (nat_lit 8)), lsO [.int 0 q0, .int x q1] n0), ((qa (nat_lit 4)), lsO [.int v tv] nc)] (fctS w W qa qt qk qv qi qn qb) (fun Ω' new => ∀ K : Objs → Objs → Prop, (∀ t' n' n2, K [((qa (nat_lit 8)), lsO [] n2), ((qa (nat_lit 4)), lsO [.int (wrapZ (muldivZ x (qi (nat_lit 0)) (qi (nat_lit 1)))) t'] n')] []) → K Ω' new) := by
  intro dp un fr gd hH gG dD tT oO R tc hd hu P hr
  have P2 := P.narrow (objs := [((qa (nat_lit 8)), lsO [.int 0 q0, .int x q1] n0), ((qa (nat_lit 4)), lsO [.int v tv] nc)]) (T' := [.obj W (instObj 1244 (qa (nat_lit 0))), .obj (qa (nat_lit 0)) (wkD w (qt (nat_lit 0)) (qt (nat_lit 1)) (qa (nat_lit 1)) (qa (nat_lit 2)) (qa (nat_lit 3)) (qa (nat_lit 4)) (qa (nat_lit 5)) (qa (nat_lit 6))), .obj (qa (nat_lit 2)) (instObj 1193 (qa (nat_lit 7))), .obj (qa (nat_lit 7)) (stkD w (qt (nat_lit 2)) (qk (nat_lit 0)) (qa (nat_lit 8))), .tup (qa (nat_lit 6)) [.int (qi (nat_lit 0)) (qk (nat_lit 1)), .int (qi (nat_lit 1)) (qk (nat_lit 2))]]) (by k_extra "d36") (fun g9 H9 hT B9 => (fun hM => Facts.pk [true, true, true, true, true] hM) (Facts.mono (fun _ _ z => B9.go z) hT))
  refine wcvtf_ct (by (k_extra "o")) (by (k_extra "o")) P2 b0 b1 b2' xm fun h' tk' t' n' n2 Q => ?_
  exact hr _ _ _ _ (fun K k => k t' n' n2) (Q.widen P.led P.nd (by k_extra "d42"))
end
section
noncomputable def fctT (w : World) (W : Addr) (qa : Nat → Addr) (qt : Nat → Nat → Tok) (qk : Nat → Tok) (qv : Nat → Value) (qi : Nat → Int) (qn : Nat → Nat) (qb : Nat → Bool) : List Fact := [.obj W (instObj 1244 (qa (nat_lit 0))), .obj (qa (nat_lit 0)) (wkD w (qt (nat_lit 0)) (qt (nat_lit 1)) (qa (nat_lit 1)) (qa (nat_lit 2)) (qa (nat_lit 3)) (qa (nat_lit 4)) (qa (nat_lit 5)) (qa (nat_lit 6))), .obj (qa (nat_lit 2)) (instObj 1193 (qa (nat_lit 7))), .obj (qa (nat_lit 7)) (stkD w (qt (nat_lit 2)) (qk (nat_lit 0)) (qa (nat_lit 8))), .obj (qa (nat_lit 1)) (instObj 1130 (qa (nat_lit 9))), .obj (qa (nat_lit 3)) (lsO [.ref (qa (nat_lit 13)), .ref (qa (nat_lit 14))] (qn (nat_lit 0))), .obj (qa (nat_lit 13)) (instObj 1300 (qa (nat_lit 15))), .obj (qa (nat_lit 15)) (znD w (qt (nat_lit 3)) (qa (nat_lit 16)) (qa (nat_lit 17)) (qa (nat_lit 18)) (qa (nat_lit 19)) (qa (nat_lit 20))), .obj (qa (nat_lit 18)) (lsO [.ref (qa (nat_lit 21)), .ref (qa (nat_lit 22)), .ref (qa (nat_lit 23))] (qn (nat_lit 1))), .tup (qa (nat_lit 10)) [.int 16384 (qk (nat_lit 1)), .int 0 (qk (nat_lit 2))], .tup (qa (nat_lit 11)) [.int 16384 (qk (nat_lit 3)), .int 0 (qk (nat_lit 4))], .tup (qa (nat_lit 12)) [.int 16384 (qk (nat_lit 5)), .int 0 (qk (nat_lit 6))]]
theorem oT16 : OpC w 1029 W 16 [((qa (nat_lit 8)), lsO [.int x tx] n0), ((qa (nat_lit 9)), gsD w gt gk (qa (nat_lit 10)) (qa (nat_lit 11)) (qa (nat_lit 12)) rp0 rp1 rp2 zp0 zp1 zp2 lp rd), ((qa (nat_lit 17)), lsO [.ref r0, .ref r1, .ref r2] n), ((qa (nat_lit 16)), lsO [.ref s0, .ref s1, .ref s2] no), ((qa (nat_lit 22)), lsO [.bool b0, .bool b1] m1), ((qa (nat_lit 23)), lsO [.bool b2, .bool b3] m2)] (.tup r0 [.int x0 p0x, .int 5 p0y] :: .tup r1 [.int x1 p1x, .int 5 p1y] :: .tup r2 [.int x2 p2x, .int 5 p2y] :: .tup s0 [.int y0 o0x, .int 5 o0y] :: .tup s1 [.int y1 o1x, .int 5 o1y] :: .tup s2 [.int y2 o2x, .int 5 o2y] :: fctT w W qa qt qk qv qi qn qb) (fun Ω' new => ∀ K : Objs → Objs → Prop, (∀ n', K [((qa (nat_lit 8)), lsO [] n'), ((qa (nat_lit 9)), gsD w gt gk (qa (nat_lit 10)) (qa (nat_lit 11)) (qa (nat_lit 12)) (.int x tx) rp1 rp2 zp0 zp1 zp2 lp rd), ((qa (nat_lit 17)), lsO [.ref r0, .ref r1, .ref r2] n), ((qa (nat_lit 16)), lsO [.ref s0, .ref s1, .ref s2] no), ((qa (nat_lit 22)), lsO [.bool b0, .bool b1] m1), ((qa (nat_lit 23)), lsO [.bool b2, .bool b3] m2)] []) → K Ω' new) := by
  intro dp un fr gd hH gG dD tT oO R tc hd hu P hr
  have P2 := P.narrow (objs := [((qa (nat_lit 8)), lsO [.int x tx] n0), ((qa (nat_lit 9)), gsD w gt gk (qa (nat_lit 10)) (qa (nat_lit 11)) (qa (nat_lit 12)) rp0 rp1 rp2 zp0 zp1 zp2 lp rd)]) (T' := [.obj W (instObj 1244 (qa (nat_lit 0))), .obj (qa (nat_lit 0)) (wkD w (qt (nat_lit 0)) (qt (nat_lit 1)) (qa (nat_lit 1)) (qa (nat_lit 2)) (qa (nat_lit 3)) (qa (nat_lit 4)) (qa (nat_lit 5)) (qa (nat_lit 6))), .obj (qa (nat_lit 2)) (instObj 1193 (qa (nat_lit 7))), .obj (qa (nat_lit 7)) (stkD w (qt (nat_lit 2)) (qk (nat_lit 0)) (qa (nat_lit 8))), .obj (qa (nat_lit 1)) (instObj 1130 (qa (nat_lit 9)))]) (by k_extra "d36") (fun g9 H9 hT B9 => (fun hM => Facts.pk [false, false, false, false, false, false, true, true, true, true, true] hM) (Facts.mono (fun _ _ z => B9.go z) hT))
  refine point16_ct (by (k_extra "o")) (by (k_extra "o")) P2  fun h' tk' n' Q => ?_
  exact hr _ _ _ _ (fun K k => k n') (Q.widen P.led P.nd (by k_extra "d42"))
theorem oT17 : OpC w 1029 W 17 [((qa (nat_lit 8)), lsO [.int x tx] n0), ((qa (nat_lit 9)), gsD w gt gk (qa (nat_lit 10)) (qa (nat_lit 11)) (qa (nat_lit 12)) rp0 rp1 rp2 zp0 zp1 zp2 lp rd), ((qa (nat_lit 17)), lsO [.ref r0, .ref r1, .ref r2] n), ((qa (nat_lit 16)), lsO [.ref s0, .ref s1, .ref s2] no), ((qa (nat_lit 22)), lsO [.bool b0, .bool b1] m1), ((qa (nat_lit 23)), lsO [.bool b2, .bool b3] m2)] (.tup r0 [.int x0 p0x, .int 5 p0y] :: .tup r1 [.int x1 p1x, .int 5 p1y] :: .tup r2 [.int x2 p2x, .int 5 p2y] :: .tup s0 [.int y0 o0x, .int 5 o0y] :: .tup s1 [.int y1 o1x, .int 5 o1y] :: .tup s2 [.int y2 o2x, .int 5 o2y] :: fctT w W qa qt qk qv qi qn qb) (fun Ω' new => ∀ K : Objs → Objs → Prop, (∀ n', K [((qa (nat_lit 8)), lsO [] n'), ((qa (nat_lit 9)), gsD w gt gk (qa (nat_lit 10)) (qa (nat_lit 11)) (qa (nat_lit 12)) rp0 (.int x tx) rp2 zp0 zp1 zp2 lp rd), ((qa (nat_lit 17)), lsO [.ref r0, .ref r1, .ref r2] n), ((qa (nat_lit 16)), lsO [.ref s0, .ref s1, .ref s2] no), ((qa (nat_lit 22)), lsO [.bool b0, .bool b1] m1), ((qa (nat_lit 23)), lsO [.bool b2, .bool b3] m2)] []) → K Ω' new) := by
  intro dp un fr gd hH gG dD tT oO R tc hd hu P hr
  have P2 := P.narrow (objs := [((qa (nat_lit 8)), lsO [.int x tx] n0), ((qa (nat_lit 9)), gsD w gt gk (qa (nat_lit 10)) (qa (nat_lit 11)) (qa (nat_lit 12)) rp0 rp1 rp2 zp0 zp1 zp2 lp rd)]) (T' := [.obj W (instObj 1244 (qa (nat_lit 0))), .obj (qa (nat_lit 0)) (wkD w (qt (nat_lit 0)) (qt (nat_lit 1)) (qa (nat_lit 1)) (qa (nat_lit 2)) (qa (nat_lit 3)) (qa (nat_lit 4)) (qa (nat_lit 5)) (qa (nat_lit 6))), .obj (qa (nat_lit 2)) (instObj 1193 (qa (nat_lit 7))), .obj (qa (nat_lit 7)) (stkD w (qt (nat_lit 2)) (qk (nat_lit 0)) (qa (nat_lit 8))), .obj (qa (nat_lit 1)) (instObj 1130 (qa (nat_lit 9)))]) (by k_extra "d36") (fun g9 H9 hT B9 => (fun hM => Facts.pk [false, false, false, false, false, false, true, true, true, true, true] hM) (Facts.mono (fun _ _ z => B9.go z) hT))
  refine point17_ct (by (k_extra "o")) (by (k_extra "o")) P2  fun h' tk' n' Q => ?_
  exact hr _ _ _ _ (fun K k => k n') (Q.widen P.led P.nd (by k_extra "d42"))
theorem oT18 : OpC w 1029 W 18 [((qa (nat_lit 8)), lsO [.int x tx] n0), ((qa (nat_lit 9)), gsD w gt gk (qa (nat_lit 10)) (qa (nat_lit 11)) (qa (nat_lit 12)) rp0 rp1 rp2 zp0 zp1 zp2 lp rd), ((qa (nat_lit 17)), lsO [.ref r0, .ref r1, .ref r2] n), ((qa (nat_lit 16)), lsO [.ref s0, .ref s1, .ref s2] no), ((qa (nat_lit 22)), lsO [.bool b0, .bool b1] m1), ((qa (nat_lit 23)), lsO [.bool b2, .bool b3] m2)] (.tup r0 [.int x0 p0x, .int 5 p0y] :: .tup r1 [.int x1 p1x, .int 5 p1y] :: .tup r2 [.int x2 p2x, .int 5 p2y] :: .tup s0 [.int y0 o0x, .int 5 o0y] :: .tup s1 [.int y1 o1x, .int 5 o1y] :: .tup s2 [.int y2 o2x, .int 5 o2y] :: fctT w W qa qt qk qv qi qn qb) (fun Ω' new => ∀ K : Objs → Objs → Prop, (∀ n', K [((qa (nat_lit 8)), lsO [] n'), ((qa (nat_lit 9)), gsD w gt gk (qa (nat_lit 10)) (qa (nat_lit 11)) (qa (nat_lit 12)) rp0 rp1 (.int x tx) zp0 zp1 zp2 lp rd), ((qa (nat_lit 17)), lsO [.ref r0, .ref r1, .ref r2] n), ((qa (nat_lit 16)), lsO [.ref s0, .ref s1, .ref s2] no), ((qa (nat_lit 22)), lsO [.bool b0, .bool b1] m1), ((qa (nat_lit 23)), lsO [.bool b2, .bool b3] m2)] []) → K Ω' new) := by
  intro dp un fr gd hH gG dD tT oO R tc hd hu P hr
  have P2 := P.narrow (objs := [((qa (nat_lit 8)), lsO [.int x tx] n0), ((qa (nat_lit 9)), gsD w gt gk (qa (nat_lit 10)) (qa (nat_lit 11)) (qa (nat_lit 12)) rp0 rp1 rp2 zp0 zp1 zp2 lp rd)]) (T' := [.obj W (instObj 1244 (qa (nat_lit 0))), .obj (qa (nat_lit 0)) (wkD w (qt (nat_lit 0)) (qt (nat_lit 1)) (qa (nat_lit 1)) (qa (nat_lit 2)) (qa (nat_lit 3)) (qa (nat_lit 4)) (qa (nat_lit 5)) (qa (nat_lit 6))), .obj (qa (nat_lit 2)) (instObj 1193 (qa (nat_lit 7))), .obj (qa (nat_lit 7)) (stkD w (qt (nat_lit 2)) (qk (nat_lit 0)) (qa (nat_lit 8))), .obj (qa (nat_lit 1)) (instObj 1130 (qa (nat_lit 9)))]) (by k_extra "d36") (fun g9 H9 hT B9 => (fun hM => Facts.pk [false, false, false, false, false, false, true, true, true, true, true] hM) (Facts.mono (fun _ _ z => B9.go z) hT))
  refine point18_ct (by (k_extra "o")) (by (k_extra "o")) P2  fun h' tk' n' Q => ?_
  exact hr _ _ _ _ (fun K k => k n') (Q.widen P.led P.nd (by k_extra "d42"))
theorem oT22 : OpC w 1036 W 22 [((qa (nat_lit 8)), lsO [.int 0 tx] n0), ((qa (nat_lit 9)), gsD w gt gk (qa (nat_lit 10)) (qa (nat_lit 11)) (qa (nat_lit 12)) rp0 rp1 rp2 zp0 zp1 zp2 lp rd), ((qa (nat_lit 17)), lsO [.ref r0, .ref r1, .ref r2] n), ((qa (nat_lit 16)), lsO [.ref s0, .ref s1, .ref s2] no), ((qa (nat_lit 22)), lsO [.bool b0, .bool b1] m1), ((qa (nat_lit 23)), lsO [.bool b2, .bool b3] m2)] (.tup r0 [.int x0 p0x, .int 5 p0y] :: .tup r1 [.int x1 p1x, .int 5 p1y] :: .tup r2 [.int x2 p2x, .int 5 p2y] :: .tup s0 [.int y0 o0x, .int 5 o0y] :: .tup s1 [.int y1 o1x, .int 5 o1y] :: .tup s2 [.int y2 o2x, .int 5 o2y] :: fctT w W qa qt qk qv qi qn qb) (fun Ω' new => ∀ K : Objs → Objs → Prop, (∀ n', K [((qa (nat_lit 8)), lsO [] n'), ((qa (nat_lit 9)), gsD w gt gk (qa (nat_lit 10)) (qa (nat_lit 11)) (qa (nat_lit 12)) rp0 rp1 rp2 (.int 0 tx) (.int 0 tx) (.int 0 tx) lp rd), ((qa (nat_lit 17)), lsO [.ref r0, .ref r1, .ref r2] n), ((qa (nat_lit 16)), lsO [.ref s0, .ref s1, .ref s2] no), ((qa (nat_lit 22)), lsO [.bool b0, .bool b1] m1), ((qa (nat_lit 23)), lsO [.bool b2, .bool b3] m2)] []) → K Ω' new) := by
  intro dp un fr gd hH gG dD tT oO R tc hd hu P hr
  have P2 := P.narrow (objs := [((qa (nat_lit 8)), lsO [.int 0 tx] n0), ((qa (nat_lit 9)), gsD w gt gk (qa (nat_lit 10)) (qa (nat_lit 11)) (qa (nat_lit 12)) rp0 rp1 rp2 zp0 zp1 zp2 lp rd)]) (T' := [.obj W (instObj 1244 (qa (nat_lit 0))), .obj (qa (nat_lit 0)) (wkD w (qt (nat_lit 0)) (qt (nat_lit 1)) (qa (nat_lit 1)) (qa (nat_lit 2)) (qa (nat_lit 3)) (qa (nat_lit 4)) (qa (nat_lit 5)) (qa (nat_lit 6))), .obj (qa (nat_lit 2)) (instObj 1193 (qa (nat_lit 7))), .obj (qa (nat_lit 7)) (stkD w (qt (nat_lit 2)) (qk (nat_lit 0)) (qa (nat_lit 8))), .obj (qa (nat_lit 1)) (instObj 1130 (qa (nat_lit 9))), .obj (qa (nat_lit 3)) (lsO [.ref (qa (nat_lit 13)), .ref (qa (nat_lit 14))] (qn (nat_lit 0)))]) (by k_extra "d36") (fun g9 H9 hT B9 => (fun hM => Facts.pk [false, false, false, false, false, false, true, true, true, true, true, true] hM) (Facts.mono (fun _ _ z => B9.go z) hT))
  refine dozone_ct (by (k_extra "o")) (by (k_extra "o")) P2  fun h' tk' n' Q => ?_
  exact hr _ _ _ _ (fun K k => k n') (Q.widen P.led P.nd (by k_extra "d42"))
theorem oT60 {u2 : Int} {q3 : Tok} : OpC w 641 W 60 [((qa (nat_lit 8)), lsO [.int u0 q0, .int u1 q1, .int u2 q2, .int 1 q3] n0), ((qa (nat_lit 9)), gsD w gt gk (qa (nat_lit 10)) (qa (nat_lit 11)) (qa (nat_lit 12)) (.int 2 h0) rp1 rp2 (.int 0 h1) (.int 0 h2) zp2 (.int 1 h3) rd), ((qa (nat_lit 17)), lsO [.ref r0, .ref r1, .ref r2] n), ((qa (nat_lit 16)), lsO [.ref s0, .ref s1, .ref s2] no), ((qa (nat_lit 22)), lsO [.bool b0, .bool b1] m1), ((qa (nat_lit 23)), lsO [.bool b2, .bool b3] m2)] (.tup r0 [.int x0 p0x, .int 5 p0y] :: .tup r1 [.int x1 p1x, .int 5 p1y] :: .tup r2 [.int x2 p2x, .int 5 p2y] :: .tup s0 [.int y0 o0x, .int 5 o0y] :: .tup s1 [.int y1 o1x, .int 5 o1y] :: .tup s2 [.int y2 o2x, .int 5 o2y] :: fctT w W qa qt qk qv qi qn qb) (fun Ω' new => ∀ K : Objs → Objs → Prop, (∀ t' r t1 t2 n' n2, K [((qa (nat_lit 8)), lsO [.int u0 q0, .int u1 q1, .int u2 q2] n2), ((qa (nat_lit 9)), gsD w gt gk (qa (nat_lit 10)) (qa (nat_lit 11)) (qa (nat_lit 12)) (.int 2 h0) rp1 rp2 (.int 0 h1) (.int 0 h2) zp2 (.int 1 t') rd), ((qa (nat_lit 17)), lsO [.ref r0, .ref r, .ref r2] n'), ((qa (nat_lit 16)), lsO [.ref s0, .ref s1, .ref s2] no), ((qa (nat_lit 22)), lsO [.bool true, .bool b1] m1), ((qa (nat_lit 23)), lsO [.bool b2, .bool b3] m2)] [(r, tupO [.int (wrapZ (x1 + (0 - (x1 - x2)))) t1, .int (wrapZ 5) t2])]) → K Ω' new) := by
  intro dp un fr gd hH gG dD tT oO R tc hd hu P hr
  have P2 := P.narrow (objs := [((qa (nat_lit 8)), lsO [.int u0 q0, .int u1 q1, .int u2 q2, .int 1 q3] n0), ((qa (nat_lit 9)), gsD w gt gk (qa (nat_lit 10)) (qa (nat_lit 11)) (qa (nat_lit 12)) (.int 2 h0) rp1 rp2 (.int 0 h1) (.int 0 h2) zp2 (.int 1 h3) rd), ((qa (nat_lit 17)), lsO [.ref r0, .ref r1, .ref r2] n), ((qa (nat_lit 22)), lsO [.bool b0, .bool b1] m1)]) (T' := [.obj W (instObj 1244 (qa (nat_lit 0))), .obj (qa (nat_lit 0)) (wkD w (qt (nat_lit 0)) (qt (nat_lit 1)) (qa (nat_lit 1)) (qa (nat_lit 2)) (qa (nat_lit 3)) (qa (nat_lit 4)) (qa (nat_lit 5)) (qa (nat_lit 6))), .obj (qa (nat_lit 2)) (instObj 1193 (qa (nat_lit 7))), .obj (qa (nat_lit 7)) (stkD w (qt (nat_lit 2)) (qk (nat_lit 0)) (qa (nat_lit 8))), .obj (qa (nat_lit 1)) (instObj 1130 (qa (nat_lit 9))), .obj (qa (nat_lit 3)) (lsO [.ref (qa (nat_lit 13)), .ref (qa (nat_lit 14))] (qn (nat_lit 0))), .obj (qa (nat_lit 13)) (instObj 1300 (qa (nat_lit 15))), .obj (qa (nat_lit 15)) (znD w (qt (nat_lit 3)) (qa (nat_lit 16)) (qa (nat_lit 17)) (qa (nat_lit 18)) (qa (nat_lit 19)) (qa (nat_lit 20))), .obj (qa (nat_lit 18)) (lsO [.ref (qa (nat_lit 21)), .ref (qa (nat_lit 22)), .ref (qa (nat_lit 23))] (qn (nat_lit 1))), .tup (qa (nat_lit 10)) [.int 16384 (qk (nat_lit 1)), .int 0 (qk (nat_lit 2))], .tup (qa (nat_lit 11)) [.int 16384 (qk (nat_lit 3)), .int 0 (qk (nat_lit 4))], .tup r1 [.int x1 p1x, .int 5 p1y], .tup r2 [.int x2 p2x, .int 5 p2y]]) (by k_extra "d36") (fun g9 H9 hT B9 => (fun hM => @Facts.app H9 (pkm [false, false, false, false, false, false, true, true, true, true, true, true, true, true, true, true, true] (.tup r0 [.int x0 p0x, .int 5 p0y] :: .tup r1 [.int x1 p1x, .int 5 p1y] :: .tup r2 [.int x2 p2x, .int 5 p2y] :: .tup s0 [.int y0 o0x, .int 5 o0y] :: .tup s1 [.int y1 o1x, .int 5 o1y] :: .tup s2 [.int y2 o2x, .int 5 o2y] :: fctT w W qa qt qk qv qi qn qb)) [.tup r1 [.int x1 p1x, .int 5 p1y], .tup r2 [.int x2 p2x, .int 5 p2y]] (Facts.pk [false, false, false, false, false, false, true, true, true, true, true, true, true, true, true, true, true] hM) (Facts.pk [false, true, true] hM)) (Facts.mono (fun _ _ z => B9.go z) hT))
  refine alignrp_ct (by (k_extra "o")) (by (k_extra "o")) P2  fun h' tk' t' r t1 t2 n' n2 Q => ?_
  exact hr _ _ _ _ (fun K k => k t' r t1 t2 n' n2) (Q.widen P.led P.nd (by k_extra "d42"))
theorem oT57 {h4 : Tok} (w0 : y1 - y0 ≠ 0) (w1 : -(2 ^ 28) ≤ y1 - y0) (w2 : y1 - y0 < 2 ^ 28) (xm : IntMulOk (y2 - y0) (x1 - x0)) : OpC w 648 W 57 [((qa (nat_lit 8)), lsO [.int u0 q0, .int u1 q1, .int 2 q2] n0), ((qa (nat_lit 9)), gsD w gt gk (qa (nat_lit 10)) (qa (nat_lit 11)) (qa (nat_lit 12)) rp0 (.int 0 h0) (.int 1 h1) (.int 0 h2) (.int 0 h3) (.int 0 h4) (.int 1 h5) rd), ((qa (nat_lit 17)), lsO [.ref r0, .ref r1, .ref r2] n), ((qa (nat_lit 16)), lsO [.ref s0, .ref s1, .ref s2] no), ((qa (nat_lit 22)), lsO [.bool b0, .bool b1] m1), ((qa (nat_lit 23)), lsO [.bool b2, .bool b3] m2)] (.tup r0 [.int x0 p0x, .int 5 p0y] :: .tup r1 [.int x1 p1x, .int 5 p1y] :: .tup r2 [.int x2 p2x, .int 5 p2y] :: .tup s0 [.int y0 o0x, .int 5 o0y] :: .tup s1 [.int y1 o1x, .int 5 o1y] :: .tup s2 [.int y2 o2x, .int 5 o2y] :: fctT w W qa qt qk qv qi qn qb) (fun Ω' new => ∀ K : Objs → Objs → Prop, (∀ t' r t1 t2 n' n2, K [((qa (nat_lit 8)), lsO [.int u0 q0, .int u1 q1] n2), ((qa (nat_lit 9)), gsD w gt gk (qa (nat_lit 10)) (qa (nat_lit 11)) (qa (nat_lit 12)) rp0 (.int 0 h0) (.int 1 h1) (.int 0 h2) (.int 0 h3) (.int 0 h4) (.int 1 t') rd), ((qa (nat_lit 17)), lsO [.ref r0, .ref r1, .ref r] n'), ((qa (nat_lit 16)), lsO [.ref s0, .ref s1, .ref s2] no), ((qa (nat_lit 22)), lsO [.bool b0, .bool b1] m1), ((qa (nat_lit 23)), lsO [.bool true, .bool b3] m2)] [(r, tupO [.int (wrapZ (x2 + (muldivZ (y2 - y0) (x1 - x0) (y1 - y0) - (x2 - x0)))) t1, .int (wrapZ 5) t2])]) → K Ω' new) := by
  intro dp un fr gd hH gG dD tT oO R tc hd hu P hr
  have P2 := P.narrow (objs := [((qa (nat_lit 8)), lsO [.int u0 q0, .int u1 q1, .int 2 q2] n0), ((qa (nat_lit 9)), gsD w gt gk (qa (nat_lit 10)) (qa (nat_lit 11)) (qa (nat_lit 12)) rp0 (.int 0 h0) (.int 1 h1) (.int 0 h2) (.int 0 h3) (.int 0 h4) (.int 1 h5) rd), ((qa (nat_lit 17)), lsO [.ref r0, .ref r1, .ref r2] n), ((qa (nat_lit 23)), lsO [.bool b2, .bool b3] m2)]) (T' := [.obj W (instObj 1244 (qa (nat_lit 0))), .obj (qa (nat_lit 0)) (wkD w (qt (nat_lit 0)) (qt (nat_lit 1)) (qa (nat_lit 1)) (qa (nat_lit 2)) (qa (nat_lit 3)) (qa (nat_lit 4)) (qa (nat_lit 5)) (qa (nat_lit 6))), .obj (qa (nat_lit 2)) (instObj 1193 (qa (nat_lit 7))), .obj (qa (nat_lit 7)) (stkD w (qt (nat_lit 2)) (qk (nat_lit 0)) (qa (nat_lit 8))), .obj (qa (nat_lit 1)) (instObj 1130 (qa (nat_lit 9))), .obj (qa (nat_lit 3)) (lsO [.ref (qa (nat_lit 13)), .ref (qa (nat_lit 14))] (qn (nat_lit 0))), .obj (qa (nat_lit 13)) (instObj 1300 (qa (nat_lit 15))), .obj (qa (nat_lit 15)) (znD w (qt (nat_lit 3)) (qa (nat_lit 16)) (qa (nat_lit 17)) (qa (nat_lit 18)) (qa (nat_lit 19)) (qa (nat_lit 20))), .obj (qa (nat_lit 16)) (lsO [.ref s0, .ref s1, .ref s2] no), .obj (qa (nat_lit 18)) (lsO [.ref (qa (nat_lit 21)), .ref (qa (nat_lit 22)), .ref (qa (nat_lit 23))] (qn (nat_lit 1))), .tup (qa (nat_lit 10)) [.int 16384 (qk (nat_lit 1)), .int 0 (qk (nat_lit 2))], .tup (qa (nat_lit 11)) [.int 16384 (qk (nat_lit 3)), .int 0 (qk (nat_lit 4))], .tup (qa (nat_lit 12)) [.int 16384 (qk (nat_lit 5)), .int 0 (qk (nat_lit 6))], .tup r0 [.int x0 p0x, .int 5 p0y], .tup r1 [.int x1 p1x, .int 5 p1y], .tup r2 [.int x2 p2x, .int 5 p2y], .tup s0 [.int y0 o0x, .int 5 o0y], .tup s1 [.int y1 o1x, .int 5 o1y], .tup s2 [.int y2 o2x, .int 5 o2y]]) (by k_extra "d36") (fun g9 H9 hT B9 => (fun hM => @Facts.app H9 (pkm [false, false, false, false, false, false, true, true, true, true, true, true, true, true] (.tup r0 [.int x0 p0x, .int 5 p0y] :: .tup r1 [.int x1 p1x, .int 5 p1y] :: .tup r2 [.int x2 p2x, .int 5 p2y] :: .tup s0 [.int y0 o0x, .int 5 o0y] :: .tup s1 [.int y1 o1x, .int 5 o1y] :: .tup s2 [.int y2 o2x, .int 5 o2y] :: fctT w W qa qt qk qv qi qn qb)) [.obj (qa (nat_lit 16)) (lsO [.ref s0, .ref s1, .ref s2] no), .obj (qa (nat_lit 18)) (lsO [.ref (qa (nat_lit 21)), .ref (qa (nat_lit 22)), .ref (qa (nat_lit 23))] (qn (nat_lit 1))), .tup (qa (nat_lit 10)) [.int 16384 (qk (nat_lit 1)), .int 0 (qk (nat_lit 2))], .tup (qa (nat_lit 11)) [.int 16384 (qk (nat_lit 3)), .int 0 (qk (nat_lit 4))], .tup (qa (nat_lit 12)) [.int 16384 (qk (nat_lit 5)), .int 0 (qk (nat_lit 6))], .tup r0 [.int x0 p0x, .int 5 p0y], .tup r1 [.int x1 p1x, .int 5 p1y], .tup r2 [.int x2 p2x, .int 5 p2y], .tup s0 [.int y0 o0x, .int 5 o0y], .tup s1 [.int y1 o1x, .int 5 o1y], .tup s2 [.int y2 o2x, .int 5 o2y]] (Facts.pk [false, false, false, false, false, false, true, true, true, true, true, true, true, true] hM) (Facts.obj (B9.no (by k_extra "d312")) (@Facts.app H9 (pkm [false, false, false, false, false, false, false, false, false, false, false, false, false, false, true, true, true, true] (.tup r0 [.int x0 p0x, .int 5 p0y] :: .tup r1 [.int x1 p1x, .int 5 p1y] :: .tup r2 [.int x2 p2x, .int 5 p2y] :: .tup s0 [.int y0 o0x, .int 5 o0y] :: .tup s1 [.int y1 o1x, .int 5 o1y] :: .tup s2 [.int y2 o2x, .int 5 o2y] :: fctT w W qa qt qk qv qi qn qb)) [.tup r0 [.int x0 p0x, .int 5 p0y], .tup r1 [.int x1 p1x, .int 5 p1y], .tup r2 [.int x2 p2x, .int 5 p2y], .tup s0 [.int y0 o0x, .int 5 o0y], .tup s1 [.int y1 o1x, .int 5 o1y], .tup s2 [.int y2 o2x, .int 5 o2y]] (Facts.pk [false, false, false, false, false, false, false, false, false, false, false, false, false, false, true, true, true, true] hM) (Facts.pk [true, true, true, true, true, true] hM)))) (Facts.mono (fun _ _ z => B9.go z) hT))
  refine ip_ct (by (k_extra "o")) (by (k_extra "o")) P2 w0 w1 w2 xm fun h' tk' t' r t1 t2 n' n2 Q => ?_
  exact hr _ _ _ _ (fun K k => k t' r t1 t2 n' n2) (Q.widen P.led P.nd (by k_extra "d42"))
theorem oT70 : OpC w 445 W 70 [((qa (nat_lit 8)), lsO [.int u0 q0, .int 2 q1] n0), ((qa (nat_lit 9)), gsD w gt gk (qa (nat_lit 10)) (qa (nat_lit 11)) (qa (nat_lit 12)) rp0 rp1 rp2 zp0 zp1 (.int 0 h0) lp rd), ((qa (nat_lit 17)), lsO [.ref r0, .ref r1, .ref r2] n), ((qa (nat_lit 16)), lsO [.ref s0, .ref s1, .ref s2] no), ((qa (nat_lit 22)), lsO [.bool b0, .bool b1] m1), ((qa (nat_lit 23)), lsO [.bool b2, .bool b3] m2)] (.tup r0 [.int x0 p0x, .int 5 p0y] :: .tup r1 [.int x1 p1x, .int 5 p1y] :: .tup r2 [.int x2 p2x, .int 5 p2y] :: .tup s0 [.int y0 o0x, .int 5 o0y] :: .tup s1 [.int y1 o1x, .int 5 o1y] :: .tup s2 [.int y2 o2x, .int 5 o2y] :: fctT w W qa qt qk qv qi qn qb) (fun Ω' new => ∀ K : Objs → Objs → Prop, (∀ t' n2, K [((qa (nat_lit 8)), lsO [.int u0 q0, .int (wrapZ x2) t'] n2), ((qa (nat_lit 9)), gsD w gt gk (qa (nat_lit 10)) (qa (nat_lit 11)) (qa (nat_lit 12)) rp0 rp1 rp2 zp0 zp1 (.int 0 h0) lp rd), ((qa (nat_lit 17)), lsO [.ref r0, .ref r1, .ref r2] n), ((qa (nat_lit 16)), lsO [.ref s0, .ref s1, .ref s2] no), ((qa (nat_lit 22)), lsO [.bool b0, .bool b1] m1), ((qa (nat_lit 23)), lsO [.bool b2, .bool b3] m2)] []) → K Ω' new) := by
  intro dp un fr gd hH gG dD tT oO R tc hd hu P hr
  have P2 := P.narrow (objs := [((qa (nat_lit 8)), lsO [.int u0 q0, .int 2 q1] n0)]) (T' := [.obj W (instObj 1244 (qa (nat_lit 0))), .obj (qa (nat_lit 0)) (wkD w (qt (nat_lit 0)) (qt (nat_lit 1)) (qa (nat_lit 1)) (qa (nat_lit 2)) (qa (nat_lit 3)) (qa (nat_lit 4)) (qa (nat_lit 5)) (qa (nat_lit 6))), .obj (qa (nat_lit 2)) (instObj 1193 (qa (nat_lit 7))), .obj (qa (nat_lit 7)) (stkD w (qt (nat_lit 2)) (qk (nat_lit 0)) (qa (nat_lit 8))), .obj (qa (nat_lit 1)) (instObj 1130 (qa (nat_lit 9))), .obj (qa (nat_lit 9)) (gsD w gt gk (qa (nat_lit 10)) (qa (nat_lit 11)) (qa (nat_lit 12)) rp0 rp1 rp2 zp0 zp1 (.int 0 h0) lp rd), .obj (qa (nat_lit 3)) (lsO [.ref (qa (nat_lit 13)), .ref (qa (nat_lit 14))] (qn (nat_lit 0))), .obj (qa (nat_lit 13)) (instObj 1300 (qa (nat_lit 15))), .obj (qa (nat_lit 15)) (znD w (qt (nat_lit 3)) (qa (nat_lit 16)) (qa (nat_lit 17)) (qa (nat_lit 18)) (qa (nat_lit 19)) (qa (nat_lit 20))), .obj (qa (nat_lit 17)) (lsO [.ref r0, .ref r1, .ref r2] n), .tup (qa (nat_lit 11)) [.int 16384 (qk (nat_lit 3)), .int 0 (qk (nat_lit 4))], .tup r2 [.int x2 p2x, .int 5 p2y]]) (by k_extra "d36") (fun g9 H9 hT B9 => (fun hM => @Facts.app H9 (pkm [false, false, false, false, false, false, true, true, true, true, true] (.tup r0 [.int x0 p0x, .int 5 p0y] :: .tup r1 [.int x1 p1x, .int 5 p1y] :: .tup r2 [.int x2 p2x, .int 5 p2y] :: .tup s0 [.int y0 o0x, .int 5 o0y] :: .tup s1 [.int y1 o1x, .int 5 o1y] :: .tup s2 [.int y2 o2x, .int 5 o2y] :: fctT w W qa qt qk qv qi qn qb)) [.obj (qa (nat_lit 9)) (gsD w gt gk (qa (nat_lit 10)) (qa (nat_lit 11)) (qa (nat_lit 12)) rp0 rp1 rp2 zp0 zp1 (.int 0 h0) lp rd), .obj (qa (nat_lit 3)) (lsO [.ref (qa (nat_lit 13)), .ref (qa (nat_lit 14))] (qn (nat_lit 0))), .obj (qa (nat_lit 13)) (instObj 1300 (qa (nat_lit 15))), .obj (qa (nat_lit 15)) (znD w (qt (nat_lit 3)) (qa (nat_lit 16)) (qa (nat_lit 17)) (qa (nat_lit 18)) (qa (nat_lit 19)) (qa (nat_lit 20))), .obj (qa (nat_lit 17)) (lsO [.ref r0, .ref r1, .ref r2] n), .tup (qa (nat_lit 11)) [.int 16384 (qk (nat_lit 3)), .int 0 (qk (nat_lit 4))], .tup r2 [.int x2 p2x, .int 5 p2y]] (Facts.pk [false, false, false, false, false, false, true, true, true, true, true] hM) (Facts.obj (B9.no (by k_extra "d312")) (@Facts.app H9 (pkm [false, false, false, false, false, false, false, false, false, false, false, true, true, true] (.tup r0 [.int x0 p0x, .int 5 p0y] :: .tup r1 [.int x1 p1x, .int 5 p1y] :: .tup r2 [.int x2 p2x, .int 5 p2y] :: .tup s0 [.int y0 o0x, .int 5 o0y] :: .tup s1 [.int y1 o1x, .int 5 o1y] :: .tup s2 [.int y2 o2x, .int 5 o2y] :: fctT w W qa qt qk qv qi qn qb)) [.obj (qa (nat_lit 17)) (lsO [.ref r0, .ref r1, .ref r2] n), .tup (qa (nat_lit 11)) [.int 16384 (qk (nat_lit 3)), .int 0 (qk (nat_lit 4))], .tup r2 [.int x2 p2x, .int 5 p2y]] (Facts.pk [false, false, false, false, false, false, false, false, false, false, false, true, true, true] hM) (Facts.obj (B9.no (by k_extra "d312")) (@Facts.app H9 (pkm [false, false, false, false, false, false, false, false, false, false, false, false, false, false, false, false, true] (.tup r0 [.int x0 p0x, .int 5 p0y] :: .tup r1 [.int x1 p1x, .int 5 p1y] :: .tup r2 [.int x2 p2x, .int 5 p2y] :: .tup s0 [.int y0 o0x, .int 5 o0y] :: .tup s1 [.int y1 o1x, .int 5 o1y] :: .tup s2 [.int y2 o2x, .int 5 o2y] :: fctT w W qa qt qk qv qi qn qb)) [.tup r2 [.int x2 p2x, .int 5 p2y]] (Facts.pk [false, false, false, false, false, false, false, false, false, false, false, false, false, false, false, false, true] hM) (Facts.pk [false, false, true] hM)))))) (Facts.mono (fun _ _ z => B9.go z) hT))
  refine gc1_ct (by (k_extra "o")) (by (k_extra "o")) P2  fun h' tk' t' n2 Q => ?_
  exact hr _ _ _ _ (fun K k => k t' n2) (Q.widen P.led P.nd (by k_extra "d42"))
theorem oT72 : OpC w 452 W 72 [((qa (nat_lit 8)), lsO [.int 2 q0, .int v q1] n0), ((qa (nat_lit 9)), gsD w gt gk (qa (nat_lit 10)) (qa (nat_lit 11)) (qa (nat_lit 12)) rp0 rp1 rp2 zp0 zp1 (.int 0 h0) lp rd), ((qa (nat_lit 17)), lsO [.ref r0, .ref r1, .ref r2] n), ((qa (nat_lit 16)), lsO [.ref s0, .ref s1, .ref s2] no), ((qa (nat_lit 22)), lsO [.bool b0, .bool b1] m1), ((qa (nat_lit 23)), lsO [.bool b2, .bool b3] m2)] (.tup r0 [.int x0 p0x, .int 5 p0y] :: .tup r1 [.int x1 p1x, .int 5 p1y] :: .tup r2 [.int x2 p2x, .int 5 p2y] :: .tup s0 [.int y0 o0x, .int 5 o0y] :: .tup s1 [.int y1 o1x, .int 5 o1y] :: .tup s2 [.int y2 o2x, .int 5 o2y] :: fctT w W qa qt qk qv qi qn qb) (fun Ω' new => ∀ K : Objs → Objs → Prop, (∀ r t1 t2 n' n2 n3, K [((qa (nat_lit 8)), lsO [] n2), ((qa (nat_lit 9)), gsD w gt gk (qa (nat_lit 10)) (qa (nat_lit 11)) (qa (nat_lit 12)) rp0 rp1 rp2 zp0 zp1 (.int 0 h0) lp rd), ((qa (nat_lit 17)), lsO [.ref r0, .ref r1, .ref r] n'), ((qa (nat_lit 16)), lsO [.ref s0, .ref s1, .ref r] n3), ((qa (nat_lit 22)), lsO [.bool b0, .bool b1] m1), ((qa (nat_lit 23)), lsO [.bool true, .bool b3] m2)] [(r, tupO [.int (wrapZ (x2 + (v - x2))) t1, .int (wrapZ 5) t2])]) → K Ω' new) := by
  intro dp un fr gd hH gG dD tT oO R tc hd hu P hr
  have P2 := P.narrow (objs := [((qa (nat_lit 8)), lsO [.int 2 q0, .int v q1] n0), ((qa (nat_lit 17)), lsO [.ref r0, .ref r1, .ref r2] n), ((qa (nat_lit 16)), lsO [.ref s0, .ref s1, .ref s2] no), ((qa (nat_lit 23)), lsO [.bool b2, .bool b3] m2)]) (T' := [.obj W (instObj 1244 (qa (nat_lit 0))), .obj (qa (nat_lit 0)) (wkD w (qt (nat_lit 0)) (qt (nat_lit 1)) (qa (nat_lit 1)) (qa (nat_lit 2)) (qa (nat_lit 3)) (qa (nat_lit 4)) (qa (nat_lit 5)) (qa (nat_lit 6))), .obj (qa (nat_lit 2)) (instObj 1193 (qa (nat_lit 7))), .obj (qa (nat_lit 7)) (stkD w (qt (nat_lit 2)) (qk (nat_lit 0)) (qa (nat_lit 8))), .obj (qa (nat_lit 1)) (instObj 1130 (qa (nat_lit 9))), .obj (qa (nat_lit 9)) (gsD w gt gk (qa (nat_lit 10)) (qa (nat_lit 11)) (qa (nat_lit 12)) rp0 rp1 rp2 zp0 zp1 (.int 0 h0) lp rd), .obj (qa (nat_lit 3)) (lsO [.ref (qa (nat_lit 13)), .ref (qa (nat_lit 14))] (qn (nat_lit 0))), .obj (qa (nat_lit 13)) (instObj 1300 (qa (nat_lit 15))), .obj (qa (nat_lit 15)) (znD w (qt (nat_lit 3)) (qa (nat_lit 16)) (qa (nat_lit 17)) (qa (nat_lit 18)) (qa (nat_lit 19)) (qa (nat_lit 20))), .obj (qa (nat_lit 18)) (lsO [.ref (qa (nat_lit 21)), .ref (qa (nat_lit 22)), .ref (qa (nat_lit 23))] (qn (nat_lit 1))), .tup (qa (nat_lit 10)) [.int 16384 (qk (nat_lit 1)), .int 0 (qk (nat_lit 2))], .tup (qa (nat_lit 11)) [.int 16384 (qk (nat_lit 3)), .int 0 (qk (nat_lit 4))], .tup r2 [.int x2 p2x, .int 5 p2y]]) (by k_extra "d36") (fun g9 H9 hT B9 => (fun hM => @Facts.app H9 (pkm [false, false, false, false, false, false, true, true, true, true, true] (.tup r0 [.int x0 p0x, .int 5 p0y] :: .tup r1 [.int x1 p1x, .int 5 p1y] :: .tup r2 [.int x2 p2x, .int 5 p2y] :: .tup s0 [.int y0 o0x, .int 5 o0y] :: .tup s1 [.int y1 o1x, .int 5 o1y] :: .tup s2 [.int y2 o2x, .int 5 o2y] :: fctT w W qa qt qk qv qi qn qb)) [.obj (qa (nat_lit 9)) (gsD w gt gk (qa (nat_lit 10)) (qa (nat_lit 11)) (qa (nat_lit 12)) rp0 rp1 rp2 zp0 zp1 (.int 0 h0) lp rd), .obj (qa (nat_lit 3)) (lsO [.ref (qa (nat_lit 13)), .ref (qa (nat_lit 14))] (qn (nat_lit 0))), .obj (qa (nat_lit 13)) (instObj 1300 (qa (nat_lit 15))), .obj (qa (nat_lit 15)) (znD w (qt (nat_lit 3)) (qa (nat_lit 16)) (qa (nat_lit 17)) (qa (nat_lit 18)) (qa (nat_lit 19)) (qa (nat_lit 20))), .obj (qa (nat_lit 18)) (lsO [.ref (qa (nat_lit 21)), .ref (qa (nat_lit 22)), .ref (qa (nat_lit 23))] (qn (nat_lit 1))), .tup (qa (nat_lit 10)) [.int 16384 (qk (nat_lit 1)), .int 0 (qk (nat_lit 2))], .tup (qa (nat_lit 11)) [.int 16384 (qk (nat_lit 3)), .int 0 (qk (nat_lit 4))], .tup r2 [.int x2 p2x, .int 5 p2y]] (Facts.pk [false, false, false, false, false, false, true, true, true, true, true] hM) (Facts.obj (B9.no (by k_extra "d312")) (@Facts.app H9 (pkm [false, false, false, false, false, false, false, false, false, false, false, true, true, true, true, true, true] (.tup r0 [.int x0 p0x, .int 5 p0y] :: .tup r1 [.int x1 p1x, .int 5 p1y] :: .tup r2 [.int x2 p2x, .int 5 p2y] :: .tup s0 [.int y0 o0x, .int 5 o0y] :: .tup s1 [.int y1 o1x, .int 5 o1y] :: .tup s2 [.int y2 o2x, .int 5 o2y] :: fctT w W qa qt qk qv qi qn qb)) [.tup r2 [.int x2 p2x, .int 5 p2y]] (Facts.pk [false, false, false, false, false, false, false, false, false, false, false, true, true, true, true, true, true] hM) (Facts.pk [false, false, true] hM)))) (Facts.mono (fun _ _ z => B9.go z) hT))
  refine scfs_ct (by (k_extra "o")) (by (k_extra "o")) P2  fun h' tk' r t1 t2 n' n2 n3 Q => ?_
  exact hr _ _ _ _ (fun K k => k r t1 t2 n' n2 n3) (Q.widen P.led P.nd (by k_extra "d42"))
end
section
noncomputable def fctU (w : World) (W : Addr) (qa : Nat → Addr) (qt : Nat → Nat → Tok) (qk : Nat → Tok) (qv : Nat → Value) (qi : Nat → Int) (qn : Nat → Nat) (qb : Nat → Bool) : List Fact := [.obj W (instObj 1244 (qa (nat_lit 0))), .obj (qa (nat_lit 0)) (wkD w (qt (nat_lit 0)) (qt (nat_lit 1)) (qa (nat_lit 1)) (qa (nat_lit 2)) (qa (nat_lit 3)) (qa (nat_lit 4)) (qa (nat_lit 5)) (qa (nat_lit 6))), .obj (qa (nat_lit 2)) (instObj 1193 (qa (nat_lit 7))), .obj (qa (nat_lit 7)) (stkD w (qt (nat_lit 2)) (qk (nat_lit 0)) (qa (nat_lit 8))), .obj (qa (nat_lit 1)) (instObj 1130 (qa (nat_lit 9))), .obj (qa (nat_lit 3)) (lsO [.ref (qa (nat_lit 12)), .ref (qa (nat_lit 13))] (qn (nat_lit 0))), .obj (qa (nat_lit 12)) (instObj 1300 (qa (nat_lit 14))), .obj (qa (nat_lit 14)) (znD w (qt (nat_lit 3)) (qa (nat_lit 15)) (qa (nat_lit 16)) (qa (nat_lit 17)) (qa (nat_lit 18)) (qa (nat_lit 19))), .obj (qa (nat_lit 17)) (lsO [.ref (qa (nat_lit 20)), .ref (qa (nat_lit 21)), .ref (qa (nat_lit 22))] (qn (nat_lit 1))), .tup (qa (nat_lit 10)) [.int 16384 (qk (nat_lit 1)), .int 0 (qk (nat_lit 2))], .tup (qa (nat_lit 11)) [.int 16384 (qk (nat_lit 3)), .int 0 (qk (nat_lit 4))]]
theorem oU22 : OpC w 1036 W 22 [((qa (nat_lit 8)), lsO [.int 0 ti] n0), ((qa (nat_lit 9)), gsD w gt gk (qa (nat_lit 10)) (qa (nat_lit 11)) d rp0 rp1 rp2 zp0 zp1 zp2 lp rd), ((qa (nat_lit 16)), lsO [.ref r0, .ref r1, .ref r2] n), (ai, lsO [.bool b0, .bool b1] m2)] (.tup r2 [.int x2 p2x, .int 5 p2y] :: .tup ri [.int x tx, .int y ty] :: fctU w W qa qt qk qv qi qn qb) (fun Ω' new => ∀ K : Objs → Objs → Prop, (∀ n', K [((qa (nat_lit 8)), lsO [] n'), ((qa (nat_lit 9)), gsD w gt gk (qa (nat_lit 10)) (qa (nat_lit 11)) d rp0 rp1 rp2 (.int 0 ti) (.int 0 ti) (.int 0 ti) lp rd), ((qa (nat_lit 16)), lsO [.ref r0, .ref r1, .ref r2] n), (ai, lsO [.bool b0, .bool b1] m2)] []) → K Ω' new) := by
  intro dp un fr gd hH gG dD tT oO R tc hd hu P hr
  have P2 := P.narrow (objs := [((qa (nat_lit 8)), lsO [.int 0 ti] n0), ((qa (nat_lit 9)), gsD w gt gk (qa (nat_lit 10)) (qa (nat_lit 11)) d rp0 rp1 rp2 zp0 zp1 zp2 lp rd)]) (T' := [.obj W (instObj 1244 (qa (nat_lit 0))), .obj (qa (nat_lit 0)) (wkD w (qt (nat_lit 0)) (qt (nat_lit 1)) (qa (nat_lit 1)) (qa (nat_lit 2)) (qa (nat_lit 3)) (qa (nat_lit 4)) (qa (nat_lit 5)) (qa (nat_lit 6))), .obj (qa (nat_lit 2)) (instObj 1193 (qa (nat_lit 7))), .obj (qa (nat_lit 7)) (stkD w (qt (nat_lit 2)) (qk (nat_lit 0)) (qa (nat_lit 8))), .obj (qa (nat_lit 1)) (instObj 1130 (qa (nat_lit 9))), .obj (qa (nat_lit 3)) (lsO [.ref (qa (nat_lit 12)), .ref (qa (nat_lit 13))] (qn (nat_lit 0)))]) (by k_extra "d36") (fun g9 H9 hT B9 => (fun hM => Facts.pk [false, false, true, true, true, true, true, true] hM) (Facts.mono (fun _ _ z => B9.go z) hT))
  refine dozone_ct (by (k_extra "o")) (by (k_extra "o")) P2  fun h' tk' n' Q => ?_
  exact hr _ _ _ _ (fun K k => k n') (Q.widen P.led P.nd (by k_extra "d42"))
theorem oU70 : OpC w 445 W 70 [((qa (nat_lit 8)), lsO [.int 2 q1] n0), ((qa (nat_lit 9)), gsD w gt gk (qa (nat_lit 10)) (qa (nat_lit 11)) d rp0 rp1 rp2 zp0 zp1 (.int 0 h0) lp rd), ((qa (nat_lit 16)), lsO [.ref r0, .ref r1, .ref r2] n), (ai, lsO [.bool b0, .bool b1] m2)] (.tup r2 [.int x2 p2x, .int 5 p2y] :: .tup ri [.int x tx, .int y ty] :: fctU w W qa qt qk qv qi qn qb) (fun Ω' new => ∀ K : Objs → Objs → Prop, (∀ t' n2, K [((qa (nat_lit 8)), lsO [.int (wrapZ x2) t'] n2), ((qa (nat_lit 9)), gsD w gt gk (qa (nat_lit 10)) (qa (nat_lit 11)) d rp0 rp1 rp2 zp0 zp1 (.int 0 h0) lp rd), ((qa (nat_lit 16)), lsO [.ref r0, .ref r1, .ref r2] n), (ai, lsO [.bool b0, .bool b1] m2)] []) → K Ω' new) := by
  intro dp un fr gd hH gG dD tT oO R tc hd hu P hr
  have P2 := P.narrow (objs := [((qa (nat_lit 8)), lsO [.int 2 q1] n0)]) (T' := [.obj W (instObj 1244 (qa (nat_lit 0))), .obj (qa (nat_lit 0)) (wkD w (qt (nat_lit 0)) (qt (nat_lit 1)) (qa (nat_lit 1)) (qa (nat_lit 2)) (qa (nat_lit 3)) (qa (nat_lit 4)) (qa (nat_lit 5)) (qa (nat_lit 6))), .obj (qa (nat_lit 2)) (instObj 1193 (qa (nat_lit 7))), .obj (qa (nat_lit 7)) (stkD w (qt (nat_lit 2)) (qk (nat_lit 0)) (qa (nat_lit 8))), .obj (qa (nat_lit 1)) (instObj 1130 (qa (nat_lit 9))), .obj (qa (nat_lit 9)) (gsD w gt gk (qa (nat_lit 10)) (qa (nat_lit 11)) d rp0 rp1 rp2 zp0 zp1 (.int 0 h0) lp rd), .obj (qa (nat_lit 3)) (lsO [.ref (qa (nat_lit 12)), .ref (qa (nat_lit 13))] (qn (nat_lit 0))), .obj (qa (nat_lit 12)) (instObj 1300 (qa (nat_lit 14))), .obj (qa (nat_lit 14)) (znD w (qt (nat_lit 3)) (qa (nat_lit 15)) (qa (nat_lit 16)) (qa (nat_lit 17)) (qa (nat_lit 18)) (qa (nat_lit 19))), .obj (qa (nat_lit 16)) (lsO [.ref r0, .ref r1, .ref r2] n), .tup (qa (nat_lit 11)) [.int 16384 (qk (nat_lit 3)), .int 0 (qk (nat_lit 4))], .tup r2 [.int x2 p2x, .int 5 p2y]]) (by k_extra "d36") (fun g9 H9 hT B9 => (fun hM => @Facts.app H9 (pkm [false, false, true, true, true, true, true] (.tup r2 [.int x2 p2x, .int 5 p2y] :: .tup ri [.int x tx, .int y ty] :: fctU w W qa qt qk qv qi qn qb)) [.obj (qa (nat_lit 9)) (gsD w gt gk (qa (nat_lit 10)) (qa (nat_lit 11)) d rp0 rp1 rp2 zp0 zp1 (.int 0 h0) lp rd), .obj (qa (nat_lit 3)) (lsO [.ref (qa (nat_lit 12)), .ref (qa (nat_lit 13))] (qn (nat_lit 0))), .obj (qa (nat_lit 12)) (instObj 1300 (qa (nat_lit 14))), .obj (qa (nat_lit 14)) (znD w (qt (nat_lit 3)) (qa (nat_lit 15)) (qa (nat_lit 16)) (qa (nat_lit 17)) (qa (nat_lit 18)) (qa (nat_lit 19))), .obj (qa (nat_lit 16)) (lsO [.ref r0, .ref r1, .ref r2] n), .tup (qa (nat_lit 11)) [.int 16384 (qk (nat_lit 3)), .int 0 (qk (nat_lit 4))], .tup r2 [.int x2 p2x, .int 5 p2y]] (Facts.pk [false, false, true, true, true, true, true] hM) (Facts.obj (B9.no (by k_extra "d312")) (@Facts.app H9 (pkm [false, false, false, false, false, false, false, true, true, true] (.tup r2 [.int x2 p2x, .int 5 p2y] :: .tup ri [.int x tx, .int y ty] :: fctU w W qa qt qk qv qi qn qb)) [.obj (qa (nat_lit 16)) (lsO [.ref r0, .ref r1, .ref r2] n), .tup (qa (nat_lit 11)) [.int 16384 (qk (nat_lit 3)), .int 0 (qk (nat_lit 4))], .tup r2 [.int x2 p2x, .int 5 p2y]] (Facts.pk [false, false, false, false, false, false, false, true, true, true] hM) (Facts.obj (B9.no (by k_extra "d312")) (@Facts.app H9 (pkm [false, false, false, false, false, false, false, false, false, false, false, false, true] (.tup r2 [.int x2 p2x, .int 5 p2y] :: .tup ri [.int x tx, .int y ty] :: fctU w W qa qt qk qv qi qn qb)) [.tup r2 [.int x2 p2x, .int 5 p2y]] (Facts.pk [false, false, false, false, false, false, false, false, false, false, false, false, true] hM) (Facts.pk [true] hM)))))) (Facts.mono (fun _ _ z => B9.go z) hT))
  refine gc0_ct (by (k_extra "o")) (by (k_extra "o")) P2  fun h' tk' t' n2 Q => ?_
  exact hr _ _ _ _ (fun K k => k t' n2) (Q.widen P.led P.nd (by k_extra "d42"))
theorem oU46 (gIx : IxR [.ref r0, .ref r1, .ref r2] i ri) (gTx : IxT [.ref (qa (nat_lit 20)), .ref (qa (nat_lit 21)), .ref (qa (nat_lit 22))] i ai) (i0 : 0 ≤ i) (i1 : i < 3) : OpC w 592 W 46 [((qa (nat_lit 8)), lsO [.int i ti] n0), ((qa (nat_lit 9)), gsD w gt gk (qa (nat_lit 10)) (qa (nat_lit 11)) d rp0 rp1 rp2 (.int 0 h0) zp1 zp2 lp rd), ((qa (nat_lit 16)), lsO [.ref r0, .ref r1, .ref r2] n), (ai, lsO [.bool b0, .bool b1] m2)] (.tup r2 [.int x2 p2x, .int 5 p2y] :: .tup ri [.int x tx, .int y ty] :: fctU w W qa qt qk qv qi qn qb) (fun Ω' new => ∀ K : Objs → Objs → Prop, (∀ r t1 t2 n' n2, K [((qa (nat_lit 8)), lsO [] n2), ((qa (nat_lit 9)), gsD w gt gk (qa (nat_lit 10)) (qa (nat_lit 11)) d (.int i ti) (.int i ti) rp2 (.int 0 h0) zp1 zp2 lp rd), ((qa (nat_lit 16)), lsO ([.ref r0, .ref r1, .ref r2].set i.toNat (.ref r)) n'), (ai, lsO [.bool true, .bool b1] m2)] [(r, tupO [.int (wrapZ (x + 0)) t1, .int (wrapZ y) t2])]) → K Ω' new) := by
  intro dp un fr gd hH gG dD tT oO R tc hd hu P hr
  have P2 := P.narrow (objs := [((qa (nat_lit 8)), lsO [.int i ti] n0), ((qa (nat_lit 9)), gsD w gt gk (qa (nat_lit 10)) (qa (nat_lit 11)) d rp0 rp1 rp2 (.int 0 h0) zp1 zp2 lp rd), ((qa (nat_lit 16)), lsO [.ref r0, .ref r1, .ref r2] n), (ai, lsO [.bool b0, .bool b1] m2)]) (T' := [.obj W (instObj 1244 (qa (nat_lit 0))), .obj (qa (nat_lit 0)) (wkD w (qt (nat_lit 0)) (qt (nat_lit 1)) (qa (nat_lit 1)) (qa (nat_lit 2)) (qa (nat_lit 3)) (qa (nat_lit 4)) (qa (nat_lit 5)) (qa (nat_lit 6))), .obj (qa (nat_lit 2)) (instObj 1193 (qa (nat_lit 7))), .obj (qa (nat_lit 7)) (stkD w (qt (nat_lit 2)) (qk (nat_lit 0)) (qa (nat_lit 8))), .obj (qa (nat_lit 1)) (instObj 1130 (qa (nat_lit 9))), .obj (qa (nat_lit 3)) (lsO [.ref (qa (nat_lit 12)), .ref (qa (nat_lit 13))] (qn (nat_lit 0))), .obj (qa (nat_lit 12)) (instObj 1300 (qa (nat_lit 14))), .obj (qa (nat_lit 14)) (znD w (qt (nat_lit 3)) (qa (nat_lit 15)) (qa (nat_lit 16)) (qa (nat_lit 17)) (qa (nat_lit 18)) (qa (nat_lit 19))), .obj (qa (nat_lit 17)) (lsO [.ref (qa (nat_lit 20)), .ref (qa (nat_lit 21)), .ref (qa (nat_lit 22))] (qn (nat_lit 1))), .tup (qa (nat_lit 10)) [.int 16384 (qk (nat_lit 1)), .int 0 (qk (nat_lit 2))], .tup (qa (nat_lit 11)) [.int 16384 (qk (nat_lit 3)), .int 0 (qk (nat_lit 4))], .tup ri [.int x tx, .int y ty]]) (by k_extra "d36") (fun g9 H9 hT B9 => (fun hM => @Facts.app H9 (pkm [false, false, true, true, true, true, true, true, true, true, true, true, true] (.tup r2 [.int x2 p2x, .int 5 p2y] :: .tup ri [.int x tx, .int y ty] :: fctU w W qa qt qk qv qi qn qb)) [.tup ri [.int x tx, .int y ty]] (Facts.pk [false, false, true, true, true, true, true, true, true, true, true, true, true] hM) (Facts.pk [false, true] hM)) (Facts.mono (fun _ _ z => B9.go z) hT))
  refine mdap_ct (by (k_extra "o")) (by (k_extra "o")) P2 gIx gTx i0 i1 fun h' tk' r t1 t2 n' n2 Q => ?_
  exact hr _ _ _ _ (fun K k => k r t1 t2 n' n2) (Q.widen P.led P.nd (by k_extra "d42"))
noncomputable def fctF (w : World) (W : Addr) (qa : Nat → Addr) (qt : Nat → Nat → Tok) (qk : Nat → Tok) (qv : Nat → Value) (qi : Nat → Int) (qn : Nat → Nat) (qb : Nat → Bool) : List Fact := [.obj W (instObj 1244 (qa (nat_lit 0))), .obj (qa (nat_lit 0)) (wkD w (qt (nat_lit 0)) (qt (nat_lit 1)) (qa (nat_lit 1)) (qa (nat_lit 2)) (qa (nat_lit 3)) (qa (nat_lit 4)) (qa (nat_lit 5)) (qa (nat_lit 6))), .obj (qa (nat_lit 2)) (instObj 1193 (qa (nat_lit 7))), .obj (qa (nat_lit 7)) (stkD w (qt (nat_lit 2)) (qk (nat_lit 0)) (qa (nat_lit 8))), .obj (qa (nat_lit 4)) (lsO [.int (qi (nat_lit 0)) (qk (nat_lit 3))] (qn (nat_lit 5))), .obj (qa (nat_lit 1)) (instObj 1130 (qa (nat_lit 9))), .obj (qa (nat_lit 3)) (lsO [.ref (qa (nat_lit 12)), .ref (qa (nat_lit 11))] (qn (nat_lit 0))), .obj (qa (nat_lit 11)) (instObj 1300 (qa (nat_lit 13))), .obj (qa (nat_lit 13)) (znD w (qt (nat_lit 3)) (qa (nat_lit 14)) (qa (nat_lit 15)) (qa (nat_lit 16)) (qa (nat_lit 17)) (qa (nat_lit 18))), .obj (qa (nat_lit 14)) (lsO [.ref (qa (nat_lit 21)), .ref (qa (nat_lit 22)), .ref (qa (nat_lit 23))] (qn (nat_lit 1))), .obj (qa (nat_lit 17)) (lsO [.int 2 (qk (nat_lit 14))] (qn (nat_lit 6))), .obj (qa (nat_lit 16)) (lsO [.ref (qa (nat_lit 24)), .ref (qa (nat_lit 25)), .ref (qa (nat_lit 26))] (qn (nat_lit 2))), .obj (qa (nat_lit 25)) (lsO [.bool false, .bool (qb (nat_lit 0))] (qn (nat_lit 3))), .obj (qa (nat_lit 26)) (lsO [.bool false, .bool (qb (nat_lit 1))] (qn (nat_lit 4))), .tup (qa (nat_lit 10)) [.int 16384 (qk (nat_lit 1)), .int 0 (qk (nat_lit 2))], .tup (qa (nat_lit 21)) [.int (qi (nat_lit 3)) (qk (nat_lit 8)), .int (qi (nat_lit 8)) (qk (nat_lit 9))], .tup (qa (nat_lit 22)) [.int (qi (nat_lit 4)) (qk (nat_lit 10)), .int (qi (nat_lit 9)) (qk (nat_lit 11))], .tup (qa (nat_lit 23)) [.int (qi (nat_lit 5)) (qk (nat_lit 12)), .int (qi (nat_lit 10)) (qk (nat_lit 13))], .tup (qa (nat_lit 19)) [.int (qi (nat_lit 1)) (qk (nat_lit 4)), .int (qi (nat_lit 6)) (qk (nat_lit 5))], .tup (qa (nat_lit 20)) [.int (qi (nat_lit 2)) (qk (nat_lit 6)), .int (qi (nat_lit 7)) (qk (nat_lit 7))]]
theorem oF69 : OpC w 814 W 69 [((qa (nat_lit 8)), lsO [.int u0 q0, .int 0 q1] n0), ((qa (nat_lit 9)), gsD w gt gk (qa (nat_lit 10)) p d rp0 rp1 rp2 zp0 zp1 zp2 lp rd), ((qa (nat_lit 15)), lsO [.ref r0, .ref (qa (nat_lit 19)), .ref (qa (nat_lit 20))] n), ((qa (nat_lit 24)), lsO [.bool b0, .bool b3] m0)] (.tup r0 [.int x0 p0x, .int c0 p0y] :: fctF w W qa qt qk qv qi qn qb) (fun Ω' new => ∀ K : Objs → Objs → Prop, (∀ t' n2, K [((qa (nat_lit 8)), lsO [.int u0 q0, .int (wrapZ (qi (nat_lit 0))) t'] n2), ((qa (nat_lit 9)), gsD w gt gk (qa (nat_lit 10)) p d rp0 rp1 rp2 zp0 zp1 zp2 lp rd), ((qa (nat_lit 15)), lsO [.ref r0, .ref (qa (nat_lit 19)), .ref (qa (nat_lit 20))] n), ((qa (nat_lit 24)), lsO [.bool b0, .bool b3] m0)] []) → K Ω' new) := by
  intro dp un fr gd hH gG dD tT oO R tc hd hu P hr
  have P2 := P.narrow (objs := [((qa (nat_lit 8)), lsO [.int u0 q0, .int 0 q1] n0)]) (T' := [.obj W (instObj 1244 (qa (nat_lit 0))), .obj (qa (nat_lit 0)) (wkD w (qt (nat_lit 0)) (qt (nat_lit 1)) (qa (nat_lit 1)) (qa (nat_lit 2)) (qa (nat_lit 3)) (qa (nat_lit 4)) (qa (nat_lit 5)) (qa (nat_lit 6))), .obj (qa (nat_lit 2)) (instObj 1193 (qa (nat_lit 7))), .obj (qa (nat_lit 7)) (stkD w (qt (nat_lit 2)) (qk (nat_lit 0)) (qa (nat_lit 8))), .obj (qa (nat_lit 4)) (lsO [.int (qi (nat_lit 0)) (qk (nat_lit 3))] (qn (nat_lit 5)))]) (by k_extra "d36") (fun g9 H9 hT B9 => (fun hM => Facts.pk [false, true, true, true, true, true] hM) (Facts.mono (fun _ _ z => B9.go z) hT))
  refine rcvt1_ct (by (k_extra "o")) (by (k_extra "o")) P2  fun h' tk' t' n2 Q => ?_
  exact hr _ _ _ _ (fun K k => k t' n2) (Q.widen P.led P.nd (by k_extra "d42"))
theorem oF56 : OpC w 898 W 56 [((qa (nat_lit 8)), lsO [.int 0 q0, .int dd q1] n0), ((qa (nat_lit 9)), gsD w gt gk (qa (nat_lit 10)) p d rp0 rp1 rp2 zp0 zp1 (.int 1 h0) (.int 1 h3) rd), ((qa (nat_lit 15)), lsO [.ref r0, .ref (qa (nat_lit 19)), .ref (qa (nat_lit 20))] n), ((qa (nat_lit 24)), lsO [.bool b0, .bool b3] m0)] (.tup r0 [.int x0 p0x, .int c0 p0y] :: fctF w W qa qt qk qv qi qn qb) (fun Ω' new => ∀ K : Objs → Objs → Prop, (∀ t' r t1 t2 n' n2, K [((qa (nat_lit 8)), lsO [] n2), ((qa (nat_lit 9)), gsD w gt gk (qa (nat_lit 10)) p d rp0 rp1 rp2 zp0 zp1 (.int 1 h0) (.int 1 t') rd), ((qa (nat_lit 15)), lsO [.ref r, .ref (qa (nat_lit 19)), .ref (qa (nat_lit 20))] n'), ((qa (nat_lit 24)), lsO [.bool true, .bool b3] m0)] [(r, tupO [.int (wrapZ (x0 + dd)) t1, .int (wrapZ c0) t2])]) → K Ω' new) := by
  intro dp un fr gd hH gG dD tT oO R tc hd hu P hr
  have P2 := P.narrow (objs := [((qa (nat_lit 8)), lsO [.int 0 q0, .int dd q1] n0), ((qa (nat_lit 9)), gsD w gt gk (qa (nat_lit 10)) p d rp0 rp1 rp2 zp0 zp1 (.int 1 h0) (.int 1 h3) rd), ((qa (nat_lit 15)), lsO [.ref r0, .ref (qa (nat_lit 19)), .ref (qa (nat_lit 20))] n), ((qa (nat_lit 24)), lsO [.bool b0, .bool b3] m0)]) (T' := [.obj W (instObj 1244 (qa (nat_lit 0))), .obj (qa (nat_lit 0)) (wkD w (qt (nat_lit 0)) (qt (nat_lit 1)) (qa (nat_lit 1)) (qa (nat_lit 2)) (qa (nat_lit 3)) (qa (nat_lit 4)) (qa (nat_lit 5)) (qa (nat_lit 6))), .obj (qa (nat_lit 2)) (instObj 1193 (qa (nat_lit 7))), .obj (qa (nat_lit 7)) (stkD w (qt (nat_lit 2)) (qk (nat_lit 0)) (qa (nat_lit 8))), .obj (qa (nat_lit 1)) (instObj 1130 (qa (nat_lit 9))), .obj (qa (nat_lit 3)) (lsO [.ref (qa (nat_lit 12)), .ref (qa (nat_lit 11))] (qn (nat_lit 0))), .obj (qa (nat_lit 11)) (instObj 1300 (qa (nat_lit 13))), .obj (qa (nat_lit 13)) (znD w (qt (nat_lit 3)) (qa (nat_lit 14)) (qa (nat_lit 15)) (qa (nat_lit 16)) (qa (nat_lit 17)) (qa (nat_lit 18))), .obj (qa (nat_lit 16)) (lsO [.ref (qa (nat_lit 24)), .ref (qa (nat_lit 25)), .ref (qa (nat_lit 26))] (qn (nat_lit 2))), .tup (qa (nat_lit 10)) [.int 16384 (qk (nat_lit 1)), .int 0 (qk (nat_lit 2))], .tup r0 [.int x0 p0x, .int c0 p0y]]) (by k_extra "d36") (fun g9 H9 hT B9 => (fun hM => @Facts.app H9 (pkm [false, true, true, true, true, false, true, true, true, true, false, false, true, false, false, true] (.tup r0 [.int x0 p0x, .int c0 p0y] :: fctF w W qa qt qk qv qi qn qb)) [.tup r0 [.int x0 p0x, .int c0 p0y]] (Facts.pk [false, true, true, true, true, false, true, true, true, true, false, false, true, false, false, true] hM) (Facts.pk [true] hM)) (Facts.mono (fun _ _ z => B9.go z) hT))
  refine shpix_ct (by (k_extra "o")) (by (k_extra "o")) P2  fun h' tk' t' r t1 t2 n' n2 Q => ?_
  exact hr _ _ _ _ (fun K k => k t' r t1 t2 n' n2) (Q.widen P.led P.nd (by k_extra "d42"))
theorem oF49 : OpC w 945 W 49 [((qa (nat_lit 8)), lsO [] n0), ((qa (nat_lit 9)), gsD w gt gk (qa (nat_lit 10)) p d rp0 rp1 rp2 zp0 zp1 zp2 lp rd), ((qa (nat_lit 15)), lsO [.ref r0, .ref (qa (nat_lit 19)), .ref (qa (nat_lit 20))] n), ((qa (nat_lit 24)), lsO [.bool true, .bool b3] m0)] (.tup r0 [.int x0 p0x, .int c0 p0y] :: fctF w W qa qt qk qv qi qn qb) (fun Ω' new => ∀ K : Objs → Objs → Prop, (∀ rA rB t1 t2 t3 t4 n', K [((qa (nat_lit 8)), lsO [] n0), ((qa (nat_lit 9)), gsD w gt gk (qa (nat_lit 10)) p d rp0 rp1 rp2 zp0 zp1 zp2 lp rd), ((qa (nat_lit 15)), lsO [.ref r0, .ref rA, .ref rB] n'), ((qa (nat_lit 24)), lsO [.bool true, .bool b3] m0)] [(rB, tupO [.int (wrapZ ((qi (nat_lit 5)) + x0 - (qi (nat_lit 3)))) t3, .int (wrapZ (qi (nat_lit 7))) t4]), (rA, tupO [.int (wrapZ ((qi (nat_lit 4)) + x0 - (qi (nat_lit 3)))) t1, .int (wrapZ (qi (nat_lit 6))) t2])]) → K Ω' new) := by
  intro dp un fr gd hH gG dD tT oO R tc hd hu P hr
  have P2 := P.narrow (objs := [((qa (nat_lit 15)), lsO [.ref r0, .ref (qa (nat_lit 19)), .ref (qa (nat_lit 20))] n)]) (T' := [.obj W (instObj 1244 (qa (nat_lit 0))), .obj (qa (nat_lit 0)) (wkD w (qt (nat_lit 0)) (qt (nat_lit 1)) (qa (nat_lit 1)) (qa (nat_lit 2)) (qa (nat_lit 3)) (qa (nat_lit 4)) (qa (nat_lit 5)) (qa (nat_lit 6))), .obj (qa (nat_lit 3)) (lsO [.ref (qa (nat_lit 12)), .ref (qa (nat_lit 11))] (qn (nat_lit 0))), .obj (qa (nat_lit 11)) (instObj 1300 (qa (nat_lit 13))), .obj (qa (nat_lit 13)) (znD w (qt (nat_lit 3)) (qa (nat_lit 14)) (qa (nat_lit 15)) (qa (nat_lit 16)) (qa (nat_lit 17)) (qa (nat_lit 18))), .obj (qa (nat_lit 14)) (lsO [.ref (qa (nat_lit 21)), .ref (qa (nat_lit 22)), .ref (qa (nat_lit 23))] (qn (nat_lit 1))), .obj (qa (nat_lit 17)) (lsO [.int 2 (qk (nat_lit 14))] (qn (nat_lit 6))), .obj (qa (nat_lit 16)) (lsO [.ref (qa (nat_lit 24)), .ref (qa (nat_lit 25)), .ref (qa (nat_lit 26))] (qn (nat_lit 2))), .obj (qa (nat_lit 24)) (lsO [.bool true, .bool b3] m0), .obj (qa (nat_lit 25)) (lsO [.bool false, .bool (qb (nat_lit 0))] (qn (nat_lit 3))), .obj (qa (nat_lit 26)) (lsO [.bool false, .bool (qb (nat_lit 1))] (qn (nat_lit 4))), .tup r0 [.int x0 p0x, .int c0 p0y], .tup (qa (nat_lit 19)) [.int (qi (nat_lit 1)) (qk (nat_lit 4)), .int (qi (nat_lit 6)) (qk (nat_lit 5))], .tup (qa (nat_lit 20)) [.int (qi (nat_lit 2)) (qk (nat_lit 6)), .int (qi (nat_lit 7)) (qk (nat_lit 7))], .tup (qa (nat_lit 21)) [.int (qi (nat_lit 3)) (qk (nat_lit 8)), .int (qi (nat_lit 8)) (qk (nat_lit 9))], .tup (qa (nat_lit 22)) [.int (qi (nat_lit 4)) (qk (nat_lit 10)), .int (qi (nat_lit 9)) (qk (nat_lit 11))], .tup (qa (nat_lit 23)) [.int (qi (nat_lit 5)) (qk (nat_lit 12)), .int (qi (nat_lit 10)) (qk (nat_lit 13))]]) (by k_extra "d36") (fun g9 H9 hT B9 => (fun hM => @Facts.app H9 (pkm [false, true, true, false, false, false, false, true, true, true, true, true, true] (.tup r0 [.int x0 p0x, .int c0 p0y] :: fctF w W qa qt qk qv qi qn qb)) [.obj (qa (nat_lit 24)) (lsO [.bool true, .bool b3] m0), .obj (qa (nat_lit 25)) (lsO [.bool false, .bool (qb (nat_lit 0))] (qn (nat_lit 3))), .obj (qa (nat_lit 26)) (lsO [.bool false, .bool (qb (nat_lit 1))] (qn (nat_lit 4))), .tup r0 [.int x0 p0x, .int c0 p0y], .tup (qa (nat_lit 19)) [.int (qi (nat_lit 1)) (qk (nat_lit 4)), .int (qi (nat_lit 6)) (qk (nat_lit 5))], .tup (qa (nat_lit 20)) [.int (qi (nat_lit 2)) (qk (nat_lit 6)), .int (qi (nat_lit 7)) (qk (nat_lit 7))], .tup (qa (nat_lit 21)) [.int (qi (nat_lit 3)) (qk (nat_lit 8)), .int (qi (nat_lit 8)) (qk (nat_lit 9))], .tup (qa (nat_lit 22)) [.int (qi (nat_lit 4)) (qk (nat_lit 10)), .int (qi (nat_lit 9)) (qk (nat_lit 11))], .tup (qa (nat_lit 23)) [.int (qi (nat_lit 5)) (qk (nat_lit 12)), .int (qi (nat_lit 10)) (qk (nat_lit 13))]] (Facts.pk [false, true, true, false, false, false, false, true, true, true, true, true, true] hM) (Facts.obj (B9.no (by k_extra "d312")) (@Facts.app H9 (pkm [false, false, false, false, false, false, false, false, false, false, false, false, false, true, true] (.tup r0 [.int x0 p0x, .int c0 p0y] :: fctF w W qa qt qk qv qi qn qb)) [.tup r0 [.int x0 p0x, .int c0 p0y], .tup (qa (nat_lit 19)) [.int (qi (nat_lit 1)) (qk (nat_lit 4)), .int (qi (nat_lit 6)) (qk (nat_lit 5))], .tup (qa (nat_lit 20)) [.int (qi (nat_lit 2)) (qk (nat_lit 6)), .int (qi (nat_lit 7)) (qk (nat_lit 7))], .tup (qa (nat_lit 21)) [.int (qi (nat_lit 3)) (qk (nat_lit 8)), .int (qi (nat_lit 8)) (qk (nat_lit 9))], .tup (qa (nat_lit 22)) [.int (qi (nat_lit 4)) (qk (nat_lit 10)), .int (qi (nat_lit 9)) (qk (nat_lit 11))], .tup (qa (nat_lit 23)) [.int (qi (nat_lit 5)) (qk (nat_lit 12)), .int (qi (nat_lit 10)) (qk (nat_lit 13))]] (Facts.pk [false, false, false, false, false, false, false, false, false, false, false, false, false, true, true] hM) (@Facts.app H9 (pkm [true, false, false, false, false, false, false, false, false, false, false, false, false, false, false, false, false, false, false, true, true] (.tup r0 [.int x0 p0x, .int c0 p0y] :: fctF w W qa qt qk qv qi qn qb)) [.tup (qa (nat_lit 21)) [.int (qi (nat_lit 3)) (qk (nat_lit 8)), .int (qi (nat_lit 8)) (qk (nat_lit 9))], .tup (qa (nat_lit 22)) [.int (qi (nat_lit 4)) (qk (nat_lit 10)), .int (qi (nat_lit 9)) (qk (nat_lit 11))], .tup (qa (nat_lit 23)) [.int (qi (nat_lit 5)) (qk (nat_lit 12)), .int (qi (nat_lit 10)) (qk (nat_lit 13))]] (Facts.pk [true, false, false, false, false, false, false, false, false, false, false, false, false, false, false, false, false, false, false, true, true] hM) (Facts.pk [false, false, false, false, false, false, false, false, false, false, false, false, false, false, false, false, true, true, true] hM))))) (Facts.mono (fun _ _ z => B9.go z) hT))
  refine iup_ct (by (k_extra "o")) (by (k_extra "o")) P2  fun h' tk' rA rB t1 t2 t3 t4 n' Q => ?_
  exact hr _ _ _ _ (fun K k => k rA rB t1 t2 t3 t4 n') (Q.widen P.led P.nd (by k_extra "d42"))
end
section
structure Sys (w : World) (c : MC) (ks : List Int) (oo : Obj) (kvs : List (Int × Value)) : Prop where
  hk : KBw.bInts c.b = ks
  hz : ks.length ≤ 1000
  hdo : oo.IsDictOf (PySem.intKind PR w) kvs
  hlo : (c.od == sysModules) = false
structure Cds (ks : List Int) (i : Int) (r : List Int) : Prop where
  i0 : 0 ≤ i
  e : ks.drop i.toNat = r
theorem Cds.len (C : Cds ks i r) (h : r ≠ []) : i + r.length = ks.length := by
  have h1 := congrArg List.length C.e
  rw [List.length_drop] at h1
  have : r.length ≠ 0 := fun q => h (List.eq_nil_of_length_eq_zero q)
  have := C.i0
  (k_extra "o")
theorem Cds.tl (C : Cds ks i (x :: r)) : Cds ks (i + 1) r := by
  refine ⟨by have := C.i0; (k_extra "o"), ?_⟩
  have h0 := C.i0
  rw [show (i + 1).toNat = i.toNat + 1 from by (k_extra "o"), ← List.drop_drop, C.e]
  rfl
theorem Cds.at (C : Cds ks i (x :: r)) : ks.getD i.toNat 0 = x := by
  have h := congrArg (fun z => z[0]?) C.e
  simp only [List.getElem?_drop, Nat.add_zero, List.getElem?_cons_zero] at h
  rw [List.getD_eq_getElem?_getD, h]; rfl
theorem Cds.fin (C : Cds ks i []) (h : i ≤ ks.length) : i = ks.length := by
  have h1 := congrArg List.length C.e
  rw [List.length_drop] at h1
  have := C.i0
  have h2 : ks.length - i.toNat = 0 := h1
  (k_extra "o")
structure OpOk (op : Int) : Prop where
  o1 : op ≠ 64
  o2 : op ≠ 65
  o3 : op < 176
  x1 : ([88, 27, 89] : List Int).any (fun x => x == op) = false
  x2 : ([28, 120, 121] : List Int).any (fun x => x == op) = false
  x3 : ([43, 42, 44, 137, 45] : List Int).any (fun x => x == op) = false
section
variable {w : World} {c : MC} {i x0 op n0 n1 n2 n3 : Int} {ks r : List Int} {oo : Obj} {kvs : List (Int × Value)} {t0 : Tok} {n nq : Nat} {Ω Nw : Objs} {T T0 : List Fact} {Rel : Objs → Objs → Prop} {B : Int → Objs → Objs → Prop} {Wd S k zs cv sg sc kd l : Addr} {wt wn ts : Nat → Tok} {tm : Tok} {f : Addr}
theorem Goes.opr (Y : Sys w c ks oo kvs) (C : Cds ks i (op :: r)) (k : OpOk op) (hf : valueAt kvs op = some (.ref f)) (hkf : keepIn (KK w.params) (.ref f) = true) (hop : OpC w f c.W op Ω T Rel) (hra : ∀ Ω' new, Rel Ω' new → ads Ω' = ads Ω) (hT : ∀ H, Facts H T0 → (∀ p ∈ Nw, H.get? p.1 = some p.2) → Facts H (.obj c.od oo :: T))
    (next : ∀ Ω' new, Rel Ω' new → Cds ks (i + 1) r → ∃ Nw', Nw'.Sublist (new ++ Nw) ∧ GoesG w c ks.length T0 B n (i + 1) Ω' Nw') : GoesG w c ks.length T0 B (n + 1) i Ω Nw := by
  have hl := C.len (List.cons_ne_nil _ _)
  rw [List.length_cons] at hl
  exact ⟨C.i0, by (k_extra "o"), _, _, _, stepO Y.hk Y.hz C.i0 (by (k_extra "o")) C.at k.o1 k.o2 k.o3 k.x1 k.x2 k.x3 Y.hdo Y.hlo hf hkf hop hra, hT, fun Ω' new h => ⟨hra _ _ h, next _ _ h C.tl⟩⟩
theorem Goes.p176a (Y : Sys w c ks oo kvs) (C : Cds ks i (176 :: n0 :: r)) (hT : ∀ H, Facts H T0 → (∀ p ∈ Nw, H.get? p.1 = some p.2) → Facts H (WKF w c.W Wd S k zs cv sg sc kd l wt wn ts tm))
    (next : ∀ u0' n', Cds ks (i + 2) r → GoesG w c ks.length T0 B n (i + 2) ((l, lsO [.int (wrapZ n0) u0'] n') :: Ω) Nw) : GoesG w c ks.length T0 B (n + 1) i ((l, lsO [] nq) :: Ω) Nw := by
  have hl := C.len (List.cons_ne_nil _ _)
  simp only [List.length_cons] at hl
  have h0 := C.i0
  have e : i + 1 + 1 = i + 2 := by (k_extra "o")
  have Cn : Cds ks (i + 2) r := by
    refine ⟨by (k_extra "o"), ?_⟩
    rw [show (i + 2).toNat = i.toNat + 2 from by (k_extra "o"), ← List.drop_drop, C.e]
    rfl
  have hsl : (ks.drop (i.toNat + 1)).take 1 = [n0] := by rw [← List.drop_drop, C.e]; rfl
  refine ⟨h0, by (k_extra "o"), i + 2, WKF w c.W Wd S k zs cv sg sc kd l wt wn ts tm, (fun Ω' new => new = [] ∧ ∃ u0' n', Ω' = (l, lsO [.int (wrapZ n0) u0'] n') :: Ω), fun hd hu P hr => stepP176a e Y.hk Y.hz h0 (by (k_extra "o")) C.at hsl (fun _ h => h) hd hu P hr, hT, ?_⟩
  · rintro _ _ ⟨rfl, u0', n', rfl⟩
    exact ⟨rfl, Nw, List.Sublist.refl _, next u0' n' Cn⟩
theorem Goes.p176b (Y : Sys w c ks oo kvs) (C : Cds ks i (176 :: n0 :: r)) (hT : ∀ H, Facts H T0 → (∀ p ∈ Nw, H.get? p.1 = some p.2) → Facts H (WKF w c.W Wd S k zs cv sg sc kd l wt wn ts tm))
    (next : ∀ u0' n', Cds ks (i + 2) r → GoesG w c ks.length T0 B n (i + 2) ((l, lsO [.int x0 t0, .int (wrapZ n0) u0'] n') :: Ω) Nw) : GoesG w c ks.length T0 B (n + 1) i ((l, lsO [.int x0 t0] nq) :: Ω) Nw := by
  have hl := C.len (List.cons_ne_nil _ _)
  simp only [List.length_cons] at hl
  have h0 := C.i0
  have e : i + 1 + 1 = i + 2 := by (k_extra "o")
  have Cn : Cds ks (i + 2) r := by
    refine ⟨by (k_extra "o"), ?_⟩
    rw [show (i + 2).toNat = i.toNat + 2 from by (k_extra "o"), ← List.drop_drop, C.e]
    rfl
  have hsl : (ks.drop (i.toNat + 1)).take 1 = [n0] := by rw [← List.drop_drop, C.e]; rfl
  refine ⟨h0, by (k_extra "o"), i + 2, WKF w c.W Wd S k zs cv sg sc kd l wt wn ts tm, (fun Ω' new => new = [] ∧ ∃ u0' n', Ω' = (l, lsO [.int x0 t0, .int (wrapZ n0) u0'] n') :: Ω), fun hd hu P hr => stepP176b e Y.hk Y.hz h0 (by (k_extra "o")) C.at hsl (fun _ h => h) hd hu P hr, hT, ?_⟩
  · rintro _ _ ⟨rfl, u0', n', rfl⟩
    exact ⟨rfl, Nw, List.Sublist.refl _, next u0' n' Cn⟩
theorem Goes.p179 (Y : Sys w c ks oo kvs) (C : Cds ks i (179 :: n0 :: n1 :: n2 :: n3 :: r)) (hT : ∀ H, Facts H T0 → (∀ p ∈ Nw, H.get? p.1 = some p.2) → Facts H (WKF w c.W Wd S k zs cv sg sc kd l wt wn ts tm))
    (next : ∀ u0' u1' u2' u3' n', Cds ks (i + 5) r → GoesG w c ks.length T0 B n (i + 5) ((l, lsO [.int (wrapZ n0) u0', .int (wrapZ n1) u1', .int (wrapZ n2) u2', .int (wrapZ n3) u3'] n') :: Ω) Nw) : GoesG w c ks.length T0 B (n + 1) i ((l, lsO [] nq) :: Ω) Nw := by
  have hl := C.len (List.cons_ne_nil _ _)
  simp only [List.length_cons] at hl
  have h0 := C.i0
  have e : i + 1 + 4 = i + 5 := by (k_extra "o")
  have Cn : Cds ks (i + 5) r := by
    refine ⟨by (k_extra "o"), ?_⟩
    rw [show (i + 5).toNat = i.toNat + 5 from by (k_extra "o"), ← List.drop_drop, C.e]
    rfl
  have hsl : (ks.drop (i.toNat + 1)).take 4 = [n0, n1, n2, n3] := by rw [← List.drop_drop, C.e]; rfl
  refine ⟨h0, by (k_extra "o"), i + 5, WKF w c.W Wd S k zs cv sg sc kd l wt wn ts tm, (fun Ω' new => new = [] ∧ ∃ u0' u1' u2' u3' n', Ω' = (l, lsO [.int (wrapZ n0) u0', .int (wrapZ n1) u1', .int (wrapZ n2) u2', .int (wrapZ n3) u3'] n') :: Ω), fun hd hu P hr => stepP179 e Y.hk Y.hz h0 (by (k_extra "o")) C.at hsl (fun _ h => h) hd hu P hr, hT, ?_⟩
  · rintro _ _ ⟨rfl, u0', u1', u2', u3', n', rfl⟩
    exact ⟨rfl, Nw, List.Sublist.refl _, next u0' u1' u2' u3' n' Cn⟩
end
end
section
theorem keep445 : keepIn (KK w.params) (.ref 445) = true := by k_is
theorem keep452 : keepIn (KK w.params) (.ref 452) = true := by k_is
theorem keep592 : keepIn (KK w.params) (.ref 592) = true := by k_is
theorem keep641 : keepIn (KK w.params) (.ref 641) = true := by k_is
theorem keep648 : keepIn (KK w.params) (.ref 648) = true := by k_is
theorem keep772 : keepIn (KK w.params) (.ref 772) = true := by k_is
theorem keep807 : keepIn (KK w.params) (.ref 807) = true := by k_is
theorem keep814 : keepIn (KK w.params) (.ref 814) = true := by k_is
theorem keep898 : keepIn (KK w.params) (.ref 898) = true := by k_is
theorem keep945 : keepIn (KK w.params) (.ref 945) = true := by k_is
theorem keep1029 : keepIn (KK w.params) (.ref 1029) = true := by k_is
theorem keep1036 : keepIn (KK w.params) (.ref 1036) = true := by k_is
theorem ok22 : OpOk 22 := ⟨by decide, by decide, by decide, by decide, by decide, by decide⟩
theorem ok16 : OpOk 16 := ⟨by decide, by decide, by decide, by decide, by decide, by decide⟩
theorem ok17 : OpOk 17 := ⟨by decide, by decide, by decide, by decide, by decide, by decide⟩
theorem ok18 : OpOk 18 := ⟨by decide, by decide, by decide, by decide, by decide, by decide⟩
theorem ok60 : OpOk 60 := ⟨by decide, by decide, by decide, by decide, by decide, by decide⟩
theorem ok57 : OpOk 57 := ⟨by decide, by decide, by decide, by decide, by decide, by decide⟩
theorem ok70 : OpOk 70 := ⟨by decide, by decide, by decide, by decide, by decide, by decide⟩
theorem ok72 : OpOk 72 := ⟨by decide, by decide, by decide, by decide, by decide, by decide⟩
theorem ok46 : OpOk 46 := ⟨by decide, by decide, by decide, by decide, by decide, by decide⟩
theorem ok69 : OpOk 69 := ⟨by decide, by decide, by decide, by decide, by decide, by decide⟩
theorem ok112 : OpOk 112 := ⟨by decide, by decide, by decide, by decide, by decide, by decide⟩
theorem ok104 : OpOk 104 := ⟨by decide, by decide, by decide, by decide, by decide, by decide⟩
theorem ok56 : OpOk 56 := ⟨by decide, by decide, by decide, by decide, by decide, by decide⟩
theorem ok49 : OpOk 49 := ⟨by decide, by decide, by decide, by decide, by decide, by decide⟩
structure Tbl (kvs : List (Int × Value)) : Prop where
  a22 : valueAt kvs 22 = some (.ref 1036)
  a16 : valueAt kvs 16 = some (.ref 1029)
  a17 : valueAt kvs 17 = some (.ref 1029)
  a18 : valueAt kvs 18 = some (.ref 1029)
  a60 : valueAt kvs 60 = some (.ref 641)
  a57 : valueAt kvs 57 = some (.ref 648)
  a70 : valueAt kvs 70 = some (.ref 445)
  a72 : valueAt kvs 72 = some (.ref 452)
  a46 : valueAt kvs 46 = some (.ref 592)
  a69 : valueAt kvs 69 = some (.ref 814)
  a112 : valueAt kvs 112 = some (.ref 807)
  a104 : valueAt kvs 104 = some (.ref 772)
  a56 : valueAt kvs 56 = some (.ref 898)
  a49 : valueAt kvs 49 = some (.ref 945)
theorem wz0 : wrapZ 0 = 0 := by decide
theorem wz1 : wrapZ 1 = 1 := by decide
theorem wz2 : wrapZ 2 = 2 := by decide
theorem wz5 : wrapZ 5 = 5 := by decide
theorem go_rounded {c : MC} (Y : Sys w c [176, 0, 69, 104] oo kvs) (B : Tbl kvs) :
    Goes w c 4 (.obj c.od oo :: fctR w c.W qa qt qk qv qi qn qb) (fun Ω Nw => ∀ K : Objs → Objs → Prop, (∀ t n, K [((qa (nat_lit 8)), lsO [.int (wrapZ (roundZ (wrapZ (qi (nat_lit 0))))) t] n)] []) → K Ω Nw) 3 0 [((qa (nat_lit 8)), lsO [] n0)] [] := by
  refine Goes.p176a Y (C := ⟨by decide, rfl⟩) (fun _ h _ => Facts.pk [true, true, true, true] (Facts.tl h)) fun u n1 C => ?_
  rw [wz0]
  refine Goes.opr Y C ok69 B.a69 keep814 oR69 (fun _ _ r => r (fun x _ => ads x = _) fun _ _ => rfl) (fun _ h _ => h) ?_
  intro Ω9 N9 r9; apply r9; clear r9 Ω9 N9; intro t n2 C
  refine ⟨[], List.Sublist.refl _, ?_⟩
  refine Goes.opr Y C ok104 B.a104 keep772 oR104 (fun _ _ r => r (fun x _ => ads x = _) fun _ _ => rfl) (fun _ h _ => h) ?_
  intro Ω9 N9 r9; apply r9; clear r9 Ω9 N9; intro t n3 C
  exact ⟨[], List.Sublist.refl _, C.fin (by decide), fun K k => k ..⟩
end
section
theorem wz_lo {n : Int} : -2147483648 ≤ wrapZ n := by
  unfold wrapZ
  rw [Int.fmod_eq_emod_of_nonneg _ (by decide)]
  have := Int.emod_nonneg (n + 2147483648) (show (4294967296 : Int) ≠ 0 by decide)
  (k_extra "o")
theorem wz_hi {n : Int} : wrapZ n < 2147483648 := by
  unfold wrapZ
  rw [Int.fmod_eq_emod_of_nonneg _ (by decide)]
  have := Int.emod_lt_of_pos (n + 2147483648) (show (0 : Int) < 4294967296 by decide)
  (k_extra "o")
noncomputable def scZ (A B : Int) : Nat → Int → Int
  | 0, v => v
  | n + 1, v => scZ A B n (wrapZ (muldivZ (wrapZ v) A B))
noncomputable def scB : Nat → List Int
  | 0 => []
  | n + 1 => 176 :: 0 :: 176 :: 0 :: 69 :: 112 :: scB n
theorem go_scaled {c : MC} {V : Int} (Y : Sys w c ks oo kvs) (B' : Tbl kvs) (b0 : (qi (nat_lit 1)) ≠ 0) (b1 : -(2 ^ 28) ≤ (qi (nat_lit 1))) (b2 : (qi (nat_lit 1)) < 2 ^ 28) : ∀ (m : Nat) {i v : Int} {tv : Tok} {nc n0 : Nat}, Cds ks i (scB m) → i ≤ ks.length → scZ (qi (nat_lit 0)) (qi (nat_lit 1)) m v = V →
    Goes w c ks.length (.obj c.od oo :: fctS w c.W qa qt qk qv qi qn qb) (fun Ω Nw => ∀ K : Objs → Objs → Prop, (∀ t n n', K [((qa (nat_lit 8)), lsO [] n), ((qa (nat_lit 4)), lsO [.int V t] n')] []) → K Ω Nw) (4 * m) i [((qa (nat_lit 8)), lsO [] n0), ((qa (nat_lit 4)), lsO [.int v tv] nc)] []  := by
  intro m
  induction m with
  | zero =>
    intro i v tv nc n0 C hi hV
    exact ⟨C.fin hi, fun K k => by subst hV; exact k ..⟩
  | succ m ih =>
    intro i v tv nc n0 C hi hV
    have hl := C.len (List.cons_ne_nil _ _)
    simp only [scB, List.length_cons] at hl
    show Goes _ _ _ _ _ (4 * m + 1 + 1 + 1 + 1) _ _ _
    refine Goes.p176a Y C (fun _ h _ => Facts.pk [true, true, true, true] (Facts.tl h)) fun u n1 C => ?_
    rw [wz0]
    refine Goes.p176b Y C (fun _ h _ => Facts.pk [true, true, true, true] (Facts.tl h)) fun u1 n1 C => ?_
    rw [wz0]
    refine Goes.opr Y C ok69 B'.a69 keep814 oS69 (fun _ _ r => r (fun x _ => ads x = _) fun _ _ => rfl) (fun _ h _ => h) ?_
    intro Ω9 N9 r9; apply r9; clear r9 Ω9 N9; intro t n2 C
    refine ⟨[], List.Sublist.refl _, ?_⟩
    refine Goes.opr Y C ok112 B'.a112 keep807 (oS112 (b0 := b0) (b1 := b1) (b2' := b2) (xm := .of_left (intBits_le_64 (by have := @wz_lo v; (k_extra "o")) (by have := @wz_hi v; (k_extra "o"))))) (fun _ _ r => r (fun x _ => ads x = _) fun _ _ _ => rfl) (fun _ h _ => h) ?_
    intro Ω9 N9 r9; apply r9; clear r9 Ω9 N9; intro t n2 n3 C
    exact ⟨[], List.Sublist.refl _, ih C (by (k_extra "o")) hV⟩
theorem go_far {c : MC} (Y : Sys w c [176, 0, 176, 0, 69, 56, 49] oo kvs) (B' : Tbl kvs) :
    Goes w c 7 (.obj c.od oo :: .tup r0 [.int x0 p0x, .int c0 p0y] :: fctF w c.W qa qt qk qv qi qn qb) (fun Ω Nw => ∀ K : Objs → Objs → Prop, (∀ rA rB r t1 t2 t3 t4 t5 t6 n n1 t', K [((qa (nat_lit 8)), lsO [] n), ((qa (nat_lit 9)), gsD w gt gk (qa (nat_lit 10)) p d rp0 rp1 rp2 zp0 zp1 (.int 1 h0) (.int 1 t') rd), ((qa (nat_lit 15)), lsO [.ref r, .ref rA, .ref rB] n1), ((qa (nat_lit 24)), lsO [.bool true, .bool b3] m0)] [(rB, tupO [.int (wrapZ ((qi (nat_lit 5)) + wrapZ (x0 + wrapZ (qi (nat_lit 0))) - (qi (nat_lit 3)))) t3, .int (wrapZ (qi (nat_lit 7))) t4]), (rA, tupO [.int (wrapZ ((qi (nat_lit 4)) + wrapZ (x0 + wrapZ (qi (nat_lit 0))) - (qi (nat_lit 3)))) t1, .int (wrapZ (qi (nat_lit 6))) t2]), (r, tupO [.int (wrapZ (x0 + wrapZ (qi (nat_lit 0)))) t5, .int (wrapZ c0) t6])]) → K Ω Nw) 5 0 [((qa (nat_lit 8)), lsO [] n0), ((qa (nat_lit 9)), gsD w gt gk (qa (nat_lit 10)) p d rp0 rp1 rp2 zp0 zp1 (.int 1 h0) (.int 1 h3) rd), ((qa (nat_lit 15)), lsO [.ref r0, .ref (qa (nat_lit 19)), .ref (qa (nat_lit 20))] n), ((qa (nat_lit 24)), lsO [.bool b0, .bool b3] m0)] [] := by
  refine Goes.p176a Y (C := ⟨by decide, rfl⟩) (fun _ h _ => Facts.pk [true, true, true, true] (Facts.tl (Facts.tl h))) fun u n1 C => ?_
  rw [wz0]
  refine Goes.p176b Y C (fun _ h _ => Facts.pk [true, true, true, true] (Facts.tl (Facts.tl h))) fun u1 n1 C => ?_
  rw [wz0]
  refine Goes.opr Y C ok69 B'.a69 keep814 oF69 (fun _ _ r => r (fun x _ => ads x = _) fun _ _ => rfl) (fun _ h _ => h) ?_
  intro Ω9 N9 r9; apply r9; clear r9 Ω9 N9; intro t n2 C
  refine ⟨[], List.Sublist.refl _, ?_⟩
  refine Goes.opr Y C ok56 B'.a56 keep898 oF56 (fun _ _ r => r (fun x _ => ads x = _) fun _ _ _ _ _ _ => rfl) (fun _ h _ => h) ?_
  intro Ω9 N9 r9; apply r9; clear r9 Ω9 N9; intro t7 r t5 t6 n3 n4 C
  refine ⟨_, List.Sublist.refl _, ?_⟩
  refine Goes.opr Y C ok49 B'.a49 keep945 oF49 (fun _ _ r => r (fun x _ => ads x = _) fun _ _ _ _ _ _ _ => rfl) (fun H a b => Facts.set (b _ (.head _)) 1 a) ?_
  intro Ω9 N9 r9; apply r9; clear r9 Ω9 N9; intro rA rB t1 t2 t3 t4 n5 C
  exact ⟨_, List.Sublist.refl _, C.fin (by decide), fun K k => k ..⟩
end
section
theorem go_turn {c : MC} {g3' g4' g5' : Tok} {nn : Nat} (Y : Sys w c ks oo kvs) (B' : Tbl kvs)
    (w0 : y1 - y0 ≠ 0) (w1 : -(2 ^ 28) ≤ y1 - y0) (w2 : y1 - y0 < 2 ^ 28) (k0 : -4294967296 ≤ x0) (k1 : x0 ≤ 4294967296) (C : Cds ks i (179 :: 2 :: 2 :: 2 :: 1 :: 60 :: 57 :: 70 :: 72 :: r)) (hf : ∀ H, Facts H T0 → (∀ p ∈ Nw, H.get? p.1 = some p.2) → Facts H (.obj c.od oo :: .tup r0 [.int x0 p0x, .int 5 p0y] :: .tup r1 [.int x1 p1x, .int 5 p1y] :: .tup r2 [.int x2 p2x, .int 5 p2y] :: .tup s0 [.int y0 o0x, .int 5 o0y] :: .tup s1 [.int y1 o1x, .int 5 o1y] :: .tup s2 [.int y2 o2x, .int 5 o2y] :: fctT w c.W qa qt qk qv qi qn qb))
    (next : ∀ i' rA rB t1 t2 t3 t4 na nb n9 g9, Cds ks i' r → i' ≤ ks.length → Goes w c ks.length T0 Fin nn i' [((qa (nat_lit 8)), lsO [] n9), ((qa (nat_lit 9)), gsD w gt gk (qa (nat_lit 10)) (qa (nat_lit 11)) (qa (nat_lit 12)) (.int 2 g0') (.int 0 g1') (.int 1 g2') (.int 0 g3') (.int 0 g4') (.int 0 g5') (.int 1 g9) rd), ((qa (nat_lit 17)), lsO [.ref r0, .ref rA, .ref rB] na), ((qa (nat_lit 16)), lsO [.ref s0, .ref s1, .ref rB] nb), ((qa (nat_lit 22)), lsO [.bool true, .bool b1] m1), ((qa (nat_lit 23)), lsO [.bool true, .bool b3] m2)] [(rB, tupO [.int (wrapZ ((wrapZ (x2 + (muldivZ (y2 - y0) ((wrapZ (x1 + (0 - (x1 - x2)))) - x0) (y1 - y0) - (x2 - x0)))) + (wrapZ (wrapZ (x2 + (muldivZ (y2 - y0) ((wrapZ (x1 + (0 - (x1 - x2)))) - x0) (y1 - y0) - (x2 - x0)))) - (wrapZ (x2 + (muldivZ (y2 - y0) ((wrapZ (x1 + (0 - (x1 - x2)))) - x0) (y1 - y0) - (x2 - x0))))))) t3, .int 5 t4]), (rA, tupO [.int (wrapZ (x1 + (0 - (x1 - x2)))) t1, .int 5 t2])]) : Goes w c ks.length T0 Fin (nn + 5) i [((qa (nat_lit 8)), lsO [] n0), ((qa (nat_lit 9)), gsD w gt gk (qa (nat_lit 10)) (qa (nat_lit 11)) (qa (nat_lit 12)) (.int 2 g0') (.int 0 g1') (.int 1 g2') (.int 0 g3') (.int 0 g4') (.int 0 g5') (.int 1 h5) rd), ((qa (nat_lit 17)), lsO [.ref r0, .ref r1, .ref r2] n), ((qa (nat_lit 16)), lsO [.ref s0, .ref s1, .ref s2] no), ((qa (nat_lit 22)), lsO [.bool b0, .bool b1] m1), ((qa (nat_lit 23)), lsO [.bool b2, .bool b3] m2)] Nw := by
  show Goes _ _ _ _ _ (nn + 1 + 1 + 1 + 1 + 1) _ _ _
  have hlen := C.len (List.cons_ne_nil _ _)
  simp only [List.length_cons] at hlen
  refine Goes.p179 Y C (fun H a b => Facts.pk [false, false, false, false, false, false, false, true, true, true, true] (hf H a b)) fun u0 u1 u2 u3 n1 C => ?_
  rw [wz2, wz1]
  refine Goes.opr Y C ok60 B'.a60 keep641 oT60 (fun _ _ r => r (fun x _ => ads x = _) fun _ _ _ _ _ _ => rfl) hf ?_
  intro Ω9 N9 r9; apply r9; clear r9 Ω9 N9; intro t5 rA t1 t2 n2 n3 C
  rw [wz5]
  refine ⟨_, List.Sublist.refl _, ?_⟩
  have h1 : (-2147483648 : Int) ≤ (wrapZ (x1 + (0 - (x1 - x2)))) := wz_lo
  have h2 : (wrapZ (x1 + (0 - (x1 - x2)))) < 2147483648 := wz_hi
  have hxm : ∀ Y, IntMulOk Y ((wrapZ (x1 + (0 - (x1 - x2)))) - x0) := fun _ => .of_right (intBits_le_64 (by (k_extra "o")) (by (k_extra "o")))
  refine Goes.opr Y C ok57 B'.a57 keep648 (oT57 (w0 := w0) (w1 := w1) (w2 := w2) (xm := hxm _)) (fun _ _ r => r (fun x _ => ads x = _) fun _ _ _ _ _ _ => rfl) (fun H a b => (Facts.set (b _ (.head _)) 2 (hf H a (fun p hp => b p (.tail _ hp))))) ?_
  clear h1 h2
  intro Ω9 N9 r9; apply r9; clear r9 Ω9 N9; intro t6 rB t7 t8 n4 n5 C
  rw [wz5]
  refine ⟨_, List.Sublist.refl _, ?_⟩
  refine Goes.opr Y C ok70 B'.a70 keep445 oT70 (fun _ _ r => r (fun x _ => ads x = _) fun _ _ => rfl) (fun H a b => (Facts.set (b _ (.head _)) 3 (Facts.set (b _ (.tail _ (.head _))) 2 (hf H a (fun p hp => b p (.tail _ (.tail _ hp))))))) ?_
  intro Ω9 N9 r9; apply r9; clear r9 Ω9 N9; intro t9 n6 C
  refine ⟨_, List.Sublist.refl _, ?_⟩
  refine Goes.opr Y C ok72 B'.a72 keep452 oT72 (fun _ _ r => r (fun x _ => ads x = _) fun _ _ _ _ _ _ => rfl) (fun H a b => (Facts.set (b _ (.head _)) 3 (Facts.set (b _ (.tail _ (.head _))) 2 (hf H a (fun p hp => b p (.tail _ (.tail _ hp))))))) ?_
  intro Ω9 N9 r9; apply r9; clear r9 Ω9 N9; intro rC t10 t11 n7 n8 n9 C
  rw [wz5]
  refine ⟨_, ?_, next _ rA rC t1 t2 t10 t11 _ _ _ _ C (by (k_extra "o"))⟩
  exact .cons_cons _ (.cons _ (.cons_cons _ (List.nil_sublist _)))
end
section
noncomputable def tnZ (x0 y0 y1 : Int) : Nat → Int → Int → Int → Int × Int
  | 0, x1, x2, _ => (x1, x2)
  | n + 1, x1, x2, y2 =>
    let a := wrapZ (x1 + (0 - (x1 - x2)))
    let b := wrapZ (x2 + (muldivZ (y2 - y0) (a - x0) (y1 - y0) - (x2 - x0)))
    let e := wrapZ (b + (wrapZ b - b))
    tnZ x0 y0 y1 n a e e
noncomputable def tnB : Nat → List Int
  | 0 => []
  | n + 1 => 179 :: 2 :: 2 :: 2 :: 1 :: 60 :: 57 :: 70 :: 72 :: tnB n
theorem go_turns {c : MC} (Y : Sys w c ks oo kvs) (B' : Tbl kvs) (w0 : y1 - y0 ≠ 0) (w1 : -(2 ^ 28) ≤ y1 - y0) (w2 : y1 - y0 < 2 ^ 28) (k0 : -4294967296 ≤ x0) (k1 : x0 ≤ 4294967296) : ∀ (M : Nat) {i xa xb : Int} {rA rB : Addr} {t1 t2 t3 t4 g9 g0' g1' g2' g3' g4' g5' : Tok} {na nb n9 : Nat} {b1 b3 : Bool} {m1 m2 : Nat}, Cds ks i (tnB M) → i ≤ ks.length → tnZ x0 y0 y1 M xa xb xb = (V1, V2) →
    Goes w c ks.length (.obj c.od oo :: .tup r0 [.int x0 p0x, .int 5 p0y] :: .tup r1 [.int x1 p1x, .int 5 p1y] :: .tup r2 [.int x2 p2x, .int 5 p2y] :: .tup s0 [.int y0 o0x, .int 5 o0y] :: .tup s1 [.int y1 o1x, .int 5 o1y] :: .tup s2 [.int y2 o2x, .int 5 o2y] :: fctT w c.W qa qt qk qv qi qn qb) (fun Ω Nw => ∀ K : Objs → Objs → Prop, (∀ bb1 bb3 mm1 mm2 rA rB t1 t2 t3 t4 na nb n9 g9 g0' g1' g2' g3' g4' g5', K [((qa (nat_lit 8)), lsO [] n9), ((qa (nat_lit 9)), gsD w gt gk (qa (nat_lit 10)) (qa (nat_lit 11)) (qa (nat_lit 12)) (.int 2 g0') (.int 0 g1') (.int 1 g2') (.int 0 g3') (.int 0 g4') (.int 0 g5') (.int 1 g9) rd), ((qa (nat_lit 17)), lsO [.ref r0, .ref rA, .ref rB] na), ((qa (nat_lit 16)), lsO [.ref s0, .ref s1, .ref rB] nb), ((qa (nat_lit 22)), lsO [.bool true, .bool bb1] mm1), ((qa (nat_lit 23)), lsO [.bool true, .bool bb3] mm2)] [(rB, tupO [.int V2 t3, .int 5 t4]), (rA, tupO [.int V1 t1, .int 5 t2])]) → K Ω Nw) (5 * M) i [((qa (nat_lit 8)), lsO [] n9), ((qa (nat_lit 9)), gsD w gt gk (qa (nat_lit 10)) (qa (nat_lit 11)) (qa (nat_lit 12)) (.int 2 g0') (.int 0 g1') (.int 1 g2') (.int 0 g3') (.int 0 g4') (.int 0 g5') (.int 1 g9) rd), ((qa (nat_lit 17)), lsO [.ref r0, .ref rA, .ref rB] na), ((qa (nat_lit 16)), lsO [.ref s0, .ref s1, .ref rB] nb), ((qa (nat_lit 22)), lsO [.bool true, .bool b1] m1), ((qa (nat_lit 23)), lsO [.bool true, .bool b3] m2)] [(rB, tupO [.int xb t3, .int 5 t4]), (rA, tupO [.int xa t1, .int 5 t2])]  := by
  intro M
  induction M with
  | zero =>
    intro i xa xb rA rB t1 t2 t3 t4 g9 g0' g1' g2' g3' g4' g5' na nb n9 b1 b3 m1 m2 C hi hV
    cases hV
    exact ⟨C.fin hi, fun K k => k ..⟩
  | succ M ih =>
    intro i xa xb rA rB t1 t2 t3 t4 g9 g0' g1' g2' g3' g4' g5' na nb n9 b1 b3 m1 m2 C hi hV
    rw [show 5 * (M + 1) = 5 * M + 5 from rfl]
    refine go_turn Y B' w0 w1 w2 k0 k1 C (fun H a b => Facts.set (b _ (.head _)) 6 (Facts.set (b _ (.head _)) 3 (Facts.set (b _ (.tail _ (.head _))) 2 a))) ?_
    intro i' rA rB t1 t2 t3 t4 na nb n9 g9 C' hi'
    exact ih C' hi' hV
theorem go_first {c : MC} {M : Nat} (Y : Sys w c ks oo kvs) (eks : ks = 176 :: 0 :: 22 :: 176 :: 2 :: 16 :: 176 :: 0 :: 17 :: 176 :: 1 :: 18 :: tnB (M + 1)) (B' : Tbl kvs) (w0 : y1 - y0 ≠ 0) (w1 : -(2 ^ 28) ≤ y1 - y0) (w2 : y1 - y0 < 2 ^ 28) (k0 : -4294967296 ≤ x0) (k1 : x0 ≤ 4294967296) (hV : tnZ x0 y0 y1 (M + 1) x1 x2 y2 = (V1, V2)) :
    Goes w c ks.length (.obj c.od oo :: .tup r0 [.int x0 p0x, .int 5 p0y] :: .tup r1 [.int x1 p1x, .int 5 p1y] :: .tup r2 [.int x2 p2x, .int 5 p2y] :: .tup s0 [.int y0 o0x, .int 5 o0y] :: .tup s1 [.int y1 o1x, .int 5 o1y] :: .tup s2 [.int y2 o2x, .int 5 o2y] :: fctT w c.W qa qt qk qv qi qn qb) (fun Ω Nw => ∀ K : Objs → Objs → Prop, (∀ bb1 bb3 mm1 mm2 rA rB t1 t2 t3 t4 na nb n9 g9 g0' g1' g2' g3' g4' g5', K [((qa (nat_lit 8)), lsO [] n9), ((qa (nat_lit 9)), gsD w gt gk (qa (nat_lit 10)) (qa (nat_lit 11)) (qa (nat_lit 12)) (.int 2 g0') (.int 0 g1') (.int 1 g2') (.int 0 g3') (.int 0 g4') (.int 0 g5') (.int 1 g9) rd), ((qa (nat_lit 17)), lsO [.ref r0, .ref rA, .ref rB] na), ((qa (nat_lit 16)), lsO [.ref s0, .ref s1, .ref rB] nb), ((qa (nat_lit 22)), lsO [.bool true, .bool bb1] mm1), ((qa (nat_lit 23)), lsO [.bool true, .bool bb3] mm2)] [(rB, tupO [.int V2 t3, .int 5 t4]), (rA, tupO [.int V1 t1, .int 5 t2])]) → K Ω Nw) (8 + 5 * (M + 1)) 0 [((qa (nat_lit 8)), lsO [] n0), ((qa (nat_lit 9)), gsD w gt gk (qa (nat_lit 10)) (qa (nat_lit 11)) (qa (nat_lit 12)) rp0 rp1 rp2 zp0 zp1 zp2 (.int 1 h5) rd), ((qa (nat_lit 17)), lsO [.ref r0, .ref r1, .ref r2] n), ((qa (nat_lit 16)), lsO [.ref s0, .ref s1, .ref s2] no), ((qa (nat_lit 22)), lsO [.bool b0, .bool b1] m1), ((qa (nat_lit 23)), lsO [.bool b2, .bool b3] m2)] [] := by
  rw [show 8 + 5 * (M + 1) = (5 * M + 5) + 1 + 1 + 1 + 1 + 1 + 1 + 1 + 1 from by (k_extra "o")]
  refine Goes.p176a Y (C := ⟨by decide, eks⟩) (fun _ h _ => Facts.pk [false, false, false, false, false, false, false, true, true, true, true] h) fun u n1 C => ?_
  rw [wz0]
  refine Goes.opr Y C ok22 B'.a22 keep1036 oT22 (fun _ _ r => r (fun x _ => ads x = _) fun _ => rfl) (fun _ h _ => h) ?_
  intro Ω9 N9 r9; apply r9; clear r9 Ω9 N9; intro n2 C
  refine ⟨[], List.Sublist.refl _, ?_⟩
  refine Goes.p176a Y C (fun _ h _ => Facts.pk [false, false, false, false, false, false, false, true, true, true, true] h) fun u n1 C => ?_
  rw [wz2]
  refine Goes.opr Y C ok16 B'.a16 keep1029 oT16 (fun _ _ r => r (fun x _ => ads x = _) fun _ => rfl) (fun _ h _ => h) ?_
  intro Ω9 N9 r9; apply r9; clear r9 Ω9 N9; intro n2 C
  refine ⟨[], List.Sublist.refl _, ?_⟩
  refine Goes.p176a Y C (fun _ h _ => Facts.pk [false, false, false, false, false, false, false, true, true, true, true] h) fun u n1 C => ?_
  rw [wz0]
  refine Goes.opr Y C ok17 B'.a17 keep1029 oT17 (fun _ _ r => r (fun x _ => ads x = _) fun _ => rfl) (fun _ h _ => h) ?_
  intro Ω9 N9 r9; apply r9; clear r9 Ω9 N9; intro n2 C
  refine ⟨[], List.Sublist.refl _, ?_⟩
  refine Goes.p176a Y C (fun _ h _ => Facts.pk [false, false, false, false, false, false, false, true, true, true, true] h) fun u n1 C => ?_
  rw [wz1]
  refine Goes.opr Y C ok18 B'.a18 keep1029 oT18 (fun _ _ r => r (fun x _ => ads x = _) fun _ => rfl) (fun _ h _ => h) ?_
  intro Ω9 N9 r9; apply r9; clear r9 Ω9 N9; intro n2 C
  refine ⟨[], List.Sublist.refl _, ?_⟩
  refine go_turn Y B' w0 w1 w2 k0 k1 C (fun _ h _ => h) ?_
  intro i' rA rB t1 t2 t3 t4 na nb n9 g9 C' hi'
  exact go_turns Y B' w0 w1 w2 k0 k1 M C' hi' hV
end
section
theorem go_second {c : MC} (Y : Sys w c [176, 0, 22, 176, 2, 70, 46] oo kvs) (B' : Tbl kvs) (gIx : IxR [.ref r0, .ref r1, .ref r2] (wrapZ x2) ri) (gTx : IxT [.ref (qa (nat_lit 20)), .ref (qa (nat_lit 21)), .ref (qa (nat_lit 22))] (wrapZ x2) ai) (j0 : 0 ≤ wrapZ x2) (j1 : wrapZ x2 < 3) :
    Goes w c 7 (.obj c.od oo :: .tup r2 [.int x2 p2x, .int 5 p2y] :: .tup ri [.int x tx, .int y ty] :: fctU w c.W qa qt qk qv qi qn qb) (fun Ω Nw => ∀ K : Objs → Objs → Prop, (∀ r t1 t2 n' n2 u t, K [((qa (nat_lit 8)), lsO [] n2), ((qa (nat_lit 9)), gsD w gt gk (qa (nat_lit 10)) (qa (nat_lit 11)) d (.int (wrapZ x2) u) (.int (wrapZ x2) u) rp2 (.int 0 t) (.int 0 t) (.int 0 t) lp rd), ((qa (nat_lit 16)), lsO ([.ref r0, .ref r1, .ref r2].set (wrapZ x2).toNat (.ref r)) n'), (ai, lsO [.bool true, .bool b1] m2)] [(r, tupO [.int (wrapZ (x + 0)) t1, .int (wrapZ y) t2])]) → K Ω Nw) 5 0 [((qa (nat_lit 8)), lsO [] n0), ((qa (nat_lit 9)), gsD w gt gk (qa (nat_lit 10)) (qa (nat_lit 11)) d rp0 rp1 rp2 zp0 zp1 zp2 lp rd), ((qa (nat_lit 16)), lsO [.ref r0, .ref r1, .ref r2] n), (ai, lsO [.bool b0, .bool b1] m2)] [] := by
  refine Goes.p176a Y (C := ⟨by decide, rfl⟩) (fun _ h _ => Facts.pk [false, false, false, true, true, true, true] h) fun u n1 C => ?_
  rw [wz0]
  refine Goes.opr Y C ok22 B'.a22 keep1036 oU22 (fun _ _ r => r (fun x _ => ads x = _) fun _ => rfl) (fun _ h _ => h) ?_
  intro Ω9 N9 r9; apply r9; clear r9 Ω9 N9; intro n2 C
  refine ⟨[], List.Sublist.refl _, ?_⟩
  refine Goes.p176a Y C (fun _ h _ => Facts.pk [false, false, false, true, true, true, true] h) fun u n1 C => ?_
  rw [wz2]
  refine Goes.opr Y C ok70 B'.a70 keep445 oU70 (fun _ _ r => r (fun x _ => ads x = _) fun _ _ => rfl) (fun _ h _ => h) ?_
  intro Ω9 N9 r9; apply r9; clear r9 Ω9 N9; intro t n3 C
  refine ⟨[], List.Sublist.refl _, ?_⟩
  refine Goes.opr Y C ok46 B'.a46 keep592 (oU46 (gIx := gIx) (gTx := gTx) (i0 := j0) (i1 := j1)) (fun _ _ r => r (fun x _ => ads x = _) fun _ _ _ _ _ => rfl) (fun _ h _ => h) ?_
  intro Ω9 N9 r9; apply r9; clear r9 Ω9 N9; intro r t1 t2 n4 n5 C
  exact ⟨_, List.Sublist.refl _, C.fin (by decide), fun K k => k ..⟩
end
section
noncomputable def tk0 (a b c d e f g h i j k l m n o p q r : Tok) : Nat → Tok
  | 0 => a
  | 1 => b
  | 2 => c
  | 3 => d
  | 4 => e
  | 5 => f
  | 6 => g
  | 7 => h
  | 8 => i
  | 9 => j
  | 10 => k
  | 11 => l
  | 12 => m
  | 13 => n
  | 14 => o
  | 15 => p
  | 16 => q
  | _ => r
theorem placeI_ct {x : Addr} {b : Array UInt8} (hd : dp + 1 < recursionLimit) (hu : un + 74 < cLine) (P : Pre w hH [(dx, dictOf [] 0)] [.obj x (instObj 173 dx)])
    (hr : ∀ h' tk' pt cl ti, Post hH h' [(dx, dictOf [] 0)] [(dx, plD w pt b tb (.int 0 ti) cl tmc)] [(cl, lsO [] 0)] → R (.ok (.ret .none)) ⟨h', gG, dD, tk', oO⟩) : codeAny (model PR w) (AA dp un fr gd) (.call (.ref 142) ⟨[.ref x, .bytes b tb, .int 32 tmc], []⟩) R ⟨hH, gG, dD, tT, oO⟩ := by
  (k_dflt (refine' enter (binds := [(Str.ofString "self", .ref x), (Str.ofString "code", .bytes b tb), (Str.ofString "most_calls", .int 32 tmc)]) ?k1 ?k6 ?k7 ?k8 ?k9 ?kB ?_ ?c2 ?c3 ?c4 ?c5)); k_extra "ENT"; k_extra "d261"; k_extra "d289"
  k_extra "z"
  all_goals first | exact hr _ _ (tk0 _ _ _ _ 0 0 0 0 0 0 0 0 0 0 0 0 0 0) _ _ (by first | (k_extra "P0") | (k_extra "P1")) | k_extra "ABS"
theorem machineI_ct {w : World} {dp un : Nat} {fr : Option (List Env)} {gd : Option (List Code)} {hH : Heap} {gG : Array GenState} {dD : Drawn} {tT : Nat} {oO : OsState} {R : Result → Shared → Prop} {x dx : Addr} {b : Array UInt8} {tb tmc : Tok} {W od fn : Addr} (hd : dp + 3 < recursionLimit) (hu : un + 82 < cLine) (P : Pre w hH [(dx, dictOf [] 0)] [.obj x (instObj 279 dx)])
    (hr : ∀ h' tk' mt pt tms tmc pl pld cl ti ts, Post hH h' [(dx, dictOf [] 0)] [(dx, mcD w mt tms pl W od fn (.int 0 ts))] [(cl, lsO [] 0), (pl, instObj 173 pld), (pld, plD w pt b tb (.int 0 ti) cl tmc)] → R (.ok (.ret .none)) ⟨h', gG, dD, tk', oO⟩) : codeAny (model PR w) (AA dp un fr gd) (.call (.ref 241) ⟨[.ref x, .bytes b tb, .ref W, .ref od, .ref fn], []⟩) R ⟨hH, gG, dD, tT, oO⟩ := by
  (k_dflt (refine' enter (binds := [(Str.ofString "self", .ref x), (Str.ofString "program", .bytes b tb), (Str.ofString "work", .ref W), (Str.ofString "ops", .ref od), (Str.ofString "functions", .ref fn), (Str.ofString "most_steps", .int 10000 542)]) ?k1 ?k6 ?k7 ?k8 ?k9 ?kB ?_ ?c2 ?c3 ?c4 ?c5)); k_extra "ENT"; k_extra "d261"; k_extra "d289"
  k_extra "z45"
  all_goals first | exact hr _ _ (tk0 _ _ _ _ _ _ 0 0 0 0 0 0 0 0 0 0 0 0) (tk0 _ _ _ _ 0 0 0 0 0 0 0 0 0 0 0 0 0 0) _ _ _ _ _ _ _ (by first | (k_extra "P0") | (k_extra "P1")) | k_extra "ABS"
end
section
noncomputable abbrev fnD (w : World) (ft : Nat → Tok) (f1 f2 : Addr) : Obj := dictOf [en w "functions" (ft 0) (.ref f1), en w "instructions" (ft 1) (.ref f2)] 2
theorem funcsI_ct {x : Addr} (hd : dp + 1 < recursionLimit) (hu : un + 74 < cLine) (P : Pre w hH [(dx, dictOf [] 0)] [.obj x (instObj 103 dx)])
    (hr : ∀ h' tk' ft f1 f2, Post hH h' [(dx, dictOf [] 0)] [(dx, fnD w ft f1 f2)] [] → R (.ok (.ret .none)) ⟨h', gG, dD, tk', oO⟩) : codeAny (model PR w) (AA dp un fr gd) (.call (.ref 93) ⟨[.ref x], []⟩) R ⟨hH, gG, dD, tT, oO⟩ := by
  k_extra "d143"; k_extra "ENT"; k_extra "d261"; k_extra "d289"
  k_extra "z"
  all_goals first | exact hr _ _ (tk0 _ _ 0 0 0 0 0 0 0 0 0 0 0 0 0 0 0 0) _ _ (by first | (k_extra "P0") | (k_extra "P1")) | k_extra "ABS"
theorem roundI_ct {x : Addr} (hd : dp + 1 < recursionLimit) (hu : un + 74 < cLine) (P : Pre w hH [(dx, dictOf [] 0)] [.obj x (instObj 532 dx)])
    (hr : ∀ h' tk' rt, Post hH h' [(dx, dictOf [] 0)] [(dx, rdD w rt)] [] → R (.ok (.ret .none)) ⟨h', gG, dD, tk', oO⟩) : codeAny (model PR w) (AA dp un fr gd) (.call (.ref 522) ⟨[.ref x, .int 64 ta, .int 0 tb, .int 32 tc], []⟩) R ⟨hH, gG, dD, tT, oO⟩ := by
  (k_dflt (refine' enter (binds := [(Str.ofString "self", .ref x), (Str.ofString "period", .int 64 ta), (Str.ofString "phase", .int 0 tb), (Str.ofString "threshold", .int 32 tc)]) ?k1 ?k6 ?k7 ?k8 ?k9 ?kB ?_ ?c2 ?c3 ?c4 ?c5)); k_extra "ENT"; k_extra "d261"; k_extra "d289"
  k_extra "z"
  all_goals first | exact hr _ _ (tk0 _ _ _ _ _ _ 0 0 0 0 0 0 0 0 0 0 0 0) (by first | (k_extra "P0") | (k_extra "P1")) | k_extra "ABS"
theorem stackI_ct {x : Addr} (hd : dp + 1 < recursionLimit) (hu : un + 74 < cLine) (P : Pre w hH [(dx, dictOf [] 0)] [.obj x (instObj 1193 dx)])
    (hr : ∀ h' tk' ts l, Post hH h' [(dx, dictOf [] 0)] [(dx, stkD w ts tm l)] [(l, lsO [] 0)] → R (.ok (.ret .none)) ⟨h', gG, dD, tk', oO⟩) : codeAny (model PR w) (AA dp un fr gd) (.call (.ref 1148) ⟨[.ref x, .int 64 tm], []⟩) R ⟨hH, gG, dD, tT, oO⟩ := by
  (k_dflt (refine' enter (binds := [(Str.ofString "self", .ref x), (Str.ofString "most", .int 64 tm)]) ?k1 ?k6 ?k7 ?k8 ?k9 ?kB ?_ ?c2 ?c3 ?c4 ?c5)); k_extra "ENT"; k_extra "d261"; k_extra "d289"
  k_extra "z"
  all_goals first | exact hr _ _ (tk0 _ _ 0 0 0 0 0 0 0 0 0 0 0 0 0 0 0 0) _ (by first | (k_extra "P0") | (k_extra "P1")) | k_extra "ABS"
theorem named_ct {tw : Tok} (hd : dp + 3 < recursionLimit) (hu : un + 82 < cLine) (P : Pre w hH [] [])
    (hr : ∀ h' tk' rd rdd rt, Post hH h' [] [] [(rd, instObj 532 rdd), (rdd, rdD w rt)] → R (.ok (.ret (.ref rd))) ⟨h', gG, dD, tk', oO⟩) : codeAny (model PR w) (AA dp un fr gd) (.call (.ref 543) ⟨[.str (Str.ofString "grid") tw], []⟩) R ⟨hH, gG, dD, tT, oO⟩ := by
  (k_dflt (refine' enter (binds := [(Str.ofString "word", .str (Str.ofString "grid") tw)]) ?k1 ?k6 ?k7 ?k8 ?k9 ?kB ?_ ?c2 ?c3 ?c4 ?c5)); k_extra "ENT"; k_extra "d261"; (clear hT)
  k_extra "z46"
  all_goals first | (apply hr; k_extra "P0") | (apply hr; k_extra "P1") | k_extra "ABS"
end
section
theorem stateI_ct {x : Addr} (hd : dp + 4 < recursionLimit) (hu : un + 86 < cLine) (P : Pre w hH [(dx, dictOf [] 0)] [.obj x (instObj 1130 dx)])
    (hr : ∀ h' tk' gt gk rt f p d rd rdd h0 h1 h2 h3 h4 h5 h6 d0 d1 p0 p1 f0 f1, Post hH h' [(dx, dictOf [] 0)] [(dx, gsD w gt gk f p d (.int 0 h0) (.int 0 h1) (.int 0 h2) (.int 1 h3) (.int 1 h4) (.int 1 h5) (.int 1 h6) rd)] [(rd, instObj 532 rdd), (rdd, rdD w rt), (d, tupO [.int 16384 d0, .int 0 d1]), (p, tupO [.int 16384 p0, .int 0 p1]), (f, tupO [.int 16384 f0, .int 0 f1])] → R (.ok (.ret .none)) ⟨h', gG, dD, tk', oO⟩) : codeAny (model PR w) (AA dp un fr gd) (.call (.ref 1099) ⟨[.ref x], []⟩) R ⟨hH, gG, dD, tT, oO⟩ := by
  k_extra "d143"; k_extra "ENT"; k_extra "d261"; k_extra "d289"
  k_extra "z47"
  all_goals first | exact hr _ _ (tk0 _ _ _ _ _ _ _ _ _ _ _ _ _ _ _ _ _ _) (tk0 _ _ _ _ _ _ 0 0 0 0 0 0 0 0 0 0 0 0) _ _ _ _ _ _ _ _ _ _ _ _ _ _ _ _ _ _ _ (by first | (k_extra "P0") | (k_extra "P1")) | k_extra "ABS"
end
section
theorem workDI_ct {x : Addr} (hd : dp + 6 < recursionLimit) (hu : un + 94 < cLine) (P : Pre w hH [(dx, dictOf [] 0)] [.obj x (instObj 1244 dx)])
    (hr : ∀ h' tk' wt wn ts gt gk rt S k kd l Sd f p d rd rdd sg h0 h1 h2 h3 h4 h5 h6 d0 d1 p0 p1 f0 f1 tm, Post hH h' [(dx, dictOf [] 0)] [(dx, wkD w wt wn S k zs cv sg  (nat_lit 1205))] [(l, lsO [] 0), (k, instObj 1193 kd), (kd, stkD w ts tm l), (rd, instObj 532 rdd), (rdd, rdD w rt), (d, tupO [.int 16384 d0, .int 0 d1]), (p, tupO [.int 16384 p0, .int 0 p1]), (f, tupO [.int 16384 f0, .int 0 f1]), (S, instObj 1130 Sd), (Sd, gsD w gt gk f p d (.int 0 h0) (.int 0 h1) (.int 0 h2) (.int 1 h3) (.int 1 h4) (.int 1 h5) (.int 1 h6) rd)] → R (.ok (.ret .none)) ⟨h', gG, dD, tk', oO⟩) : codeAny (model PR w) (AA dp un fr gd) (.call (.ref 1213) ⟨[.ref x, .ref zs, .ref cv], []⟩) R ⟨hH, gG, dD, tT, oO⟩ := by
  (k_dflt (refine' enter (binds := [(Str.ofString "self", .ref x), (Str.ofString "zones", .ref zs), (Str.ofString "cvt", .ref cv), (Str.ofString "stack_most", .int 64 1978), (Str.ofString "ppem", .int 12 1979), (Str.ofString "point_size", .int 768 1980), (Str.ofString "scale", .ref 1205)]) ?k1 ?k6 ?k7 ?k8 ?k9 ?kB ?_ ?c2 ?c3 ?c4 ?c5)); k_extra "ENT"; k_extra "d261"; k_extra "d289"
  k_extra "z48"
  all_goals first | exact hr _ _ (tk0 _ _ _ _ _ _ _ _ 0 0 0 0 0 0 0 0 0 0) (tk0 _ _ 0 0 0 0 0 0 0 0 0 0 0 0 0 0 0 0) (tk0 _ _ 0 0 0 0 0 0 0 0 0 0 0 0 0 0 0 0) (tk0 _ _ _ _ _ _ _ _ _ _ _ _ _ _ _ _ _ _) (tk0 _ _ _ _ _ _ 0 0 0 0 0 0 0 0 0 0 0 0) _ _ _ _ _ _ _ _ _ _ _ _ _ _ _ _ _ _ _ _ _ _ _ _ _ _ (by first | (k_extra "P0") | (k_extra "P1")) | k_extra "ABS"
theorem workSI_ct {x : Addr} (hd : dp + 6 < recursionLimit) (hu : un + 94 < cLine) (P : Pre w hH [(dx, dictOf [] 0)] [.obj x (instObj 1244 dx)])
    (hr : ∀ h' tk' wt wn ts gt gk rt S k kd l Sd f p d rd rdd sg h0 h1 h2 h3 h4 h5 h6 d0 d1 p0 p1 f0 f1 tm, Post hH h' [(dx, dictOf [] 0)] [(dx, wkD w wt wn S k zs cv sg sc)] [(l, lsO [] 0), (k, instObj 1193 kd), (kd, stkD w ts tm l), (rd, instObj 532 rdd), (rdd, rdD w rt), (d, tupO [.int 16384 d0, .int 0 d1]), (p, tupO [.int 16384 p0, .int 0 p1]), (f, tupO [.int 16384 f0, .int 0 f1]), (S, instObj 1130 Sd), (Sd, gsD w gt gk f p d (.int 0 h0) (.int 0 h1) (.int 0 h2) (.int 1 h3) (.int 1 h4) (.int 1 h5) (.int 1 h6) rd)] → R (.ok (.ret .none)) ⟨h', gG, dD, tk', oO⟩) : codeAny (model PR w) (AA dp un fr gd) (.call (.ref 1213) ⟨[.ref x, .ref zs, .ref cv], [(Str.ofString "scale", .ref sc)]⟩) R ⟨hH, gG, dD, tT, oO⟩ := by
  (k_dflt (refine' enter (binds := [(Str.ofString "self", .ref x), (Str.ofString "zones", .ref zs), (Str.ofString "cvt", .ref cv), (Str.ofString "stack_most", .int 64 1978), (Str.ofString "ppem", .int 12 1979), (Str.ofString "point_size", .int 768 1980), (Str.ofString "scale", .ref sc)]) ?k1 ?k6 ?k7 ?k8 ?k9 ?kB ?_ ?c2 ?c3 ?c4 ?c5)); k_extra "ENT"; k_extra "d261"; k_extra "d289"
  k_extra "z48"
  all_goals first | exact hr _ _ (tk0 _ _ _ _ _ _ _ _ 0 0 0 0 0 0 0 0 0 0) (tk0 _ _ 0 0 0 0 0 0 0 0 0 0 0 0 0 0 0 0) (tk0 _ _ 0 0 0 0 0 0 0 0 0 0 0 0 0 0 0 0) (tk0 _ _ _ _ _ _ _ _ _ _ _ _ _ _ _ _ _ _) (tk0 _ _ _ _ _ _ 0 0 0 0 0 0 0 0 0 0 0 0) _ _ _ _ _ _ _ _ _ _ _ _ _ _ _ _ _ _ _ _ _ _ _ _ _ _ (by first | (k_extra "P0") | (k_extra "P1")) | k_extra "ABS"
end
section
theorem isl {g : Heap} {a : Addr} {l : List Value} {n : Nat} (h : g.get? a = some (lsO l n)) : g.IsList a l.toArray := ⟨_, h, rfl, _, rfl⟩
structure Hint (p : Addr × Obj) : Prop where
  t : True
theorem Hint.of {g h : Heap} {L : Addr} {N : Objs} {p : Addr × Obj} (Nw : News g L h N) (hp : p ∈ N) : Hint p := ⟨trivial⟩
theorem count0_ct {w : World} {dp un : Nat} {fr : Option (List Env)} {gd : Option (List Code)} {hH : Heap} {gG : Array GenState} {dD : Drawn} {tT : Nat} {oO : OsState} {R : Result → Shared → Prop} {z zd o c th e b : Addr} {zt : Nat → Tok} {n : Nat} (hd : dp + 1 < recursionLimit) (hu : un + 74 < cLine) (P : Pre w hH [(c, lsO [] n), (zd, znD w zt o c th e b)] [.obj z (instObj 1300 zd)]) (gz : Hint (zd, znD w zt o c th e b))
    (hr : ∀ h' tk' t, Post hH h' [(c, lsO [] n), (zd, znD w zt o c th e b)] [(c, lsO [] n), (zd, znD w zt o c th e b)] [] → R (.ok (.ret (.int 0 t))) ⟨h', gG, dD, tk', oO⟩) : codeAny (model PR w) (AA dp un fr gd) (.call (.ref 1276) ⟨[.ref z], []⟩) R ⟨hH, gG, dD, tT, oO⟩ := by
  k_extra "d144"; k_extra "ENT"; k_extra "d261"; k_extra "d289"
  k_extra "z"
  all_goals first | (apply hr; k_extra "P0") | (apply hr; k_extra "P1") | k_extra "ABS"
theorem count3_ct {w : World} {dp un : Nat} {fr : Option (List Env)} {gd : Option (List Code)} {hH : Heap} {gG : Array GenState} {dD : Drawn} {tT : Nat} {oO : OsState} {R : Result → Shared → Prop} {z zd o c th e b : Addr} {zt : Nat → Tok}{r0 r1 r2 : Addr} {n : Nat} (hd : dp + 1 < recursionLimit) (hu : un + 74 < cLine) (P : Pre w hH [(c, lsO [.ref r0, .ref r1, .ref r2] n), (zd, znD w zt o c th e b)] [.obj z (instObj 1300 zd)]) (gz : Hint (zd, znD w zt o c th e b))
    (hr : ∀ h' tk' t, Post hH h' [(c, lsO [.ref r0, .ref r1, .ref r2] n), (zd, znD w zt o c th e b)] [(c, lsO [.ref r0, .ref r1, .ref r2] n), (zd, znD w zt o c th e b)] [] → R (.ok (.ret (.int 3 t))) ⟨h', gG, dD, tk', oO⟩) : codeAny (model PR w) (AA dp un fr gd) (.call (.ref 1276) ⟨[.ref z], []⟩) R ⟨hH, gG, dD, tT, oO⟩ := by
  k_extra "d144"; k_extra "ENT"; k_extra "d261"; k_extra "d289"
  k_extra "z"
  all_goals first | (apply hr; k_extra "P0") | (apply hr; k_extra "P1") | k_extra "ABS"
set_option maxHeartbeats 1500000 in
theorem zoneA_ct {w : World} {dp un : Nat} {fr : Option (List Env)} {gd : Option (List Code)} {hH : Heap} {gG : Array GenState} {dD : Drawn} {tT : Nat} {oO : OsState} {R : Result → Shared → Prop} {x dx : Addr} {pts q0 q1 q2 : Addr} {np : Nat} {x0 x1 x2 y0 y1 y2 : Int} {e0 e1 e2 g0' g1' g2' : Tok} (hd : dp + 5 < recursionLimit) (hu : un + 90 < cLine) (P : Pre w hH [(dx, dictOf [] 0)] [.obj x (instObj 1300 dx), .obj pts (lsO [.ref q0, .ref q1, .ref q2] np), .tup q0 [.int x0 e0, .int y0 g0'], .tup q1 [.int x1 e1, .int y1 g1'], .tup q2 [.int x2 e2, .int y2 g2']])
    (hr : ∀ h' tk' zt o c th e b a0 a1 a2 n1 n2 n3 n4 n5, Post hH h' [(dx, dictOf [] 0)] [(dx, znD w zt o c th e b)] [(b, lsO [.bool true, .bool true, .bool true] n5), (e, lsO [] n4), (th, lsO [.ref a0, .ref a1, .ref a2] n3), (a2, lsO [.bool false, .bool false] 0), (a1, lsO [.bool false, .bool false] 0), (a0, lsO [.bool false, .bool false] 0), (c, lsO [.ref q0, .ref q1, .ref q2] n2), (o, lsO [.ref q0, .ref q1, .ref q2] n1)] → R (.ok (.ret .none)) ⟨h', gG, dD, tk', oO⟩) : codeAny (model PR w) (AA dp un fr gd) (.call (.ref 1269) ⟨[.ref x, .ref pts], []⟩) R ⟨hH, gG, dD, tT, oO⟩ := by
  k_extra "d67"; k_extra "ENTC"; k_extra "d261"; k_extra "d279"
  have hI1 := isl hT1
  have ht9 : IsTup g0 (nat_lit 1263) (List.toArray []) := ⟨_, X' _ _ (by k_is), rfl, _, rfl⟩
  k_extra "z49"
  k_dflt k_extra "d107"
  intro g1
  k_dflt k_extra "d180"
  case rs => exact Or.inl (isl (by k_extra "w"))
  case rh =>
    intro v I oI C oC D ys m2 h9 tk9 E' Q hv hns hm F9 N9 hq
    obtain ⟨q9, l9, rfl, ht9⟩ : ∃ q9 l9, v = .ref q9 ∧ IsTup g0 q9 (List.toArray l9) := by
      simp only [List.mem_cons, List.not_mem_nil, or_false] at hv
      rcases hv with rfl | rfl | rfl <;> exact ⟨_, _, rfl, by assumption⟩
    k_extra "z"
    all_goals first | exact hq _ | k_extra "ABS"
  intro D9 h9 tk9 F9 N9 o9; replace N9 : News g0 L' h9 ((D9, lsO [.ref q0, .ref q1, .ref q2] 3) :: _) := N9; have nd9 := nd_off1 (o := lsO [] 0) o9 (by k_extra "d313"); k_extra "d119"; (try dsimp only)
  k_extra "z49"
  k_dflt k_extra "d112"
  intro g2
  k_dflt k_extra "d113"
  case rs2 => exact fun _ _ => srcAt_cons
  case rh2 => exact Or.inr ⟨_, by k_mem, rfl, _, rfl⟩
  case rn2 => k_extra "d313"
  case rf2 =>
    intro v C oC m2 h9 tk9 E' Q hv hns hm hC hq
    refine Evs.lst (es := [_, _]) (k := 0) (Evs.cons Ev.bool (Evs.cons Ev.bool Evs.nil rfl) rfl) (by first | exact Nat.le_of_ble_eq_true rfl | size_fits) ?_
    exact hq _ _ rfl rfl
  refine made3L ?_
  intro a0 a1 a2 hn9
  intro D9 h9 tk9 F9 N9 o9; replace N9 : News g0 L' h9 ((D9, lsO [.ref a0, .ref a1, .ref a2] 3) :: _) := N9; have nd9 := nd_off1 (o := lsO [] 0) o9 hn9; k_extra "d119"; (try dsimp only)
  k_extra "z50"
  trace "AT3"
  k_dflt k_extra "d110"
  intro g3
  k_dflt (refine LCt.CompRestT.zero ?_)
  intro D9 h9 tk9 F9 N9 o9; replace N9 : News g0 L' h9 ((D9, lsO [] 0) :: _) := N9; have ndz := nd_off1 (o := lsO [] 0) o9 (by k_extra "d313"); (try dsimp only [ads, List.map] at ndz); (try dsimp only)
  k_extra "z"
  all_goals exact hr _ _ (tk0 _ _ _ _ _ 0 0 0 0 0 0 0 0 0 0 0 0 0) _ _ _ _ _ _ _ _ _ _ _ _ _ (by k_extra "P1")
end
section
theorem nd_off3 {I C D : Addr} {oI oC oD : Obj} {nw : Objs} (o : LCg.Off3 I C D nw) (n : I ≠ C ∧ I ≠ D ∧ C ≠ D) (nd : (ads nw).Nodup) : (ads ((I, oI) :: (C, oC) :: (D, oD) :: nw)).Nodup := by
  have off := o.mem
  have f : ∀ a, (∀ p ∈ nw, p.1 ≠ a) → a ∉ ads nw := fun a h q => by obtain ⟨o', ho⟩ := mem_ads q; exact h _ ho rfl
  refine List.nodup_cons.mpr ⟨fun q => ?_, List.nodup_cons.mpr ⟨fun q => ?_, List.nodup_cons.mpr ⟨f D fun p hp => (off p hp).2.2, nd⟩⟩⟩
  · rcases List.mem_cons.mp q with q | q
    · exact n.1 q
    · rcases List.mem_cons.mp q with q | q
      · exact n.2.1 q
      · exact f I (fun p hp => (off p hp).1) q
  · rcases List.mem_cons.mp q with q | q
    · exact n.2.2 q
    · exact f C (fun p hp => (off p hp).2.1) q
theorem lfb {w : World} {A : Around} {E : Value → Shared → Prop} {g h : Heap} {L b : Addr} {m : Str → Option Value} {gs : Array GenState} {dr : Drawn} {tk : Nat} {os : OsState} {news : Objs} {l : List Value} {n : Nat} {Q : Value → Shared → Prop} (F : Fr g L h m) (N : News g L h news) (hl : g.get? b = some (lsO l n)) (hz : l.length ≤ 1000)
    (k : ∀ D c h', Fr g L h' m → News g L h' ((D, lsO l c) :: news) → (∀ q ∈ news, q.1 < D) → Q (.ref D) ⟨h', gs, dr, tk, os⟩) : wpAny (model PR w) A (call (.type "list") [.ref b]) Q E ⟨h, gs, dr, tk, os⟩ :=
  list_copyK (s := ⟨h, gs, dr, tk, os⟩) F N (Fr.lst' F hl) (fun D c h' F' N' l1 => k D c h' F' N' l1) (by rw [sizeLine_eq, List.size_toArray]; (k_extra "o"))
set_option maxHeartbeats 1500000 in
theorem zoneB_ct {w : World} {dp un : Nat} {fr : Option (List Env)} {gd : Option (List Code)} {hH : Heap} {gG : Array GenState} {dD : Drawn} {tT : Nat} {oO : OsState} {R : Result → Shared → Prop} {x dx : Addr} {pts q0 q1 q2 es : Addr} {np ne : Nat} {x0 x1 x2 y0 y1 y2 : Int} {e0 e1 e2 g0' g1' g2' te : Tok} (hd : dp + 5 < recursionLimit) (hu : un + 90 < cLine) (P : Pre w hH [(dx, dictOf [] 0)] [.obj x (instObj 1300 dx), .obj pts (lsO [.ref q0, .ref q1, .ref q2] np), .tup q0 [.int x0 e0, .int y0 g0'], .tup q1 [.int x1 e1, .int y1 g1'], .tup q2 [.int x2 e2, .int y2 g2'], .obj es (lsO [.int 2 te] ne)])
    (hr : ∀ h' tk' zt o c th e b a0 a1 a2 n1 n2 n3 n4 n5, Post hH h' [(dx, dictOf [] 0)] [(dx, znD w zt o c th e b)] [(b, lsO [.bool true, .bool true, .bool true] n5), (e, lsO [.int 2 te] n4), (th, lsO [.ref a0, .ref a1, .ref a2] n3), (a2, lsO [.bool false, .bool false] 0), (a1, lsO [.bool false, .bool false] 0), (a0, lsO [.bool false, .bool false] 0), (c, lsO [.ref q0, .ref q1, .ref q2] n2), (o, lsO [.ref q0, .ref q1, .ref q2] n1)] → R (.ok (.ret .none)) ⟨h', gG, dD, tk', oO⟩) : codeAny (model PR w) (AA dp un fr gd) (.call (.ref 1269) ⟨[.ref x, .ref pts, .ref es], []⟩) R ⟨hH, gG, dD, tT, oO⟩ := by
  (k_dflt (refine' enterC (binds := [(Str.ofString "self", .ref x), (Str.ofString "points", .ref pts), (Str.ofString "ends", .ref es), (Str.ofString "on_curve", .none)]) ?k1 ?k6 ?k7 ?k8 ?k9 ?kB ?kD ?_ ?c2 ?c3 ?c4)); k_extra "ENTC"; k_extra "d261"; k_extra "d278"
  have hI1 := isl hT1
  have ht9 : IsTup g0 (nat_lit 1263) (List.toArray []) := ⟨_, X' _ _ (by k_is), rfl, _, rfl⟩
  k_extra "z49"
  k_dflt k_extra "d107"
  intro g1
  k_dflt k_extra "d180"
  case rs => exact Or.inl (isl (by k_extra "w"))
  case rh =>
    intro v I oI C oC D ys m2 h9 tk9 E' Q hv hns hm F9 N9 hq
    obtain ⟨q9, l9, rfl, ht9⟩ : ∃ q9 l9, v = .ref q9 ∧ IsTup g0 q9 (List.toArray l9) := by
      simp only [List.mem_cons, List.not_mem_nil, or_false] at hv
      rcases hv with rfl | rfl | rfl <;> exact ⟨_, _, rfl, by assumption⟩
    k_extra "z"
    all_goals first | exact hq _ | k_extra "ABS"
  intro D9 h9 tk9 F9 N9 o9; replace N9 : News g0 L' h9 ((D9, lsO [.ref q0, .ref q1, .ref q2] 3) :: _) := N9; have nd9 := nd_off1 (o := lsO [] 0) o9 (by k_extra "d313"); k_extra "d119"; (try dsimp only)
  k_extra "z49"
  k_dflt k_extra "d112"
  intro g2
  k_dflt k_extra "d113"
  case rs2 => exact fun _ _ => srcAt_cons
  case rh2 => exact Or.inr ⟨_, by k_mem, rfl, _, rfl⟩
  case rn2 => k_extra "d313"
  case rf2 =>
    intro v C oC m2 h9 tk9 E' Q hv hns hm hC hq
    refine Evs.lst (es := [_, _]) (k := 0) (Evs.cons Ev.bool (Evs.cons Ev.bool Evs.nil rfl) rfl) (by first | exact Nat.le_of_ble_eq_true rfl | size_fits) ?_
    exact hq _ _ rfl rfl
  refine made3L ?_
  intro a0 a1 a2 hn9
  intro D9 h9 tk9 F9 N9 o9; replace N9 : News g0 L' h9 ((D9, lsO [.ref a0, .ref a1, .ref a2] 3) :: _) := N9; have nd9 := nd_off1 (o := lsO [] 0) o9 hn9; k_extra "d119"; (try dsimp only)
  k_extra "z51"
  trace "AT3"
  k_dflt k_extra "d110"
  intro g3
  k_dflt (refine LCt.CompRestT.succ ?_)
  intro v I oI C oC D m2 h9 tk9 E' hv hns hm F9 N9 off9 ne9
  obtain rfl : v = .int 2 te := by simpa using hv.symm
  have ndz := nd_off3 (oI := oI) (oC := oC) (oD := lsO [] 0) off9 ne9 (by k_extra "d313"); (try dsimp only [ads, List.map] at ndz)
  k_extra "z52"
  k_dflt (refine' LCg.CompEnd.intro ?cF ?cN _ (fun p hp => hp) off9 ?hS9 ?r9)
  case cF => k_extra "w"
  case cN => k_extra "w"
  case hS9 => exact Or.inr ⟨_, by k_mem, rfl, _, rfl⟩
  case r9 =>
    k_dflt (refine LCt.CompRestT.zero ?_)
    intro D7 h7 tk7 F7 N7 o7; replace N7 : News g0 L' h7 ((D7, lsO [] 0) :: _) := N7; have nd7 := nd_off1 (o := lsO [] 0) o7 (by k_extra "d313"); (try dsimp only [ads, List.map] at nd7); clear N9 F9; (try dsimp only)
    k_extra "z"
    all_goals exact hr _ _ (tk0 _ _ _ _ _ 0 0 0 0 0 0 0 0 0 0 0 0 0) _ _ _ _ _ _ _ _ _ _ _ _ _ (by k_extra "P1")
end
section
set_option maxHeartbeats 1500000 in
theorem zoneC_ct {w : World} {dp un : Nat} {fr : Option (List Env)} {gd : Option (List Code)} {hH : Heap} {gG : Array GenState} {dD : Drawn} {tT : Nat} {oO : OsState} {R : Result → Shared → Prop} {x dx : Addr} {pts : Addr} {np : Nat}   (hd : dp + 5 < recursionLimit) (hu : un + 90 < cLine) (P : Pre w hH [(dx, dictOf [] 0)] [.obj x (instObj 1300 dx), .obj pts (lsO [] np)])
    (hr : ∀ h' tk' zt o c th e b n1 n2 n3 n4 n5, Post hH h' [(dx, dictOf [] 0)] [(dx, znD w zt o c th e b)] [(b, lsO [] n5), (e, lsO [] n4), (th, lsO [] n3), (c, lsO [] n2), (o, lsO [] n1)] → R (.ok (.ret .none)) ⟨h', gG, dD, tk', oO⟩) : codeAny (model PR w) (AA dp un fr gd) (.call (.ref 1269) ⟨[.ref x, .ref pts], []⟩) R ⟨hH, gG, dD, tT, oO⟩ := by
  k_extra "d67"; k_extra "ENTC"; k_extra "d261"; k_extra "d288"
  have hI1 := isl hT1
  have ht9 : IsTup g0 (nat_lit 1263) (List.toArray []) := ⟨_, X' _ _ (by k_is), rfl, _, rfl⟩
  k_extra "z49"
  k_dflt k_extra "d107"
  intro g1
  k_dflt (refine' restK (its := []) (fun v => v) ?rs ?rh ?rf)
  case rs => exact Or.inl (isl (by k_extra "w"))
  case rh =>
    intro v I oI C oC D ys m2 h9 tk9 E' Q hv hns hm F9 N9 hq
    obtain ⟨q9, l9, rfl, ht9⟩ : ∃ q9 l9, v = .ref q9 ∧ IsTup g0 q9 (List.toArray l9) := by
      simp only [List.mem_cons, List.not_mem_nil, or_false] at hv
    k_extra "z"
    all_goals first | exact hq _ | k_extra "ABS"
  intro D9 h9 tk9 F9 N9 o9; replace N9 : News g0 L' h9 ((D9, lsO [] 0) :: _) := N9; have nd9 := nd_off1 (o := lsO [] 0) o9 (by k_extra "d313"); k_extra "d119"; (try dsimp only)
  k_extra "z49"
  k_dflt k_extra "d112"
  intro g2
  k_dflt (refine' restA (its := []) (fun _ o => o = lsO [.bool false, .bool false] 0) ?rs2 ?rh2 ?rn2 ?rf2 ?rg2)
  case rs2 => exact fun _ _ => srcAt_cons
  case rh2 => exact Or.inr ⟨_, by k_mem, rfl, _, rfl⟩
  case rn2 => k_extra "d313"
  case rf2 =>
    intro v C oC m2 h9 tk9 E' Q hv hns hm hC hq
    refine Evs.lst (es := [_, _]) (k := 0) (Evs.cons Ev.bool (Evs.cons Ev.bool Evs.nil rfl) rfl) (by first | exact Nat.le_of_ble_eq_true rfl | size_fits) ?_
    exact hq _ _ rfl rfl
  intro zs9 hz9 hP9 hn9
  obtain rfl := List.eq_nil_of_length_eq_zero hz9
  intro D9 h9 tk9 F9 N9 o9; replace N9 : News g0 L' h9 ((D9, lsO [] 0) :: _) := N9; have nd9 := nd_off1 (o := lsO [] 0) o9 hn9; k_extra "d119"; (try dsimp only)
  k_extra "z53"
  trace "AT3"
  k_dflt k_extra "d110"
  intro g3
  k_dflt (refine LCt.CompRestT.zero ?_)
  intro D9 h9 tk9 F9 N9 o9; replace N9 : News g0 L' h9 ((D9, lsO [] 0) :: _) := N9; have ndz := nd_off1 (o := lsO [] 0) o9 (by k_extra "d313"); (try dsimp only [ads, List.map] at ndz); (try dsimp only)
  k_extra "z"
  have hr2 : ∀ h' tk' zt o c th e b n1 n2 n3 n4 n5, Hint (dx, znD w zt o c th e b) → Post hH h' [(dx, dictOf [] 0)] [(dx, znD w zt o c th e b)] [(b, lsO [] n5), (e, lsO [] n4), (th, lsO [] n3), (c, lsO [] n2), (o, lsO [] n1)] → R (.ok (.ret .none)) ⟨h', gG, dD, tk', oO⟩ := fun h' tk' zt o c th e b n1 n2 n3 n4 n5 _ p => hr h' tk' zt o c th e b n1 n2 n3 n4 n5 p
  all_goals exact hr2 _ _ (tk0 _ _ _ _ _ 0 0 0 0 0 0 0 0 0 0 0 0 0) _ _ _ _ _ _ _ _ _ _ (Hint.of (by k_extra "w") (by k_mem)) (by k_extra "P1")
end
section
theorem sel_nil {p : Addr × Obj} {news : Objs} (hp : p ∈ news) : Sel p.1 p.2 [] news := Sel.post (Ω := []) (objs := []) hp (List.Sublist.refl [])
section
variable {w : World} {A : Around} {E : Value → Shared → Prop} {h0 : Heap} {gs : Array GenState} {dr : Drawn} {tk : Nat} {os : OsState} {Q : Value → Shared → Prop} {g : Heap} {L C fI : Addr} {m : Str → Option Value} {news : Objs} {pos : List Value} {kw : List (Str × Value)} {lo : List Str} {mean : ExcName → Option Value} {mg mb : Str → Option Value} {T0 : List Fact} {XK : Objs → Addr → Prop}
theorem mkP (hh : A.handled = none) (F : Fr g L h0 m) (X : (KK w.params).In g) (Tp : Top VW lo mean mg mb g) (N : News g L h0 news) (nd : (ads news).Nodup) (hm : makesIn (KK w.params) C = true) (hi : findIn (KK w.params) (.ref C) "__init__" = some (some (.ref fI))) (hf : isFn (KK w.params) (.ref fI) = true)
    (hT : ∀ H, (∀ a o, g.get? a = some o → H.get? a = some o) → (∀ a o, (a, o) ∈ news → H.get? a = some o) → Facts H T0)
    (hc : ∀ x dx h' fr gd R, Pre w h' [(dx, dictOf [] 0)] (.obj x (instObj C dx) :: T0) → (∀ h'' tk' dO new, XK (new ++ [(x, instObj C dx), (dx, dO)]) x → Post h' h'' [(dx, dictOf [] 0)] [(dx, dO)] new → R (.ok (.ret .none)) ⟨h'', gs, dr, tk', os⟩) →
      codeAny (model PR w) (AA (A.depth + 1) (A.units + 1) fr gd) (.call (.ref fI) ⟨.ref x :: pos, kw⟩) R ⟨h', gs, dr, tk, os⟩)
    (k : ∀ h' tk' x K, XK K x → Fr g L h' m → News g L h' (K ++ news) → (ads (K ++ news)).Nodup → Q (.ref x) ⟨h', gs, dr, tk', os⟩) : wpAny (model PR w) A (call (.ref C) pos kw) Q E ⟨h0, gs, dr, tk, os⟩ :=
  make_ct hh F X N nd hm hi hf fun x dx h' fr gd F' N' nd' l1 l2 => hc x dx h' fr gd _
    (Pre.of F' N' nd' (.cons _ (.cons_cons _ (List.nil_sublist _))) X Tp fun H B => Facts.obj (B.no (.here (.cons_cons _ (List.nil_sublist _)))) (hT H (fun a o e => B.go e) fun a o hp => B.no (.skip (.take (sel_nil (p := (a, o)) hp)))))
    fun h'' tk' dO new hx P => by
      have U := P.use F' N' nd' (Emb.skip (Emb.take (Emb.none _)))
      refine ⟨rfl, k h'' tk' x _ hx U.1 ?_ ?_⟩
      · rw [List.append_assoc]; exact U.2.1
      · rw [List.append_assoc]; exact U.2.2
end
noncomputable def Z3At (w : World) (ps es : List Value) (K : Objs) (z : Addr) : Prop := ∀ P : Objs → Prop, (∀ zd o c th e b a0 a1 a2 zt n1 n2 n3 n4 n5, P [(b, lsO [.bool true, .bool true, .bool true] n5), (e, lsO es n4), (th, lsO [.ref a0, .ref a1, .ref a2] n3), (a2, lsO [.bool false, .bool false] 0), (a1, lsO [.bool false, .bool false] 0), (a0, lsO [.bool false, .bool false] 0), (c, lsO ps n2), (o, lsO ps n1), (z, instObj 1300 zd), (zd, znD w zt o c th e b)]) → P K
noncomputable def Z0At (w : World) (K : Objs) (z : Addr) : Prop := ∀ P : Objs → Prop, (∀ zd o c th e b zt n1 n2 n3 n4 n5, P [(b, lsO [] n5), (e, lsO [] n4), (th, lsO [] n3), (c, lsO [] n2), (o, lsO [] n1), (z, instObj 1300 zd), (zd, znD w zt o c th e b)]) → P K
noncomputable def WkAt (w : World) (zs cv sc : Addr) (K : Objs) (W : Addr) : Prop := ∀ P : Objs → Prop, (∀ Wd wt wn ts gt gk rt S k kd l Sd f p d rd rdd sg h0 h1 h2 h3 h4 h5 h6 d0 d1 p0 p1 f0 f1 tm, P [(l, lsO [] 0), (k, instObj 1193 kd), (kd, stkD w ts tm l), (rd, instObj 532 rdd), (rdd, rdD w rt), (d, tupO [.int 16384 d0, .int 0 d1]), (p, tupO [.int 16384 p0, .int 0 p1]), (f, tupO [.int 16384 f0, .int 0 f1]), (S, instObj 1130 Sd), (Sd, gsD w gt gk f p d (.int 0 h0) (.int 0 h1) (.int 0 h2) (.int 1 h3) (.int 1 h4) (.int 1 h5) (.int 1 h6) rd), (W, instObj 1244 Wd), (Wd, wkD w wt wn S k zs cv sg sc)]) → P K
section
variable {w : World} {A : Around} {E : Value → Shared → Prop} {h0 : Heap} {gs : Array GenState} {dr : Drawn} {tk : Nat} {os : OsState} {Q : Value → Shared → Prop} {g : Heap} {L : Addr} {m : Str → Option Value} {news : Objs} {lo : List Str} {mean : ExcName → Option Value} {mg mb : Str → Option Value} {pts q0 q1 q2 es zs cv sc : Addr} {np ne : Nat} {x0 x1 x2 y0 y1 y2 : Int} {e0 e1 e2 g0 g1 g2 te : Tok}
theorem mkZA (hh : A.handled = none) (hd : A.depth + 6 < recursionLimit) (hu : A.units + 91 < cLine) (F : Fr g L h0 m) (X : (KK w.params).In g) (Tp : Top VW lo mean mg mb g) (N : News g L h0 news) (nd : (ads news).Nodup)
    (hT : ∀ H, (∀ a o, g.get? a = some o → H.get? a = some o) → (∀ a o, (a, o) ∈ news → H.get? a = some o) → Facts H [.obj pts (lsO [.ref q0, .ref q1, .ref q2] np), .tup q0 [.int x0 e0, .int y0 g0], .tup q1 [.int x1 e1, .int y1 g1], .tup q2 [.int x2 e2, .int y2 g2]])
    (k : ∀ h' tk' x K, Z3At w [.ref q0, .ref q1, .ref q2] [] K x → Fr g L h' m → News g L h' (K ++ news) → (ads (K ++ news)).Nodup → Q (.ref x) ⟨h', gs, dr, tk', os⟩) : wpAny (model PR w) A (call (.ref (nat_lit 1300)) [.ref pts] []) Q E ⟨h0, gs, dr, tk, os⟩ :=
  mkP hh F X Tp N nd (by k_is) (by k_is) (by k_is) hT (fun x dx h' fr gd R P hr => zoneA_ct (by (k_extra "o")) (by (k_extra "o")) P fun h'' tk' zt o c th e b a0 a1 a2 n1 n2 n3 n4 n5 Q => hr h'' tk' _ _ (fun P k => k dx o c th e b a0 a1 a2 zt n1 n2 n3 n4 n5) Q) k
theorem mkZB (hh : A.handled = none) (hd : A.depth + 6 < recursionLimit) (hu : A.units + 91 < cLine) (F : Fr g L h0 m) (X : (KK w.params).In g) (Tp : Top VW lo mean mg mb g) (N : News g L h0 news) (nd : (ads news).Nodup)
    (hT : ∀ H, (∀ a o, g.get? a = some o → H.get? a = some o) → (∀ a o, (a, o) ∈ news → H.get? a = some o) → Facts H [.obj pts (lsO [.ref q0, .ref q1, .ref q2] np), .tup q0 [.int x0 e0, .int y0 g0], .tup q1 [.int x1 e1, .int y1 g1], .tup q2 [.int x2 e2, .int y2 g2], .obj es (lsO [.int 2 te] ne)])
    (k : ∀ h' tk' x K, Z3At w [.ref q0, .ref q1, .ref q2] [.int 2 te] K x → Fr g L h' m → News g L h' (K ++ news) → (ads (K ++ news)).Nodup → Q (.ref x) ⟨h', gs, dr, tk', os⟩) : wpAny (model PR w) A (call (.ref (nat_lit 1300)) [.ref pts, .ref es] []) Q E ⟨h0, gs, dr, tk, os⟩ :=
  mkP hh F X Tp N nd (by k_is) (by k_is) (by k_is) hT (fun x dx h' fr gd R P hr => zoneB_ct (by (k_extra "o")) (by (k_extra "o")) P fun h'' tk' zt o c th e b a0 a1 a2 n1 n2 n3 n4 n5 Q => hr h'' tk' _ _ (fun P k => k dx o c th e b a0 a1 a2 zt n1 n2 n3 n4 n5) Q) k
theorem mkZ0 (hh : A.handled = none) (hd : A.depth + 6 < recursionLimit) (hu : A.units + 91 < cLine) (F : Fr g L h0 m) (X : (KK w.params).In g) (Tp : Top VW lo mean mg mb g) (N : News g L h0 news) (nd : (ads news).Nodup)
    (hT : ∀ H, (∀ a o, g.get? a = some o → H.get? a = some o) → (∀ a o, (a, o) ∈ news → H.get? a = some o) → Facts H [.obj pts (lsO [] np)])
    (k : ∀ h' tk' x K, Z0At w K x → Fr g L h' m → News g L h' (K ++ news) → (ads (K ++ news)).Nodup → Q (.ref x) ⟨h', gs, dr, tk', os⟩) : wpAny (model PR w) A (call (.ref (nat_lit 1300)) [.ref pts] []) Q E ⟨h0, gs, dr, tk, os⟩ :=
  mkP hh F X Tp N nd (by k_is) (by k_is) (by k_is) hT (fun x dx h' fr gd R P hr => zoneC_ct (by (k_extra "o")) (by (k_extra "o")) P fun h'' tk' zt o c th e b n1 n2 n3 n4 n5 Q => hr h'' tk' _ _ (fun P k => k dx o c th e b zt n1 n2 n3 n4 n5) Q) k
theorem mkW (hh : A.handled = none) (hd : A.depth + 7 < recursionLimit) (hu : A.units + 95 < cLine) (F : Fr g L h0 m) (X : (KK w.params).In g) (Tp : Top VW lo mean mg mb g) (N : News g L h0 news) (nd : (ads news).Nodup)
    (k : ∀ h' tk' x K, WkAt w zs cv (nat_lit 1205) K x → Fr g L h' m → News g L h' (K ++ news) → (ads (K ++ news)).Nodup → Q (.ref x) ⟨h', gs, dr, tk', os⟩) : wpAny (model PR w) A (call (.ref (nat_lit 1244)) [.ref zs, .ref cv] []) Q E ⟨h0, gs, dr, tk, os⟩ :=
  mkP hh F X Tp N nd (by k_is) (by k_is) (by k_is) (fun _ _ _ => Facts.nil) (fun x dx h' fr gd R P hr => workDI_ct (by (k_extra "o")) (by (k_extra "o")) P fun h'' tk' wt wn ts gt gk rt S k' kd l Sd f p d rd rdd sg h0 h1 h2 h3 h4 h5 h6 d0 d1 p0 p1 f0 f1 tm Q => hr h'' tk' _ _ (fun P k => k dx wt wn ts gt gk rt S k' kd l Sd f p d rd rdd sg h0 h1 h2 h3 h4 h5 h6 d0 d1 p0 p1 f0 f1 tm) Q) k
theorem mkWS (hh : A.handled = none) (hd : A.depth + 7 < recursionLimit) (hu : A.units + 95 < cLine) (F : Fr g L h0 m) (X : (KK w.params).In g) (Tp : Top VW lo mean mg mb g) (N : News g L h0 news) (nd : (ads news).Nodup)
    (k : ∀ h' tk' x K, WkAt w zs cv sc K x → Fr g L h' m → News g L h' (K ++ news) → (ads (K ++ news)).Nodup → Q (.ref x) ⟨h', gs, dr, tk', os⟩) : wpAny (model PR w) A (call (.ref (nat_lit 1244)) [.ref zs, .ref cv] [(Str.ofString "scale", .ref sc)]) Q E ⟨h0, gs, dr, tk, os⟩ :=
  mkP hh F X Tp N nd (by k_is) (by k_is) (by k_is) (fun _ _ _ => Facts.nil) (fun x dx h' fr gd R P hr => workSI_ct (by (k_extra "o")) (by (k_extra "o")) P fun h'' tk' wt wn ts gt gk rt S k' kd l Sd f p d rd rdd sg h0 h1 h2 h3 h4 h5 h6 d0 d1 p0 p1 f0 f1 tm Q => hr h'' tk' _ _ (fun P k => k dx wt wn ts gt gk rt S k' kd l Sd f p d rd rdd sg h0 h1 h2 h3 h4 h5 h6 d0 d1 p0 p1 f0 f1 tm) Q) k
end
end
section
theorem held_val {n : Int} : wrapZ n = if Int.fmod n 4294967296 ≥ 2147483648 then Int.fmod n 4294967296 - 4294967296 else Int.fmod n 4294967296 := by
  unfold wrapZ
  rw [Int.fmod_eq_emod_of_nonneg _ (by decide), Int.fmod_eq_emod_of_nonneg _ (by decide)]
  split <;> (k_extra "o")
noncomputable def nearZ (t b : Int) : Int :=
  let t' := if b < 0 then 0 - t else t
  let b' := if b < 0 then 0 - b else b
  let z := Int.fdiv (2 * (if t' < 0 then -t' else t') + b') (2 * b')
  if t' ≥ 0 then z else 0 - z
section
variable {w : World} {A : Around} {h : Heap} {env : Env} {e1 e2 : Expr} {k1 k2 : Nat} {pos : Pos}
theorem Ev.pow {r : Int} {u1 : Tok → Tok} (h1 : Ev (model PR w) A env h e1 (fun t => .int i (u1 t)) k1) (h2 : Ev (model PR w) A env h e2 (fun t => .int j (u2 t)) k2) (c : (decide (j ≥ 0) && !(j == 0) && !(i == 0 || i == 1) && !(i == -1) && !Builtin.Int.intTooBig (((Builtin.Int.intBits i : Nat) : Int) * j)) = true) (e : i ^ j.toNat = r) : Ev (model PR w) A env h (.BinOp e1 .Pow e2 pos) (fun t => .int r (t + (k1 + k2))) (k1 + k2 + 1) := by
  simp only [Bool.and_eq_true, decide_eq_true_eq, Bool.not_eq_true'] at c
  obtain ⟨⟨⟨⟨c0, c1⟩, c2⟩, c3⟩, c4⟩ := c
  subst e
  intro Q E s hss hq
  refine wpAny_BinOp (h1 _ _ s hss (h2 _ _ _ hss (PySem.AutoIntOps.pow_4 c0 (by rw [c1]; decide) (by rw [c2]; decide) (by rw [c3]; decide) (by rw [c4]; decide) ?_)))
  show Q _ _
  simp only [Nat.add_assoc] at hq ⊢
  exact hq
end
theorem lheld_ct {n : Int} (hd : dp + 1 < recursionLimit) (hu : un + 74 < cLine) (P : Pre w hH [] [])
    (hr : ∀ h' tk' t', Post hH h' [] [] [] → R (.ok (.ret (.int (wrapZ n) t'))) ⟨h', gG, dD, tk', oO⟩) : codeAny (model PR w) (AA dp un fr gd) (.call (.ref 1332) ⟨[.int n t], []⟩) R ⟨hH, gG, dD, tT, oO⟩ := by
  have hr' : ∀ x h' tk' t', x = wrapZ n → Post hH h' [] [] [] → R (.ok (.ret (.int x t'))) ⟨h', gG, dD, tk', oO⟩ := fun x h' tk' t' e p => e ▸ hr h' tk' t' p
  clear hr
  (k_dflt (refine' enter (binds := [(Str.ofString "number", .int n t)]) ?k1 ?k6 ?k7 ?k8 ?k9 ?kB ?_ ?c2 ?c3 ?c4 ?c5)); k_extra "ENT"; k_extra "d261"; (clear hT)
  k_extra "z54"
  all_goals refine hr' _ _ _ _ ?_ (by k_extra "P0")
  all_goals (rw [held_val]; first | rw [if_pos (by assumption)] | rw [if_neg (by assumption)])
theorem lnear_ct {b : Int} (hd : dp + 1 < recursionLimit) (hu : un + 74 < cLine) (P : Pre w hH [] []) (b0 : b ≠ 0) (b1 : -(2 ^ 28) ≤ b) (b2 : b < 2 ^ 28)
    (hr : ∀ h' tk' t', Post hH h' [] [] [] → R (.ok (.ret (.int (nearZ a b) t'))) ⟨h', gG, dD, tk', oO⟩) : codeAny (model PR w) (AA dp un fr gd) (.call (.ref 1339) ⟨[.int a ta, .int b tb], []⟩) R ⟨hH, gG, dD, tT, oO⟩ := by
  have hr' : ∀ x h' tk' t', x = nearZ a b → Post hH h' [] [] [] → R (.ok (.ret (.int x t'))) ⟨h', gG, dD, tk', oO⟩ := fun x h' tk' t' e p => e ▸ hr h' tk' t' p
  clear hr
  (k_dflt (refine' enter (binds := [(Str.ofString "top", .int a ta), (Str.ofString "bottom", .int b tb)]) ?k1 ?k6 ?k7 ?k8 ?k9 ?kB ?_ ?c2 ?c3 ?c4 ?c5)); k_extra "ENT"; k_extra "d261"; (clear hT)
  k_extra "z54"
  all_goals refine hr' _ _ _ _ ?_ (by k_extra "P0")
  all_goals (unfold nearZ; dsimp only; (repeat' split); all_goals first | rfl | (exfalso; (k_extra "o")))
end
section
theorem fm_bd {m : Int} (h : 0 < m) : 0 ≤ Int.fmod x m ∧ Int.fmod x m < m := by
  rw [Int.fmod_eq_emod_of_nonneg _ (Int.le_of_lt h)]
  exact ⟨Int.emod_nonneg _ (by (k_extra "o")), Int.emod_lt_of_pos _ h⟩
theorem fd_nn {m : Int} (h : 0 < m) (hx : 0 ≤ x) : 0 ≤ Int.fdiv x m := by
  rw [Int.fdiv_eq_ediv_of_nonneg _ (Int.le_of_lt h)]
  exact Int.ediv_nonneg hx (Int.le_of_lt h)
theorem ltake_ct {b : Int} {ns : Nat} {q : Int} {tq : Tok} (hd : dp + 1 < recursionLimit) (hu : un + 74 < cLine) (P : Pre w hH [(so, lsO [.int a ta, .int b tb] ns)] []) (a0 : 0 ≤ a) (b0 : 0 ≤ b) (b1 : b < 2147483647) (q0 : 1 ≤ q) (q1 : q ≤ 64)
    (hr : ∀ h' tk' a' b' ta' tb' ns' r t' (a0' : 0 ≤ a') (b0' : 0 ≤ b') (b1' : b' < 2147483647) (r0 : 0 ≤ r) (r1 : r < q), Post hH h' [(so, lsO [.int a ta, .int b tb] ns)] [(so, lsO [.int a' ta', .int b' tb'] ns')] [] → R (.ok (.ret (.int r t'))) ⟨h', gG, dD, tk', oO⟩) : codeAny (model PR w) (AA dp un fr gd) (.call (.ref 1318) ⟨[.ref so, .int q tq], []⟩) R ⟨hH, gG, dD, tT, oO⟩ := by
  (k_dflt (refine' enter (binds := [(Str.ofString "source", .ref so), (Str.ofString "top", .int q tq)]) ?k1 ?k6 ?k7 ?k8 ?k9 ?kB ?_ ?c2 ?c3 ?c4 ?c5)); k_extra "ENT"; k_extra "d261"; (clear hT)
  k_extra "z54"
  all_goals (try dsimp only)
  all_goals first | exact hr _ _ _ _ _ _ _ _ _ (fd_nn (x := a) (m := q) (by (k_extra "o")) a0) b0 b1 (fm_bd (by (k_extra "o"))).1 (fm_bd (by (k_extra "o"))).2 (by k_extra "P0") | exact hr _ _ _ _ _ _ _ _ _ a0 (fm_bd (by (k_extra "o"))).1 (fm_bd (by (k_extra "o"))).2 (fm_bd (by (k_extra "o"))).1 (fm_bd (by (k_extra "o"))).2 (by k_extra "P0")
theorem getIx {r : Int} (h0 : 0 ≤ r) (h1 : r < (vs.length : Int)) : ∃ v, vs[r.toNat]? = some v := ⟨_, List.getElem?_eq_getElem (show r.toNat < vs.length by (k_extra "o"))⟩
theorem lone_ct {b : Int} {ns : Nat} {nt : Nat} (hd : dp + 2 < recursionLimit) (hu : un + 78 < cLine) (P : Pre w hH [(so, lsO [.int a ta, .int b tb] ns)] [.obj th (lsO vs nt)]) (a0 : 0 ≤ a) (b0 : 0 ≤ b) (b1 : b < 2147483647) (q0 : 1 ≤ (vs.length : Int)) (q1 : (vs.length : Int) ≤ 64)
    (hr : ∀ h' tk' a' b' ta' tb' ns' v (a0' : 0 ≤ a') (b0' : 0 ≤ b') (b1' : b' < 2147483647) (hv : v ∈ vs), Post hH h' [(so, lsO [.int a ta, .int b tb] ns)] [(so, lsO [.int a' ta', .int b' tb'] ns')] [] → R (.ok (.ret v)) ⟨h', gG, dD, tk', oO⟩) : codeAny (model PR w) (AA dp un fr gd) (.call (.ref 1325) ⟨[.ref so, .ref th], []⟩) R ⟨hH, gG, dD, tT, oO⟩ := by
  (k_dflt (refine' enter (binds := [(Str.ofString "source", .ref so), (Str.ofString "things", .ref th)]) ?k1 ?k6 ?k7 ?k8 ?k9 ?kB ?_ ?c2 ?c3 ?c4 ?c5)); k_extra "ENT"; k_extra "d261"; k_extra "d289"
  k_extra "z55"
  all_goals exact hr _ _ _ _ _ _ _ _ a09 b09 b19 (List.mem_of_getElem? hv9) (by k_extra "P0")
end
section
theorem nd_allLt {D : Nat} {o : Obj} (h : AllLt D N) (nd : (ads N).Nodup) : (ads ((D, o) :: N)).Nodup := by
  refine List.nodup_cons.mpr ⟨fun q => ?_, nd⟩
  have key : ∀ {l : Objs}, AllLt D l → D ∉ ads l := by
    intro l
    induction l with
    | nil => exact fun _ h => nomatch h
    | cons p l ih =>
      intro h q
      rcases List.mem_cons.mp q with q | q
      · exact Nat.lt_irrefl _ (q ▸ h.1)
      · exact ih h.2 q
  exact key h q
theorem pull {α : Type} {a : α} {l1 l2 l : List α} (h : (l1 ++ l2).Perm l) : (l1 ++ a :: l2).Perm (a :: l) := List.perm_middle.trans (h.cons a)
theorem Post.newPerm {o n n' : Objs} (p : n.Perm n') (Q : Post h h' o o' n) : Post h h' o o' n' :=
  ⟨Q.kept, fun q hq => Q.led q (by rcases List.mem_append.mp hq with z | z; exact List.mem_append_left _ (p.symm.subset z); exact List.mem_append_right _ z), fun q hq => Q.fresh q (p.symm.subset hq), (p.map _).nodup_iff.mp Q.nd⟩
theorem tnPack {KA : Objs} {u0 u1 u2 : Tok} {a1 a2 : Addr × Obj} (hW : WkAt w zs cv sc KW W) (hA : Z3At w [.ref r0, .ref r1, .ref r2] [] KA z)
    (Q : Post hH h' [] [] (a1 :: a2 :: (KW ++ (zs, lsO [.ref z, .ref zb] nz) :: (KA ++ [(r2, tupO [.int x2 u2, .int 5 t2]), (r1, tupO [.int x1 u1, .int 5 t1]), (r0, tupO [.int x0 u0, .int 5 t0])]))))
    (kont : ∀ (qa : Nat → Addr) (qt : Nat → Nat → Tok) (qk : Nat → Tok) (qv : Nat → Value) (qi : Nat → Int) (qn : Nat → Nat) (qb : Nat → Bool) rd gt gk h0 h1 h2 h3 h4 h5 h6 n no Rest, (∀ H, (∀ a o, (a, o) ∈ (qa (nat_lit 2), instObj 1193 (qa (nat_lit 7))) :: ((qa (nat_lit 7)), stkD w (qt (nat_lit 2)) (qk (nat_lit 0)) (qa (nat_lit 8))) :: (W, instObj 1244 (qa (nat_lit 0))) :: ((qa (nat_lit 0)), wkD w (qt (nat_lit 0)) (qt (nat_lit 1)) (qa (nat_lit 1)) (qa (nat_lit 2)) (qa (nat_lit 3)) (qa (nat_lit 4)) (qa (nat_lit 5)) (qa (nat_lit 6))) :: ((qa (nat_lit 3)), lsO [.ref (qa (nat_lit 13)), .ref (qa (nat_lit 14))] (qn (nat_lit 0))) :: ((qa (nat_lit 13)), instObj 1300 (qa (nat_lit 15))) :: ((qa (nat_lit 15)), znD w (qt (nat_lit 3)) (qa (nat_lit 16)) (qa (nat_lit 17)) (qa (nat_lit 18)) (qa (nat_lit 19)) (qa (nat_lit 20))) :: Rest → H.get? a = some o) → Facts H (.tup r0 [.int x0 u0, .int 5 t0] :: .tup r1 [.int x1 u1, .int 5 t1] :: .tup r2 [.int x2 u2, .int 5 t2] :: .tup r0 [.int x0 u0, .int 5 t0] :: .tup r1 [.int x1 u1, .int 5 t1] :: .tup r2 [.int x2 u2, .int 5 t2] :: fctT w W qa qt qk qv qi qn qb)) → Post hH h' [] [] (a1 :: a2 :: ([((qa (nat_lit 8)), lsO [] 0), ((qa (nat_lit 9)), gsD w gt gk (qa (nat_lit 10)) (qa (nat_lit 11)) (qa (nat_lit 12)) (.int 0 h0) (.int 0 h1) (.int 0 h2) (.int 1 h3) (.int 1 h4) (.int 1 h5) (.int 1 h6) rd), ((qa (nat_lit 17)), lsO [.ref r0, .ref r1, .ref r2] n), ((qa (nat_lit 16)), lsO [.ref r0, .ref r1, .ref r2] no), ((qa (nat_lit 22)), lsO [.bool false, .bool false] 0), ((qa (nat_lit 23)), lsO [.bool false, .bool false] 0), ((qa (nat_lit 21)), lsO [.bool false, .bool false] 0)] ++ ((qa (nat_lit 2), instObj 1193 (qa (nat_lit 7))) :: ((qa (nat_lit 7)), stkD w (qt (nat_lit 2)) (qk (nat_lit 0)) (qa (nat_lit 8))) :: (W, instObj 1244 (qa (nat_lit 0))) :: ((qa (nat_lit 0)), wkD w (qt (nat_lit 0)) (qt (nat_lit 1)) (qa (nat_lit 1)) (qa (nat_lit 2)) (qa (nat_lit 3)) (qa (nat_lit 4)) (qa (nat_lit 5)) (qa (nat_lit 6))) :: ((qa (nat_lit 3)), lsO [.ref (qa (nat_lit 13)), .ref (qa (nat_lit 14))] (qn (nat_lit 0))) :: ((qa (nat_lit 13)), instObj 1300 (qa (nat_lit 15))) :: ((qa (nat_lit 15)), znD w (qt (nat_lit 3)) (qa (nat_lit 16)) (qa (nat_lit 17)) (qa (nat_lit 18)) (qa (nat_lit 19)) (qa (nat_lit 20))) :: Rest))) → G) : G := by
  refine hW (fun K => Post hH h' [] [] (a1 :: a2 :: (K ++ (zs, lsO [.ref z, .ref zb] nz) :: (KA ++ [(r2, tupO [.int x2 u2, .int 5 t2]), (r1, tupO [.int x1 u1, .int 5 t1]), (r0, tupO [.int x0 u0, .int 5 t0])]))) → G) (fun Wd wt wn ts gt gk rt S k kd l Sd f p d rd rdd sg h0 h1 h2 h3 h4 h5 h6 d0 d1 p0 p1 f0 f1 tm => ?_) Q
  refine hA (fun K => Post hH h' [] [] (a1 :: a2 :: (_ ++ (zs, lsO [.ref z, .ref zb] nz) :: (K ++ [(r2, tupO [.int x2 u2, .int 5 t2]), (r1, tupO [.int x1 u1, .int 5 t1]), (r0, tupO [.int x0 u0, .int 5 t0])]))) → G) (fun zd o c th e b b0 b1 b2 zt n1 n2 n3 n4 n5 Q => ?_)
  refine kont (fun i => ([Wd, S, k, zs, cv, sg, sc, kd, l, Sd, f, p, d, z, zb, zd, o, c, th, e, b, b0, b1, b2] : List _).getD i 0) (fun i => ([wt, wn, ts, zt] : List (Nat → Tok)).getD i (fun _ => 0)) (fun i => ([tm, f0, f1, p0, p1, d0, d1] : List _).getD i 0) (fun _ => .none) (fun _ => 0) (fun i => ([nz, n3] : List _).getD i 0) (fun _ => false) rd gt gk h0 h1 h2 h3 h4 h5 h6 n2 n1 [(rd, instObj 532 rdd), (rdd, rdD w rt), (d, tupO [.int 16384 d0, .int 0 d1]), (p, tupO [.int 16384 p0, .int 0 p1]), (f, tupO [.int 16384 f0, .int 0 f1]), (S, instObj 1130 Sd), (b, lsO [.bool true, .bool true, .bool true] n5), (e, lsO [] n4), (th, lsO [.ref b0, .ref b1, .ref b2] n3), (r2, tupO [.int x2 u2, .int 5 t2]), (r1, tupO [.int x1 u1, .int 5 t1]), (r0, tupO [.int x0 u0, .int 5 t0])] (fun H9 n9 => ?_) (Q.newPerm (List.Perm.cons _ (List.Perm.cons _ ?_)))
  · exact Facts.tup (tup_of (n9 _ _ (by k_extra "d308"))) (Facts.tup (tup_of (n9 _ _ (by k_extra "d308"))) (Facts.tup (tup_of (n9 _ _ (by k_extra "d308"))) (Facts.tup (tup_of (n9 _ _ (by k_extra "d308"))) (Facts.tup (tup_of (n9 _ _ (by k_extra "d308"))) (Facts.tup (tup_of (n9 _ _ (by k_extra "d308"))) (Facts.obj (n9 _ _ (by k_extra "d308")) (Facts.obj (n9 _ _ (by k_extra "d308")) (Facts.obj (n9 _ _ (by k_extra "d308")) (Facts.obj (n9 _ _ (by k_extra "d308")) (Facts.obj (n9 _ _ (by k_extra "d308")) (Facts.obj (n9 _ _ (by k_extra "d308")) (Facts.obj (n9 _ _ (by k_extra "d308")) (Facts.obj (n9 _ _ (by k_extra "d308")) (Facts.obj (n9 _ _ (by k_extra "d308")) (Facts.tup (tup_of (n9 _ _ (by k_extra "d308"))) (Facts.tup (tup_of (n9 _ _ (by k_extra "d308"))) (Facts.tup (tup_of (n9 _ _ (by k_extra "d308"))) (Facts.nil))))))))))))))))))
  · exact List.Perm.cons _ (pull (l1 := [_, _, _, _, _, _, _, _]) (pull (l1 := [_, _, _, _, _, _, _, _, _, _, _, _, _, _, _, _, _]) (pull (l1 := [_, _, _, _, _, _, _, _, _, _, _, _, _, _, _, _, _]) (pull (l1 := [_, _, _, _, _, _, _, _, _, _, _, _, _, _, _]) (pull (l1 := [_, _, _, _, _, _, _, _, _, _, _, _, _, _]) (pull (l1 := [_, _, _, _, _, _, _, _, _, _, _, _, _, _]) (List.Perm.cons _ (List.Perm.cons _ (pull (l1 := [_, _, _, _, _, _]) (pull (l1 := [_, _, _, _, _, _]) (pull (l1 := [_, _, _, _, _, _]) (pull (l1 := [_, _, _, _, _, _, _, _, _]) (pull (l1 := [_, _, _, _, _, _, _, _, _]) (List.Perm.refl _))))))))))))))
theorem lbegun_ct {u0 u1 u2 : Tok} (hd : dp + 9 < recursionLimit) (hu : un + 106 < cLine) (P : Pre w hH [] [.obj ps (lsO [.int x0 u0, .int x1 u1, .int x2 u2] np)])
    (hr : ∀ h' tk' r W ol vs n1 (qa : Nat → Addr) (qt : Nat → Nat → Tok) (qk : Nat → Tok) (qv : Nat → Value) (qi : Nat → Int) (qn : Nat → Nat) (qb : Nat → Bool) rd gt gk h0 h1 h2 h3 h4 h5 h6 n no Rest r0 r1 r2 t0 t1 t2, IntsAre vs [176, 0, 22, 176, 2, 16, 176, 0, 17, 176, 1, 18] → (∀ H, (∀ a o, (a, o) ∈ (qa (nat_lit 2), instObj 1193 (qa (nat_lit 7))) :: ((qa (nat_lit 7)), stkD w (qt (nat_lit 2)) (qk (nat_lit 0)) (qa (nat_lit 8))) :: (W, instObj 1244 (qa (nat_lit 0))) :: ((qa (nat_lit 0)), wkD w (qt (nat_lit 0)) (qt (nat_lit 1)) (qa (nat_lit 1)) (qa (nat_lit 2)) (qa (nat_lit 3)) (qa (nat_lit 4)) (qa (nat_lit 5)) (qa (nat_lit 6))) :: ((qa (nat_lit 3)), lsO [.ref (qa (nat_lit 13)), .ref (qa (nat_lit 14))] (qn (nat_lit 0))) :: ((qa (nat_lit 13)), instObj 1300 (qa (nat_lit 15))) :: ((qa (nat_lit 15)), znD w (qt (nat_lit 3)) (qa (nat_lit 16)) (qa (nat_lit 17)) (qa (nat_lit 18)) (qa (nat_lit 19)) (qa (nat_lit 20))) :: Rest → H.get? a = some o) → Facts H (.tup r0 [.int x0 u0, .int 5 t0] :: .tup r1 [.int x1 u1, .int 5 t1] :: .tup r2 [.int x2 u2, .int 5 t2] :: .tup r0 [.int x0 u0, .int 5 t0] :: .tup r1 [.int x1 u1, .int 5 t1] :: .tup r2 [.int x2 u2, .int 5 t2] :: fctT w W qa qt qk qv qi qn qb)) → Post hH h' [] [] ((r, tupO [.ref W, .ref ol]) :: (ol, lsO vs n1) :: ([((qa (nat_lit 8)), lsO [] 0), ((qa (nat_lit 9)), gsD w gt gk (qa (nat_lit 10)) (qa (nat_lit 11)) (qa (nat_lit 12)) (.int 0 h0) (.int 0 h1) (.int 0 h2) (.int 1 h3) (.int 1 h4) (.int 1 h5) (.int 1 h6) rd), ((qa (nat_lit 17)), lsO [.ref r0, .ref r1, .ref r2] n), ((qa (nat_lit 16)), lsO [.ref r0, .ref r1, .ref r2] no), ((qa (nat_lit 22)), lsO [.bool false, .bool false] 0), ((qa (nat_lit 23)), lsO [.bool false, .bool false] 0), ((qa (nat_lit 21)), lsO [.bool false, .bool false] 0)] ++ ((qa (nat_lit 2), instObj 1193 (qa (nat_lit 7))) :: ((qa (nat_lit 7)), stkD w (qt (nat_lit 2)) (qk (nat_lit 0)) (qa (nat_lit 8))) :: (W, instObj 1244 (qa (nat_lit 0))) :: ((qa (nat_lit 0)), wkD w (qt (nat_lit 0)) (qt (nat_lit 1)) (qa (nat_lit 1)) (qa (nat_lit 2)) (qa (nat_lit 3)) (qa (nat_lit 4)) (qa (nat_lit 5)) (qa (nat_lit 6))) :: ((qa (nat_lit 3)), lsO [.ref (qa (nat_lit 13)), .ref (qa (nat_lit 14))] (qn (nat_lit 0))) :: ((qa (nat_lit 13)), instObj 1300 (qa (nat_lit 15))) :: ((qa (nat_lit 15)), znD w (qt (nat_lit 3)) (qa (nat_lit 16)) (qa (nat_lit 17)) (qa (nat_lit 18)) (qa (nat_lit 19)) (qa (nat_lit 20))) :: Rest))) → R (.ok (.ret (.ref r))) ⟨h', gG, dD, tk', oO⟩) : codeAny (model PR w) (AA dp un fr gd) (.call (.ref 1351) ⟨[.ref ps], []⟩) R ⟨hH, gG, dD, tT, oO⟩ := by
  (k_dflt (refine' enter (binds := [(Str.ofString "places", .ref ps)]) ?k1 ?k6 ?k7 ?k8 ?k9 ?kB ?_ ?c2 ?c3 ?c4 ?c5)); k_extra "ENT"; k_extra "d261"; k_extra "d289"
  k_extra "z49"
  k_dflt k_extra "d107"
  intro g1
  k_dflt (refine' restA (its := [.int x0 u0, .int x1 u1, .int x2 u2]) (fun v o => ∃ t, o = tupO [v, .int 5 t]) ?rs ?rh ?rn ?re ?rf)
  case rs => exact fun _ _ => srcAt_cons
  case rh => exact Or.inl (isl (by k_extra "w"))
  case rn => exact List.nodup_nil
  case re =>
    intro v C oC m2 h9 tk9 E' Q hv hns hm hC hq
    refine Evs.tup (s := ⟨_, _, _, _, _⟩) (Evs.cons (Ev.nameC hns hC hm rfl rfl rfl) (Evs.cons Ev.int Evs.nil rfl) rfl) (by first | exact Nat.le_of_ble_eq_true rfl | size_fits) ?_
    exact hq _ _ ⟨_, rfl⟩ rfl
  refine made3T (fun v t => tupO [v, .int 5 t]) ?_
  intro a0 a1 a2 t0 t1 t2 hn9
  intro D9 h9 tk9 F9 N9 o9; replace N9 : News g0 L' h9 ((D9, lsO [.ref a0, .ref a1, .ref a2] 3) :: _) := N9; have nd9 := nd_off1 (o := lsO [.ref a0, .ref a1, .ref a2] 3) o9 hn9; k_extra "d145"; (try dsimp only)
  k_extra "z56"
  refine' tnPack (w := w) (a1 := (_, tupO [.ref W9, .ref _])) (a2 := (_, lsO _ _)) hW9 hZ9 (postN G' ?pF ?pN ?pnd ?S9 rfl) ?K9
  case pF => k_extra "w"
  case pN => k_extra "w"
  case pnd => k_extra "d309"
  case S9 => rw [List.append_nil]; exact .cons_cons _ (.cons_cons _ (List.Sublist.append (List.Sublist.refl _) (.cons _ (.cons_cons _ (List.Sublist.trans (List.Sublist.append (List.Sublist.refl K9) (.cons _ (List.Sublist.refl _))) (List.Sublist.trans (.cons _ (.cons _ (.cons _ (.cons _ (.cons _ (List.Sublist.refl _)))))) (List.sublist_append_right KB9 _)))))))
  case K9 =>
    intro qa qt qk qv qi qn qb rd gt gk h0 h1 h2 h3 h4 h5 h6 n no Rest hF9 P9
    exact hr _ _ _ _ _ _ _ qa qt qk qv qi qn qb rd gt gk h0 h1 h2 h3 h4 h5 h6 n no Rest _ _ _ _ _ _ (by k_extra "d209") hF9 P9
end
section
noncomputable def kvMark : List (Int × Value) := stored (stored (stored (stored (stored ([(15, .ref 473), (39, .ref 480), (41, .ref 487), (70, .ref 445), (71, .ref 445), (72, .ref 452)]) 73 (.ref 459)) 74 (.ref 459)) 128 (.ref 494)) 129 (.ref 501)) 130 (.ref 501)
set_option maxHeartbeats 1500000 in
theorem markops_ct (hd : dp + 1 < recursionLimit) (hu : un + 74 < cLine) (P : Pre w hH [] [])
    (hr : ∀ h' tk' d o (hdo : o.IsDictOf (PySem.intKind PR w) kvMark) (hlo : (d == sysModules) = false), Post hH h' [] [] [(d, o)] → R (.ok (.ret (.ref d))) ⟨h', gG, dD, tk', oO⟩) : codeAny (model PR w) (AA dp un fr gd) (.call (.ref 508) ⟨[], []⟩) R ⟨hH, gG, dD, tT, oO⟩ := by
  k_extra "d205"; k_extra "ENT"; k_extra "d261"; (clear hT)
  k_extra "z57"
  all_goals k_extra "d91"
end
section
noncomputable def kvVec : List (Int × Value) := List.foldl (fun kvs k => stored kvs k (.ref 1064)) (List.foldl (fun kvs k => stored kvs k (.ref 1050)) (List.foldl (fun kvs k => stored kvs k (.ref 1036)) (List.foldl (fun kvs k => stored kvs k (.ref 1029)) (List.foldl (fun kvs k => stored kvs k (.ref 994)) (List.foldl (fun kvs k => stored kvs k (.ref 973)) ([(10, .ref 1008), (11, .ref 1008), (12, .ref 1015), (13, .ref 1015), (14, .ref 1022), (23, .ref 1043), (77, .ref 1057), (78, .ref 1057), (118, .ref 1071), (119, .ref 1071), (134, .ref 1001), (135, .ref 1001)]) (rangeKs 0 6)) (rangeKs 6 4)) [16, 17, 18]) [19, 20, 21, 22]) [26, 29, 30, 31, 94, 95]) [24, 25, 61, 122, 124, 125]
set_option maxHeartbeats 1500000 in
theorem vectorops_ct (hd : dp + 1 < recursionLimit) (hu : un + 74 < cLine) (P : Pre w hH [] [])
    (hr : ∀ h' tk' d o (hdo : o.IsDictOf (PySem.intKind PR w) kvVec) (hlo : (d == sysModules) = false), Post hH h' [] [] [(d, o)] → R (.ok (.ret (.ref d))) ⟨h', gG, dD, tk', oO⟩) : codeAny (model PR w) (AA dp un fr gd) (.call (.ref 1078) ⟨[], []⟩) R ⟨hH, gG, dD, tT, oO⟩ := by
  k_extra "d205"; k_extra "ENT"; k_extra "d261"; (clear hT)
  k_extra "z58"
  k_dflt (refine' tabR (n := 6) (fun kvs k => stored kvs k (.ref 973)) (fun kvs k => by have := @stored_length_le Int _; first | exact Nat.le_succ_of_le (stored_length_le _ _ _) | exact Nat.le_trans (stored_length_le _ _ _) (Nat.succ_le_succ (stored_length_le _ _ _))) ?hhL1 ?hrL1 ?hsL1 ?hnL1 ?FL1 ?NL1 ?dmL1 ?ddL1 ?hzL1 ?turnL1 ?doneL1)
  case hhL1 => exact rfl
  case hrL1 => k_asm
  case hsL1 => decide
  case hnL1 => decide
  case FL1 => k_asm
  case NL1 => k_asm
  case ddL1 => (k_extra "d228"; exact hdX)
  case dmL1 => k_mem
  case hzL1 => exact Nat.le_of_ble_eq_true (by kernel_rfl)
  case turnL1 =>
    intro k t o' kvs' h9 tk9 own hoff hd9 hz9 F9 N9
    replace F9 : Fr g0 L' h9 _ := F9
    replace N9 : News g0 L' h9 _ := N9
    (try dsimp only)
    k_extra "z59"
    all_goals first | k_extra "d271"
  intro u9 o9 h9 tk9 hd9 F9 N9
  replace F9 : Fr g0 L' h9 _ := F9
  replace N9 : News g0 L' h9 _ := N9
  (try dsimp only)
  k_extra "z58"
  k_dflt (refine' tabR (n := 4) (fun kvs k => stored kvs k (.ref 994)) (fun kvs k => by have := @stored_length_le Int _; first | exact Nat.le_succ_of_le (stored_length_le _ _ _) | exact Nat.le_trans (stored_length_le _ _ _) (Nat.succ_le_succ (stored_length_le _ _ _))) ?hhL2 ?hrL2 ?hsL2 ?hnL2 ?FL2 ?NL2 ?dmL2 ?ddL2 ?hzL2 ?turnL2 ?doneL2)
  case hhL2 => exact rfl
  case hrL2 => k_asm
  case hsL2 => decide
  case hnL2 => decide
  case FL2 => k_asm
  case NL2 => k_asm
  case ddL2 => (k_extra "d228"; exact hdX)
  case dmL2 => k_mem
  case hzL2 => exact Nat.le_of_ble_eq_true (by kernel_rfl)
  case turnL2 =>
    intro k t o' kvs' h9 tk9 own hoff hd9 hz9 F9 N9
    replace F9 : Fr g0 L' h9 _ := F9
    replace N9 : News g0 L' h9 _ := N9
    (try dsimp only)
    k_extra "z59"
    all_goals first | k_extra "d271"
  intro u9 o9 h9 tk9 hd9 F9 N9
  replace F9 : Fr g0 L' h9 _ := F9
  replace N9 : News g0 L' h9 _ := N9
  (try dsimp only)
  k_extra "z58"
  k_dflt (refine' tabT (ks := [16, 17, 18]) (fun kvs k => stored kvs k (.ref 1029)) (fun kvs k => by have := @stored_length_le Int _; first | exact Nat.le_succ_of_le (stored_length_le _ _ _) | exact Nat.le_trans (stored_length_le _ _ _) (Nat.succ_le_succ (stored_length_le _ _ _))) ?hhL3 ?FL3 ?NL3 ?axL3 ?hcL3 ?hdL3 ?hiL3 ?dmL3 ?neL3 ?ddL3 ?hzL3 ?turnL3 ?doneL3)
  case hhL3 => exact rfl
  case FL3 => k_asm
  case NL3 => k_asm
  case axL3 => k_mem
  case hcL3 => exact rfl
  case hdL3 => exact rfl
  case hiL3 => k_extra "d209"
  case ddL3 => (k_extra "d228"; exact hdX)
  case dmL3 => k_mem
  case neL3 => k_ne
  case hzL3 => exact Nat.le_of_ble_eq_true (by kernel_rfl)
  case turnL3 =>
    intro k t o' kvs' h9 tk9 own hoff hd9 hz9 F9 N9
    replace F9 : Fr g0 L' h9 _ := F9
    replace N9 : News g0 L' h9 _ := N9
    (try dsimp only)
    k_extra "z59"
    all_goals first | k_extra "d271"
  intro u9 o9 h9 tk9 hd9 F9 N9
  replace F9 : Fr g0 L' h9 _ := F9
  replace N9 : News g0 L' h9 _ := N9
  (try dsimp only)
  k_extra "z58"
  k_dflt (refine' tabT (ks := [19, 20, 21, 22]) (fun kvs k => stored kvs k (.ref 1036)) (fun kvs k => by have := @stored_length_le Int _; first | exact Nat.le_succ_of_le (stored_length_le _ _ _) | exact Nat.le_trans (stored_length_le _ _ _) (Nat.succ_le_succ (stored_length_le _ _ _))) ?hhL4 ?FL4 ?NL4 ?axL4 ?hcL4 ?hdL4 ?hiL4 ?dmL4 ?neL4 ?ddL4 ?hzL4 ?turnL4 ?doneL4)
  case hhL4 => exact rfl
  case FL4 => k_asm
  case NL4 => k_asm
  case axL4 => k_mem
  case hcL4 => exact rfl
  case hdL4 => exact rfl
  case hiL4 => k_extra "d209"
  case ddL4 => (k_extra "d228"; exact hdX)
  case dmL4 => k_mem
  case neL4 => k_ne
  case hzL4 => exact Nat.le_of_ble_eq_true (by kernel_rfl)
  case turnL4 =>
    intro k t o' kvs' h9 tk9 own hoff hd9 hz9 F9 N9
    replace F9 : Fr g0 L' h9 _ := F9
    replace N9 : News g0 L' h9 _ := N9
    (try dsimp only)
    k_extra "z59"
    all_goals first | k_extra "d271"
  intro u9 o9 h9 tk9 hd9 F9 N9
  replace F9 : Fr g0 L' h9 _ := F9
  replace N9 : News g0 L' h9 _ := N9
  (try dsimp only)
  k_extra "z58"
  k_dflt (refine' tabT (ks := [26, 29, 30, 31, 94, 95]) (fun kvs k => stored kvs k (.ref 1050)) (fun kvs k => by have := @stored_length_le Int _; first | exact Nat.le_succ_of_le (stored_length_le _ _ _) | exact Nat.le_trans (stored_length_le _ _ _) (Nat.succ_le_succ (stored_length_le _ _ _))) ?hhL5 ?FL5 ?NL5 ?axL5 ?hcL5 ?hdL5 ?hiL5 ?dmL5 ?neL5 ?ddL5 ?hzL5 ?turnL5 ?doneL5)
  case hhL5 => exact rfl
  case FL5 => k_asm
  case NL5 => k_asm
  case axL5 => k_mem
  case hcL5 => exact rfl
  case hdL5 => exact rfl
  case hiL5 => k_extra "d209"
  case ddL5 => (k_extra "d228"; exact hdX)
  case dmL5 => k_mem
  case neL5 => k_ne
  case hzL5 => exact Nat.le_of_ble_eq_true (by kernel_rfl)
  case turnL5 =>
    intro k t o' kvs' h9 tk9 own hoff hd9 hz9 F9 N9
    replace F9 : Fr g0 L' h9 _ := F9
    replace N9 : News g0 L' h9 _ := N9
    (try dsimp only)
    k_extra "z59"
    all_goals first | k_extra "d271"
  intro u9 o9 h9 tk9 hd9 F9 N9
  replace F9 : Fr g0 L' h9 _ := F9
  replace N9 : News g0 L' h9 _ := N9
  (try dsimp only)
  k_extra "z58"
  k_dflt (refine' tabT (ks := [24, 25, 61, 122, 124, 125]) (fun kvs k => stored kvs k (.ref 1064)) (fun kvs k => by have := @stored_length_le Int _; first | exact Nat.le_succ_of_le (stored_length_le _ _ _) | exact Nat.le_trans (stored_length_le _ _ _) (Nat.succ_le_succ (stored_length_le _ _ _))) ?hhL6 ?FL6 ?NL6 ?axL6 ?hcL6 ?hdL6 ?hiL6 ?dmL6 ?neL6 ?ddL6 ?hzL6 ?turnL6 ?doneL6)
  case hhL6 => exact rfl
  case FL6 => k_asm
  case NL6 => k_asm
  case axL6 => k_mem
  case hcL6 => exact rfl
  case hdL6 => exact rfl
  case hiL6 => k_extra "d209"
  case ddL6 => (k_extra "d228"; exact hdX)
  case dmL6 => k_mem
  case neL6 => k_ne
  case hzL6 => exact Nat.le_of_ble_eq_true (by kernel_rfl)
  case turnL6 =>
    intro k t o' kvs' h9 tk9 own hoff hd9 hz9 F9 N9
    replace F9 : Fr g0 L' h9 _ := F9
    replace N9 : News g0 L' h9 _ := N9
    (try dsimp only)
    k_extra "z59"
    all_goals first | k_extra "d271"
  intro u9 o9 h9 tk9 hd9 F9 N9
  replace F9 : Fr g0 L' h9 _ := F9
  replace N9 : News g0 L' h9 _ := N9
  (try dsimp only)
  k_extra "z60"
  all_goals k_extra "d91"
end
section
noncomputable def kvRel : List (Int × Value) := List.foldl (fun kvs k => stored (stored kvs k (.ref 620)) (k + 32) (.ref 627)) (stored (stored ([(46, .ref 592), (47, .ref 592), (62, .ref 599), (63, .ref 599), (58, .ref 634), (59, .ref 634)]) 60 (.ref 641)) 57 (.ref 648)) (rangeKs 192 32)
set_option maxHeartbeats 1500000 in
theorem relationops_ct (hd : dp + 1 < recursionLimit) (hu : un + 74 < cLine) (P : Pre w hH [] [])
    (hr : ∀ h' tk' d o (hdo : o.IsDictOf (PySem.intKind PR w) kvRel) (hlo : (d == sysModules) = false), Post hH h' [] [] [(d, o)] → R (.ok (.ret (.ref d))) ⟨h', gG, dD, tk', oO⟩) : codeAny (model PR w) (AA dp un fr gd) (.call (.ref 655) ⟨[], []⟩) R ⟨hH, gG, dD, tT, oO⟩ := by
  k_extra "d205"; k_extra "ENT"; k_extra "d261"; (clear hT)
  k_extra "z61"
  k_dflt (refine' tabR (n := 32) (fun kvs k => stored (stored kvs k (.ref 620)) (k + 32) (.ref 627)) (fun kvs k => by have := @stored_length_le Int _; first | exact Nat.le_succ_of_le (stored_length_le _ _ _) | exact Nat.le_trans (stored_length_le _ _ _) (Nat.succ_le_succ (stored_length_le _ _ _))) ?hhL1 ?hrL1 ?hsL1 ?hnL1 ?FL1 ?NL1 ?dmL1 ?ddL1 ?hzL1 ?turnL1 ?doneL1)
  case hhL1 => exact rfl
  case hrL1 => k_asm
  case hsL1 => decide
  case hnL1 => decide
  case FL1 => k_asm
  case NL1 => k_asm
  case ddL1 => (k_extra "d228"; exact hdX)
  case dmL1 => k_mem
  case hzL1 => exact Nat.le_of_ble_eq_true (by kernel_rfl)
  case turnL1 =>
    intro k t o' kvs' h9 tk9 own hoff hd9 hz9 F9 N9
    replace F9 : Fr g0 L' h9 _ := F9
    replace N9 : News g0 L' h9 _ := N9
    (try dsimp only)
    k_extra "z59"
    all_goals first | k_extra "d271"
  intro u9 o9 h9 tk9 hd9 F9 N9
  replace F9 : Fr g0 L' h9 _ := F9
  replace N9 : News g0 L' h9 _ := N9
  (try dsimp only)
  k_extra "z62"
  all_goals k_extra "d91"
end
section
noncomputable def kvStk : List (Int × Value) := List.foldl (fun kvs k => stored kvs k (.ref 828)) (List.foldl (fun kvs k => stored (stored kvs (104 + k) (.ref 772)) (108 + k) (.ref 779)) (List.foldl (fun kvs k => stored kvs k (.ref 765)) (List.foldl (fun kvs k => stored kvs k (.ref 758)) (List.foldl (fun kvs k => stored kvs k (.ref 730)) ([(32, .ref 662), (33, .ref 669), (34, .ref 676), (35, .ref 683), (36, .ref 690), (37, .ref 697), (38, .ref 702), (138, .ref 709), (142, .ref 716), (79, .ref 669), (126, .ref 669), (127, .ref 669), (133, .ref 669), (141, .ref 669), (92, .ref 737), (86, .ref 744), (87, .ref 744), (66, .ref 786), (67, .ref 793), (68, .ref 800), (69, .ref 814), (112, .ref 807), (75, .ref 835), (76, .ref 835), (136, .ref 842)]) [80, 81, 82, 83, 84, 85, 90, 91]) [96, 97, 98, 99, 139, 140]) [100, 101, 102, 103]) (rangeKs 0 4)) [115, 116, 117]
set_option maxHeartbeats 1500000 in
theorem stackops_ct (hd : dp + 1 < recursionLimit) (hu : un + 74 < cLine) (P : Pre w hH [] [])
    (hr : ∀ h' tk' d o (hdo : o.IsDictOf (PySem.intKind PR w) kvStk) (hlo : (d == sysModules) = false), Post hH h' [] [] [(d, o)] → R (.ok (.ret (.ref d))) ⟨h', gG, dD, tk', oO⟩) : codeAny (model PR w) (AA dp un fr gd) (.call (.ref 849) ⟨[], []⟩) R ⟨hH, gG, dD, tT, oO⟩ := by
  k_extra "d205"; k_extra "ENT"; k_extra "d261"; (clear hT)
  k_extra "z63"
  k_dflt (refine' tabT (ks := [80, 81, 82, 83, 84, 85, 90, 91]) (fun kvs k => stored kvs k (.ref 730)) (fun kvs k => by have := @stored_length_le Int _; first | exact Nat.le_succ_of_le (stored_length_le _ _ _) | exact Nat.le_trans (stored_length_le _ _ _) (Nat.succ_le_succ (stored_length_le _ _ _))) ?hhL1 ?FL1 ?NL1 ?axL1 ?hcL1 ?hdL1 ?hiL1 ?dmL1 ?neL1 ?ddL1 ?hzL1 ?turnL1 ?doneL1)
  case hhL1 => exact rfl
  case FL1 => k_asm
  case NL1 => k_asm
  case axL1 => k_mem
  case hcL1 => exact rfl
  case hdL1 => exact rfl
  case hiL1 => k_extra "d209"
  case ddL1 => (k_extra "d228"; exact hdX)
  case dmL1 => k_mem
  case neL1 => k_ne
  case hzL1 => exact Nat.le_of_ble_eq_true (by kernel_rfl)
  case turnL1 =>
    intro k t o' kvs' h9 tk9 own hoff hd9 hz9 F9 N9
    replace F9 : Fr g0 L' h9 _ := F9
    replace N9 : News g0 L' h9 _ := N9
    (try dsimp only)
    k_extra "z59"
    all_goals first | k_extra "d271"
  intro u9 o9 h9 tk9 hd9 F9 N9
  replace F9 : Fr g0 L' h9 _ := F9
  replace N9 : News g0 L' h9 _ := N9
  (try dsimp only)
  k_extra "z63"
  k_dflt (refine' tabT (ks := [96, 97, 98, 99, 139, 140]) (fun kvs k => stored kvs k (.ref 758)) (fun kvs k => by have := @stored_length_le Int _; first | exact Nat.le_succ_of_le (stored_length_le _ _ _) | exact Nat.le_trans (stored_length_le _ _ _) (Nat.succ_le_succ (stored_length_le _ _ _))) ?hhL2 ?FL2 ?NL2 ?axL2 ?hcL2 ?hdL2 ?hiL2 ?dmL2 ?neL2 ?ddL2 ?hzL2 ?turnL2 ?doneL2)
  case hhL2 => exact rfl
  case FL2 => k_asm
  case NL2 => k_asm
  case axL2 => k_mem
  case hcL2 => exact rfl
  case hdL2 => exact rfl
  case hiL2 => k_extra "d209"
  case ddL2 => (k_extra "d228"; exact hdX)
  case dmL2 => k_mem
  case neL2 => k_ne
  case hzL2 => exact Nat.le_of_ble_eq_true (by kernel_rfl)
  case turnL2 =>
    intro k t o' kvs' h9 tk9 own hoff hd9 hz9 F9 N9
    replace F9 : Fr g0 L' h9 _ := F9
    replace N9 : News g0 L' h9 _ := N9
    (try dsimp only)
    k_extra "z59"
    all_goals first | k_extra "d271"
  intro u9 o9 h9 tk9 hd9 F9 N9
  replace F9 : Fr g0 L' h9 _ := F9
  replace N9 : News g0 L' h9 _ := N9
  (try dsimp only)
  k_extra "z63"
  k_dflt (refine' tabT (ks := [100, 101, 102, 103]) (fun kvs k => stored kvs k (.ref 765)) (fun kvs k => by have := @stored_length_le Int _; first | exact Nat.le_succ_of_le (stored_length_le _ _ _) | exact Nat.le_trans (stored_length_le _ _ _) (Nat.succ_le_succ (stored_length_le _ _ _))) ?hhL3 ?FL3 ?NL3 ?axL3 ?hcL3 ?hdL3 ?hiL3 ?dmL3 ?neL3 ?ddL3 ?hzL3 ?turnL3 ?doneL3)
  case hhL3 => exact rfl
  case FL3 => k_asm
  case NL3 => k_asm
  case axL3 => k_mem
  case hcL3 => exact rfl
  case hdL3 => exact rfl
  case hiL3 => k_extra "d209"
  case ddL3 => (k_extra "d228"; exact hdX)
  case dmL3 => k_mem
  case neL3 => k_ne
  case hzL3 => exact Nat.le_of_ble_eq_true (by kernel_rfl)
  case turnL3 =>
    intro k t o' kvs' h9 tk9 own hoff hd9 hz9 F9 N9
    replace F9 : Fr g0 L' h9 _ := F9
    replace N9 : News g0 L' h9 _ := N9
    (try dsimp only)
    k_extra "z59"
    all_goals first | k_extra "d271"
  intro u9 o9 h9 tk9 hd9 F9 N9
  replace F9 : Fr g0 L' h9 _ := F9
  replace N9 : News g0 L' h9 _ := N9
  (try dsimp only)
  k_extra "z63"
  k_dflt (refine' tabR (n := 4) (fun kvs k => stored (stored kvs (104 + k) (.ref 772)) (108 + k) (.ref 779)) (fun kvs k => by have := @stored_length_le Int _; first | exact Nat.le_succ_of_le (stored_length_le _ _ _) | exact Nat.le_trans (stored_length_le _ _ _) (Nat.succ_le_succ (stored_length_le _ _ _))) ?hhL4 ?hrL4 ?hsL4 ?hnL4 ?FL4 ?NL4 ?dmL4 ?ddL4 ?hzL4 ?turnL4 ?doneL4)
  case hhL4 => exact rfl
  case hrL4 => k_asm
  case hsL4 => decide
  case hnL4 => decide
  case FL4 => k_asm
  case NL4 => k_asm
  case ddL4 => (k_extra "d228"; exact hdX)
  case dmL4 => k_mem
  case hzL4 => exact Nat.le_of_ble_eq_true (by kernel_rfl)
  case turnL4 =>
    intro k t o' kvs' h9 tk9 own hoff hd9 hz9 F9 N9
    replace F9 : Fr g0 L' h9 _ := F9
    replace N9 : News g0 L' h9 _ := N9
    (try dsimp only)
    k_extra "z59"
    all_goals first | k_extra "d271"
  intro u9 o9 h9 tk9 hd9 F9 N9
  replace F9 : Fr g0 L' h9 _ := F9
  replace N9 : News g0 L' h9 _ := N9
  (try dsimp only)
  k_extra "z63"
  k_dflt (refine' tabT (ks := [115, 116, 117]) (fun kvs k => stored kvs k (.ref 828)) (fun kvs k => by have := @stored_length_le Int _; first | exact Nat.le_succ_of_le (stored_length_le _ _ _) | exact Nat.le_trans (stored_length_le _ _ _) (Nat.succ_le_succ (stored_length_le _ _ _))) ?hhL5 ?FL5 ?NL5 ?axL5 ?hcL5 ?hdL5 ?hiL5 ?dmL5 ?neL5 ?ddL5 ?hzL5 ?turnL5 ?doneL5)
  case hhL5 => exact rfl
  case FL5 => k_asm
  case NL5 => k_asm
  case axL5 => k_mem
  case hcL5 => exact rfl
  case hdL5 => exact rfl
  case hiL5 => k_extra "d209"
  case ddL5 => (k_extra "d228"; exact hdX)
  case dmL5 => k_mem
  case neL5 => k_ne
  case hzL5 => exact Nat.le_of_ble_eq_true (by kernel_rfl)
  case turnL5 =>
    intro k t o' kvs' h9 tk9 own hoff hd9 hz9 F9 N9
    replace F9 : Fr g0 L' h9 _ := F9
    replace N9 : News g0 L' h9 _ := N9
    (try dsimp only)
    k_extra "z59"
    all_goals first | k_extra "d271"
  intro u9 o9 h9 tk9 hd9 F9 N9
  replace F9 : Fr g0 L' h9 _ := F9
  replace N9 : News g0 L' h9 _ := N9
  (try dsimp only)
  k_extra "z64"
  all_goals k_extra "d91"
end
section
noncomputable def kvShi : List (Int × Value) := List.foldl (fun kvs k => stored kvs k (.ref 905)) (stored (stored ([(48, .ref 945), (49, .ref 945), (50, .ref 863), (51, .ref 863), (52, .ref 884), (53, .ref 884), (56, .ref 898)]) 54 (.ref 891)) 55 (.ref 891)) [93, 113, 114]
set_option maxHeartbeats 1500000 in
theorem shiftops_ct (hd : dp + 1 < recursionLimit) (hu : un + 74 < cLine) (P : Pre w hH [] [])
    (hr : ∀ h' tk' d o (hdo : o.IsDictOf (PySem.intKind PR w) kvShi) (hlo : (d == sysModules) = false), Post hH h' [] [] [(d, o)] → R (.ok (.ret (.ref d))) ⟨h', gG, dD, tk', oO⟩) : codeAny (model PR w) (AA dp un fr gd) (.call (.ref 952) ⟨[], []⟩) R ⟨hH, gG, dD, tT, oO⟩ := by
  k_extra "d205"; k_extra "ENT"; k_extra "d261"; (clear hT)
  k_extra "z65"
  k_dflt (refine' tabT (ks := [93, 113, 114]) (fun kvs k => stored kvs k (.ref 905)) (fun kvs k => by have := @stored_length_le Int _; first | exact Nat.le_succ_of_le (stored_length_le _ _ _) | exact Nat.le_trans (stored_length_le _ _ _) (Nat.succ_le_succ (stored_length_le _ _ _))) ?hhL1 ?FL1 ?NL1 ?axL1 ?hcL1 ?hdL1 ?hiL1 ?dmL1 ?neL1 ?ddL1 ?hzL1 ?turnL1 ?doneL1)
  case hhL1 => exact rfl
  case FL1 => k_asm
  case NL1 => k_asm
  case axL1 => k_mem
  case hcL1 => exact rfl
  case hdL1 => exact rfl
  case hiL1 => k_extra "d209"
  case ddL1 => (k_extra "d228"; exact hdX)
  case dmL1 => k_mem
  case neL1 => k_ne
  case hzL1 => exact Nat.le_of_ble_eq_true (by kernel_rfl)
  case turnL1 =>
    intro k t o' kvs' h9 tk9 own hoff hd9 hz9 F9 N9
    replace F9 : Fr g0 L' h9 _ := F9
    replace N9 : News g0 L' h9 _ := N9
    (try dsimp only)
    k_extra "z59"
    all_goals first | k_extra "d271"
  intro u9 o9 h9 tk9 hd9 F9 N9
  replace F9 : Fr g0 L' h9 _ := F9
  replace N9 : News g0 L' h9 _ := N9
  (try dsimp only)
  k_extra "z66"
  all_goals k_extra "d91"
end
section
theorem ne_nd {a : Addr} {o : Obj} (nd : (b :: ads N).Nodup) (h : (a, o) ∈ N) : a ≠ b := fun e => (List.nodup_cons.mp nd).1 (e ▸ ads_mem h)
theorem upd2 {A : Around} {E : Value → Shared → Prop} {o o2 : Obj} {kvs2 : List (Int × Value)} (F : Fr g L h m) (Nw : News g L h N) (hd : o.IsDictOf (PySem.intKind PR w) kvs) (hd2 : o2.IsDictOf (PySem.intKind PR w) kvs2) (h1 : (d, o) ∈ N) (h2 : (e, o2) ∈ N) (hne : d ≠ e) (lo : (e == sysModules) = false) (hsz : kvs.length + kvs2.length ≤ 2000)
    (k : ∀ h' o', Fr g L h' m → News g L h' [(d, o')] → o'.IsDictOf (PySem.intKind PR w) (merged kvs kvs2) → Q .none ⟨h', gs, dr, tk, os⟩) : wpAny (model PR w) A (call (.builtin "dict.update") [.ref d, .ref e]) Q E ⟨h, gs, dr, tk, os⟩ :=
  upd_K (own := []) (s := ⟨h, gs, dr, tk, os⟩) (rest := [(e, o2)]) F (fun p hp => by
    rcases List.mem_cons.mp hp with rfl | hp
    · exact Nw _ h1
    · rw [List.mem_singleton.mp hp]; exact Nw _ h2) (List.nodup_cons.mpr ⟨fun q => hne (List.mem_singleton.mp q), List.nodup_cons.mpr ⟨(fun q => nomatch q), List.nodup_nil⟩⟩) (.head _) hd hd2 lo hsz fun h' o' F' N' hd' => k h' o' F' (fun p hp => N' p (by rw [List.mem_singleton.mp hp]; exact .head _)) hd'
noncomputable def kvPoi : List (Int × Value) := merged (merged kvMark kvRel) kvShi
noncomputable def kvAll : List (Int × Value) := merged (merged kvStk kvVec) kvPoi
theorem pointops_ct (hd : dp + 2 < recursionLimit) (hu : un + 78 < cLine) (P : Pre w hH [] [])
    (hr : ∀ h' tk' d o (hdo : o.IsDictOf (PySem.intKind PR w) kvPoi) (hlo : (d == sysModules) = false), Post hH h' [] [] [(d, o)] → R (.ok (.ret (.ref d))) ⟨h', gG, dD, tk', oO⟩) : codeAny (model PR w) (AA dp un fr gd) (.call (.ref 959) ⟨[], []⟩) R ⟨hH, gG, dD, tT, oO⟩ := by
  k_extra "d205"; k_extra "ENT"; k_extra "d261"; (clear hT)
  k_extra "z67"
  all_goals first | k_extra "d91" | k_extra "ABS"
theorem allops_ct (hd : dp + 3 < recursionLimit) (hu : un + 82 < cLine) (P : Pre w hH [] [])
    (hr : ∀ h' tk' d o (hdo : o.IsDictOf (PySem.intKind PR w) kvAll) (hlo : (d == sysModules) = false), Post hH h' [] [] [(d, o)] → R (.ok (.ret (.ref d))) ⟨h', gG, dD, tk', oO⟩) : codeAny (model PR w) (AA dp un fr gd) (.call (.ref 1085) ⟨[], []⟩) R ⟨hH, gG, dD, tT, oO⟩ := by
  k_extra "d205"; k_extra "ENT"; k_extra "d261"; (clear hT)
  k_extra "z68"
  all_goals first | k_extra "d91" | k_extra "ABS"
theorem tblAll : Tbl kvAll := ⟨by kernel_rfl, by kernel_rfl, by kernel_rfl, by kernel_rfl, by kernel_rfl, by kernel_rfl, by kernel_rfl, by kernel_rfl, by kernel_rfl, by kernel_rfl, by kernel_rfl, by kernel_rfl, by kernel_rfl, by kernel_rfl⟩
end
section
theorem millI_ct {vs : Array Value} {sl : Array (Option Value)} {u : Str} (hd : dp + 3 < recursionLimit) (hu : un + 82 < cLine) (P : Pre w hH [(e, ⟨.ref (nat_lit 44), none, .fields vs, sl⟩)] [])
    (hr : ∀ h' tk' dx, Post hH h' [(e, ⟨.ref (nat_lit 44), none, .fields vs, sl⟩)] [(e, ⟨.ref (nat_lit 44), some dx, .fields vs, sl⟩)] [] → R (.ok (.ret .none)) ⟨h', gG, dD, tk', oO⟩) : codeAny (model PR w) (AA dp un fr gd) (.call (.ref 28) ⟨[.ref e, .str u tu], []⟩) R ⟨hH, gG, dD, tT, oO⟩ := by
  (k_dflt (refine' enter (binds := [(Str.ofString "self", .ref e), (Str.ofString "message", .str u tu)]) ?k1 ?k6 ?k7 ?k8 ?k9 ?kB ?_ ?c2 ?c3 ?c4 ?c5)); k_extra "ENT"; k_extra "d261"; (clear hT)
  k_extra "z69"
  all_goals first | (apply hr; k_extra "P0") | (apply hr; k_extra "P1") | k_extra "ABS"
noncomputable abbrev fltO (dx t : Addr) : Obj := ⟨.ref (nat_lit 44), some dx, .fields #[.ref t, .none, .none, .none, .bool false, .none], #[]⟩
theorem under_call {A : Around} {C : Addr} {pos : List Value} (hh : A.handled = none) : ∃ fr gd, A.under (.builtin "type.__call__" ⟨.ref C :: pos, []⟩) = AA (A.depth + 1) (A.units + 1) fr gd := by
  obtain ⟨h, d, f, g, u⟩ := A
  cases hh
  exact ⟨_, _, rfl⟩
theorem fault_call {A : Around} {E : Value → Shared → Prop} {u : Str}
    (hh : A.handled = none) (hd : A.depth + 4 < recursionLimit) (hu : A.units + 84 < cLine) (F : Fr g L h m) (X : (KK w.params).In g) (Tp : Top VW lo mean mg mb g)
    (hq : ∀ h' e t dx tk', (∀ b o, h.get? b = some o → h'.get? b = some o) → h.get? e = none → h'.get? e = some (fltO dx t) → Q (.ref e) ⟨h', gs, dr, tk', os⟩) :
    wpAny (model PR w) A (call (.ref (nat_lit 44)) [.str u tu]) Q E ⟨h, gs, dr, tk, os⟩ := by
  have X1 := X.keeps F.keep
  have hC : h.get? (nat_lit 44) = some (excClassObj (S "HintFault") (S "HintFault") (nat_lit 44) (nat_lit 43) [.ref (nat_lit 31)] (.ref (nat_lit 31) :: [.type "Exception", .type "BaseException", .type "object"]) true [] [] false none none (some (.ref (nat_lit 35))) none (some (.str (S "HintFault") (nat_lit 218))) (some (.str (S "HintFault") (nat_lit 226))) (some (.bool true)) "Exception.__new__") := X1 _ _ rfl
  have f1 := tc_lookup
  have f2 := tc_bind (.ref (nat_lit 44))
  have hT : (⟨h, gs, dr, tk, os⟩ : Shared).TypeIs (.ref (nat_lit 44)) "type" := ⟨_, hC, rfl⟩
  refine wpAny_call (codeAny_of_tree ?_)
  show wpAny _ _ (callAny (.ref (nat_lit 44)) _) _ _ _
  repeat (any_goals (first | assumption | with_reducible refine wpAny_loadPart_at hC ?_ | wp_step))
  refine ⟨rfl, ?_⟩
  refine codeAny_call_builtin_at (Code.quiet_builtin _ (by decide +kernel)) entry_typeCall (wpAny_check_type_call_sub hC (exc_call_type (fI := nat_lit 28) PySem.F.excBase_Exception X1 hC (by k_is) (X1 _ _ rfl) rfl (fun h1 e hm => ?_) (by rw [sizeLine_eq]; exact Nat.le_of_ble_eq_true rfl)))
  obtain ⟨fr, gd, eA⟩ := under_call (A := A) (C := nat_lit 44) (pos := [.str u tu]) hh
  obtain ⟨t, he, -, -⟩ := hm.there
  have F1 : Fr g L h1 m := by
    obtain ⟨oL, es, ep, hL, r⟩ := F.ns
    exact ⟨⟨oL, es, ep, hm.keeps _ _ hL, r⟩, fun b o z => hm.keeps _ _ (F.keep b o z), F.above⟩
  have ge : g.get? e = none := by
    cases q : g.get? e with
    | none => rfl
    | some o => have := F.keep _ _ q; rw [hm.new] at this; cases this
  have eL : e ≠ L := fun q => by
    obtain ⟨oL, es, ep, hL, r⟩ := F.ns
    have := hm.new
    rw [q, hL] at this; cases this
  have N1 : News g L h1 [(e, ⟨.ref (nat_lit 44), none, .fields #[.ref t, .none, .none, .none, .bool false, .none], #[]⟩)] := fun p hp => by
    rcases List.mem_singleton.mp hp with rfl
    exact ⟨he, eL, ge⟩
  have nd1 : (ads [(e, (⟨.ref (nat_lit 44), none, .fields #[.ref t, .none, .none, .none, .bool false, .none], #[]⟩ : Obj))]).Nodup := show ([e] : List Nat).Nodup from List.nodup_cons.mpr ⟨fun z => (nomatch z), List.nodup_nil⟩
  show wpAny _ (A.under (.builtin "type.__call__" ⟨[.ref (nat_lit 44), .str u tu], []⟩)) (call (.ref (nat_lit 28)) [.ref e, .str u tu]) _ _ _
  rw [eA]
  refine callR (millI_ct (by (k_extra "o")) (by (k_extra "o")) (Pre.of F1 N1 nd1 (List.Sublist.refl _) X Tp fun _ _ => Facts.nil) fun h2 tk2 dx P2 => ?_)
  refine ⟨rfl, hq h2 e t dx tk2 (fun b o z => P2.kept b o (fun q => ?_) (hm.keeps _ _ z)) hm.new (P2.led _ (.head _))⟩
  rcases List.mem_cons.mp q with q | q
  · have : b = e := q
    rw [this, hm.new] at z; cases z
  · cases q
theorem raise_flt {M : Model} {A : Around} {E : Value → Shared → Prop} {hp : Heap} {ex : Expr} {Q : Flow → Shared → Prop} (hh : A.handled = none)
    (h : wpAny M A (eval ex env) (fun v s₁ => ∃ e t dx, v = .ref e ∧ (KK w.params).In s₁.heap ∧ s₁.heap.get? e = some (fltO dx t) ∧ E (.ref e) s₁) E ⟨hp, gs, dr, tk, os⟩) : wpAny M A (exec (.Raise (some ex) none pos) env) Q E ⟨hp, gs, dr, tk, os⟩ :=
  raise_own (C := nat_lit 44) (nm := S "HintFault") (q := S "HintFault") (N := nat_lit 43) (bs := [.ref (nat_lit 31)]) (bm := .ref (nat_lit 31) :: [.type "Exception", .type "BaseException", .type "object"]) (hdct := true) (sn := []) (sub := []) (ab := false) (col := none) (dd := none) (k0 := some (.ref (nat_lit 35))) (k1 := none) (k2 := some (.str (S "HintFault") (nat_lit 218))) (k3 := some (.str (S "HintFault") (nat_lit 226))) (k5 := some (.bool true)) (newId := "Exception.__new__")
    (by decide +kernel) hh (wpAny_mono h (fun v s1 h1 => by obtain ⟨e, t, dx, a, b, c, d⟩ := h1; exact ⟨e, t, dx, a, b _ _ rfl, c, d⟩) fun _ _ x => x)
end
section
theorem fault_text (h : a.natAbs.log2 < 1920) : (Str.ofString "there is no point ").length + (Str.ofString (toString a)).length ≤ sizeLine := by
  have e := int_text_length_le (k := 1920) (by decide) h
  rw [PySem.ofString_length, PySem.ofString_length, sizeLine_eq, show "there is no point ".length = 18 from rfl]; (k_extra "o")
theorem checkF_ct (O : Outs outer frs) (hd : dp + 5 < recursionLimit) (hu : un + 90 < cLine) (P : Pre w hH frs [.obj z (instObj 1300 zd), .obj zd (znD w zt o c th e b), .obj c (lsO [.ref r0, .ref r1, .ref r2] n)]) (ib : i.natAbs.log2 < 1920) (ix : ¬ (0 ≤ i ∧ i < 3))
    (hr : ∀ h' tk' e , PostE hH h' [] [] frs outer e → R (.error (.ref e)) ⟨h', gG, dD, tk', oO⟩) : codeAny (model PR w) (AA dp un (some outer) gd) (.call (.ref 1283) ⟨[.ref z, .int i t], []⟩) R ⟨hH, gG, dD, tT, oO⟩ := by
  k_extra "d106"; k_extra "ENT"; (dsimp only [Facts] at hT); (obtain ⟨hT0, hT1, hT2, _⟩ := hT)
  k_extra "z70"
  all_goals first
    | exact X'.keeps (fun b o z => kE _ _ (Fr.keep (by k_extra "w") b o z))
    | (refine' leaveE0 (hA := rfl) (O := O) (hk := rfl) (G := G') (F := F') (Nw := N') (nd := nd') (objs0 := []) (objs0' := []) (S := List.Sublist.refl _) (keep := kE) (new := nE) (he := gE) (hc := rfl) (hd := rfl) (h1 := rfl) (h0' := rfl) (hQ := ?_); intro hZ PZ; exact hr _ _ _ PZ)
end
section
theorem Pre.ofLk (F : Fr g L h m) (Nw : News g L h N) (nd : (ads N).Nodup) (S : objs.Sublist N) (X : (KK w.params).In g) (Tp : Top VW lo mean mg mb g)
    (fs : FsP g N objs T) (k : ∀ oL es n, h.get? L = some oL → oL.data = .dict es n → Pre w h ((L, oL) :: objs) T → G) : G := by
  obtain ⟨oL, es, n, a, b, c⟩ := Pre.ofL F Nw nd S X Tp fs
  exact k oL es n a b c
theorem placeF_ct {S : Addr} (O : Outs outer frs) (hd : dp + 6 < recursionLimit) (hu : un + 94 < cLine) (P : Pre w hH frs [.obj S (instObj 1130 Sd), .obj Sd (gsD w gt gk f p d rp0 rp1 rp2 zp0 zp1 zp2 lp rd), .obj z (instObj 1300 zd), .obj zd (znD w zt o c th e b), .obj c (lsO [.ref r0, .ref r1, .ref r2] n)]) (ib : i.natAbs.log2 < 1920) (ix : ¬ (0 ≤ i ∧ i < 3))
    (hr : ∀ h' tk' e , PostE hH h' [] [] frs outer e → R (.error (.ref e)) ⟨h', gG, dD, tk', oO⟩) : codeAny (model PR w) (AA dp un (some outer) gd) (.call (.ref 388) ⟨[.ref S, .ref z, .int i t], []⟩) R ⟨hH, gG, dD, tT, oO⟩ := by
  k_extra "d81"; k_extra "ENT"; (dsimp only [Facts] at hT); (obtain ⟨hT0, hT1, hT2, hT3, hT4, _⟩ := hT)
  k_extra "z71"
  all_goals (refine' leaveE (hA := rfl) (O := O) (G := G') (F := by k_extra "w") (Nw := by k_extra "w") (nd := by first | k_extra "w" | k_extra "d313") (objs0 := []) (objs0' := []) (P := P9) (E1 := by k_extra "d42") (S := by k_extra "d33") (hQ := ?_); intro hZ PZ; exact hr _ _ _ PZ)
end
section
theorem mdapF_ct {S : Addr} (O : Outs outer frs) (hd : dp + 7 < recursionLimit) (hu : un + 98 < cLine) (P : Pre w hH ((l, lsO [.int i ti] n0) :: frs) [.obj W (instObj 1244 Wd), .obj Wd (wkD w wt wn S k zs cv sg sc), .obj k (instObj 1193 kd), .obj kd (stkD w ts tm l), .obj S (instObj 1130 Sd), .obj Sd (gsD w gt gk f p d rp0 rp1 rp2 (.int 0 h0) zp1 zp2 lp rd), .obj zs (lsO [.ref z, .ref zb] nz), .obj z (instObj 1300 zd), .obj zd (znD w zt o c th e b), .obj c (lsO [.ref r0, .ref r1, .ref r2] n)]) (ib : i.natAbs.log2 < 1920) (ix : ¬ (0 ≤ i ∧ i < 3))
    (hr : ∀ h' tk' e n2, PostE hH h' [(l, lsO [.int i ti] n0)] [(l, lsO [] n2)] frs outer e → R (.error (.ref e)) ⟨h', gG, dD, tk', oO⟩) : codeAny (model PR w) (AA dp un (some outer) gd) (.call (.ref 592) ⟨[.ref W, .int 46 tc], []⟩) R ⟨hH, gG, dD, tT, oO⟩ := by
  k_extra "d101"; k_extra "ENT"; (dsimp only [Facts] at hT); (obtain ⟨hT0, hT1, hT2, hT3, hT4, hT5, hT6, hT7, hT8, hT9, _⟩ := hT)
  k_extra "z72"
  all_goals (refine' leaveE (hA := rfl) (O := O) (G := G') (F := by k_extra "w") (Nw := by k_extra "w") (nd := by first | k_extra "w" | k_extra "d313") (objs0 := [(l, lsO [.int i ti] n0)]) (objs0' := [(l, lsO [] _)]) (P := P9) (E1 := by k_extra "d42") (S := by k_extra "d33") (hQ := ?_); intro hZ PZ; exact hr _ _ _ _ PZ)
end
section
noncomputable def OpE (w : World) (f W : Addr) (op : Int) (Ω : Objs) (T : List Fact) (Rel : Objs → Prop) : Prop := ∀ {dp un : Nat} {outer : List Env} {frs : Objs} {gd : Option (List Code)} {hH : Heap} {gG : Array GenState} {dD : Drawn} {tT : Nat} {oO : OsState} {R : Result → Shared → Prop} {tc : Tok}, Outs outer frs →
  dp + 7 < recursionLimit → un + 98 < cLine → Pre w hH (Ω ++ frs) T → (∀ h' tk' e Ω', Rel Ω' → PostE hH h' Ω Ω' frs outer e → R (.error (.ref e)) ⟨h', gG, dD, tk', oO⟩) → codeAny (model PR w) (AA dp un (some outer) gd) (.call (.ref f) ⟨[.ref W, .int op tc], []⟩) R ⟨hH, gG, dD, tT, oO⟩
theorem stepF_ct {fn : Addr} {tk : Tok} {k : Int} {b : Array UInt8} {Rel : Objs → Prop} (O : Outs outer frs)
    (hd : dp + 9 < recursionLimit) (hu : un + 110 < cLine) (P : Pre w hH ((pld, plD w pt b tb (.int i ti) cl tmc) :: (Ω ++ frs)) (.obj M (instObj 279 md) :: .obj md (mcD w mt tms pl W od fn (.int k tk)) :: .obj pl (instObj 173 pld) :: .obj od (oo) :: T))
    (hk : KBw.bInts b = ks) (hz : ks.length ≤ 1000) (i0 : 0 ≤ i) (i1 : i < ks.length) (hop0 : ks.getD i.toNat 0 = op) (o1 : op ≠ 64) (o2 : op ≠ 65) (o3 : op < 176)
    (x1 : ([88, 27, 89] : List Int).any (fun x => x == op) = false) (x2 : ([28, 120, 121] : List Int).any (fun x => x == op) = false) (x3 : ([43, 42, 44, 137, 45] : List Int).any (fun x => x == op) = false)
    (hdo : oo.IsDictOf (PySem.intKind PR w) kvs) (hlo : (od == sysModules) = false) (hf : valueAt kvs op = some (.ref f)) (hkf : keepIn (KK w.params) (.ref f) = true) (hop : OpE w f W op Ω T Rel) (hra : ∀ Ω', Rel Ω' → ads Ω' = ads Ω)
    (hr : ∀ h' tk' e Ω' t', Rel Ω' → PostE hH h' ((pld, plD w pt b tb (.int i ti) cl tmc) :: Ω) ((pld, plD w pt b tb (.int (i + 1) t') cl tmc) :: Ω') frs outer e → R (.error (.ref e)) ⟨h', gG, dD, tk', oO⟩) : codeAny (model PR w) (AA dp un (some outer) gd) (.call (.ref 255) ⟨[.ref M], []⟩) R ⟨hH, gG, dD, tT, oO⟩ := by
  k_extra "d142"; k_extra "ENT"; (dsimp only [Facts] at hT); (obtain ⟨hT0, hT1, hT2, hT3, _⟩ := hT)
  k_extra "z73"
  all_goals (refine' leaveE (hA := rfl) (O := O) (G := G') (F := by k_extra "w") (Nw := N8) (nd := by assumption) (objs0 := (pld, plD w pt b tb (.int i ti) cl tmc) :: Ω) (objs0' := (pld, _) :: Ω') (P := P9) (E1 := .skip ((Emb.all (hra _ hrel)).post frs)) (S := List.Sublist.refl _) (hQ := ?_); intro hZ PZ; exact hr _ _ _ _ _ hrel PZ)
end
section
noncomputable def StepE (w : World) (c : MC) (i : Int) (Ω : Objs) (T : List Fact) (Rel : Objs → Prop) : Prop := ∀ {dp un : Nat} {outer : List Env} {frs : Objs} {gd : Option (List Code)} {hH : Heap} {gG : Array GenState} {dD : Drawn} {tT : Nat} {oO : OsState} {R : Result → Shared → Prop} {k : Int} {tk ti : Tok}, Outs outer frs →
  dp + 9 < recursionLimit → un + 110 < cLine → Pre w hH (c.pO w i ti :: (Ω ++ frs)) (c.F w k tk T) →
  (∀ h' tk' e Ω' t', Rel Ω' → PostE hH h' (c.pO w i ti :: Ω) (c.pO w (i + 1) t' :: Ω') frs outer e → R (.error (.ref e)) ⟨h', gG, dD, tk', oO⟩) → codeAny (model PR w) (AA dp un (some outer) gd) (.call (.ref 255) ⟨[.ref c.M], []⟩) R ⟨hH, gG, dD, tT, oO⟩
noncomputable abbrev GoesF (w : World) (c : MC) (n0 : Int) (T0 : List Fact) (Fin : Objs → Objs → Prop) : Nat → Int → Objs → Objs → Prop := GoesG w c n0 T0 fun i Ω Nw => 0 ≤ i ∧ i < n0 ∧ ∃ T Rel, StepE w c i Ω T Rel ∧ (∀ H, Facts H T0 → (∀ p ∈ Nw, H.get? p.1 = some p.2) → Facts H T) ∧ ∀ Ω', Rel Ω' → ads Ω' = ads Ω ∧ Fin Ω' Nw
theorem GoesF.bd {c : MC} {n0 : Int} (G : GoesF w c n0 T0 Fin n i Ω Nw) : 0 ≤ i ∧ i < n0 := by cases n <;> exact ⟨G.1, G.2.1⟩
theorem StepC.frame {c : MC} {i' : Int} (h : StepC w c i i' Ω T Rel) (ha : ∀ Ω' new, Rel Ω' new → ads Ω' = ads Ω) (frs : Objs) : StepC w c i i' (Ω ++ frs) T (fun Ω' new => ∃ Ω1, Ω' = Ω1 ++ frs ∧ Rel Ω1 new) := by
  intro dp un fr gd hH gG dD tT oO R k tk ti hd hu P hr
  exact h hd hu (P.narrow (.cons_cons _ (List.sublist_append_left _ _)) fun _ _ a B => Facts.mono (fun _ _ z => B.go z) a) fun h' tk' Ω' new t' r Q => hr h' tk' _ new t' ⟨Ω', rfl, r⟩ (Q.widen P.led P.nd (.take ((Emb.all (ha _ _ r)).post frs)))
theorem runF_ct {c : MC} {tk : Tok} (O : Outs outer frs)
    (hd : dp + 11 < recursionLimit) (hu : un + 130 < cLine) (hk : KBw.bInts c.b = ks) (hz : ks.length ≤ 1000) (P : Pre w hH (c.mO w 0 tk :: (c.cl, lsO [] c.nc) :: c.pO w 0 ti :: (Ω ++ frs)) (.obj c.M (instObj 279 c.md) :: .obj c.pl (instObj 173 c.pld) :: T0))
    (hn : (n : Int) < 9000) (G : GoesF w c ks.length T0 Fin n 0 Ω [])
    (hr : ∀ h' tk' e Ω' Nw k tk'' i ti', ads Ω' = ads Ω → Fin Ω' Nw → PostE hH h' (c.mO w 0 tk :: (c.cl, lsO [] c.nc) :: c.pO w 0 ti :: Ω) (c.mO w k tk'' :: (c.cl, lsO [] c.nc) :: c.pO w i ti' :: Ω') frs outer e → R (.error (.ref e)) ⟨h', gG, dD, tk', oO⟩) : codeAny (model PR w) (AA dp un (some outer) gd) (.call (.ref 248) ⟨[.ref c.M], []⟩) R ⟨hH, gG, dD, tT, oO⟩ := by
  k_extra "d132"; k_extra "ENT"; (dsimp only [Facts] at hT); (obtain ⟨hT0, hT1, _⟩ := hT)
  have hX : Facts g0 T0 := ‹_›
  k_extra "z74"
  all_goals first
    | k_extra "d68"
    | (refine' leaveE (hA := rfl) (O := O) (G := G') (F := by k_extra "w") (Nw := by k_extra "w") (nd := by assumption) (objs0 := c.mO w 0 tk :: (c.cl, lsO [] c.nc) :: c.pO w 0 ti :: Ω) (objs0' := c.mO w _ _ :: (c.cl, lsO [] c.nc) :: c.pO w (_) _ :: Ω9) (P := P9) (E1 := .skip (.skip (.take (((Emb.all ha9).post frs).post Nw)))) (S := .cons_cons _ (.cons_cons _ (.cons_cons _ (List.sublist_append_left _ _)))) (hQ := ?_); intro hZ PZ; exact hr _ _ _ _ _ _ _ _ _ (ha9.trans ha1) hfin9 PZ)
end
section
theorem PostE.widen {objs' : Objs} (Q : PostE h h' objs objs' frs outer e) (L : ∀ p ∈ N ++ frs, h.get? p.1 = some p.2) (nd : (ads (N ++ frs)).Nodup) (E : Emb objs objs' N N') : PostE h h' N N' frs outer e := by
  obtain ⟨B, a0, f1, k1, k2, k3⟩ := Q
  rw [ads_app, List.nodup_append] at nd
  refine ⟨B, a0, f1, fun b o h1 h2 q => k1 b o (fun z => h1 ((E.sub.map (·.1)).subset z)) h2 q, fun p hp => ?_, k3⟩
  rcases E.cases nd.1 p hp with q | ⟨q, n⟩
  · exact k2 p q
  · exact k1 _ _ n (fun z => nd.2.2 _ (ads_mem q) _ z rfl) (L p (List.mem_append_left _ q))
theorem stepOE {c : MC} {Rel : Objs → Prop} (Y : Sys w c ks oo kvs) (C : Cds ks i (op :: r)) (k : OpOk op) (hf : valueAt kvs op = some (.ref f)) (hkf : keepIn (KK w.params) (.ref f) = true) (hop : OpE w f c.W op Ω T Rel) (hra : ∀ Ω', Rel Ω' → ads Ω' = ads Ω) :
    StepE w c i Ω (.obj c.od oo :: T) Rel := by
  have hl := C.len (List.cons_ne_nil _ _)
  rw [List.length_cons] at hl
  intro dp un outer frs gd hH gG dD tT oO R k' tk ti O hd hu P hr
  exact stepF_ct O hd hu P Y.hk Y.hz C.i0 (by (k_extra "o")) C.at k.o1 k.o2 k.o3 k.x1 k.x2 k.x3 Y.hdo Y.hlo hf hkf hop hra hr
theorem oUF46 (ib : i.natAbs.log2 < 1920) (ix : ¬ (0 ≤ i ∧ i < 3)) : OpE w 592 W 46 [((qa (nat_lit 8)), lsO [.int i ti] n0), ((qa (nat_lit 9)), gsD w gt gk (qa (nat_lit 10)) (qa (nat_lit 11)) d rp0 rp1 rp2 (.int 0 h0) zp1 zp2 lp rd), ((qa (nat_lit 16)), lsO [.ref r0, .ref r1, .ref r2] n), (ai, lsO [.bool b0, .bool b1] m2)] (.tup r2 [.int x2 p2x, .int 5 p2y] :: .tup ri [.int x tx, .int y ty] :: fctU w W qa qt qk qv qi qn qb) (fun Ω' => ∀ K : Objs → Prop, (∀ n2, K [((qa (nat_lit 8)), lsO [] n2), ((qa (nat_lit 9)), gsD w gt gk (qa (nat_lit 10)) (qa (nat_lit 11)) d rp0 rp1 rp2 (.int 0 h0) zp1 zp2 lp rd), ((qa (nat_lit 16)), lsO [.ref r0, .ref r1, .ref r2] n), (ai, lsO [.bool b0, .bool b1] m2)]) → K Ω') := by
  intro dp un outer frs gd hH gG dD tT oO R tc O hd hu P hr
  have P2 := P.narrow (objs := ((qa (nat_lit 8)), lsO [.int i ti] n0) :: frs) (T' := [.obj W (instObj 1244 (qa (nat_lit 0))), .obj (qa (nat_lit 0)) (wkD w (qt (nat_lit 0)) (qt (nat_lit 1)) (qa (nat_lit 1)) (qa (nat_lit 2)) (qa (nat_lit 3)) (qa (nat_lit 4)) (qa (nat_lit 5)) (qa (nat_lit 6))), .obj (qa (nat_lit 2)) (instObj 1193 (qa (nat_lit 7))), .obj (qa (nat_lit 7)) (stkD w (qt (nat_lit 2)) (qk (nat_lit 0)) (qa (nat_lit 8))), .obj (qa (nat_lit 1)) (instObj 1130 (qa (nat_lit 9))), .obj (qa (nat_lit 9)) (gsD w gt gk (qa (nat_lit 10)) (qa (nat_lit 11)) d rp0 rp1 rp2 (.int 0 h0) zp1 zp2 lp rd), .obj (qa (nat_lit 3)) (lsO [.ref (qa (nat_lit 12)), .ref (qa (nat_lit 13))] (qn (nat_lit 0))), .obj (qa (nat_lit 12)) (instObj 1300 (qa (nat_lit 14))), .obj (qa (nat_lit 14)) (znD w (qt (nat_lit 3)) (qa (nat_lit 15)) (qa (nat_lit 16)) (qa (nat_lit 17)) (qa (nat_lit 18)) (qa (nat_lit 19))), .obj (qa (nat_lit 16)) (lsO [.ref r0, .ref r1, .ref r2] n)]) (by k_extra "d34") (fun g9 H9 hT B9 => (fun hM => @Facts.app H9 (pkm [false, false, true, true, true, true, true] (.tup r2 [.int x2 p2x, .int 5 p2y] :: .tup ri [.int x tx, .int y ty] :: fctU w W qa qt qk qv qi qn qb)) [.obj (qa (nat_lit 9)) (gsD w gt gk (qa (nat_lit 10)) (qa (nat_lit 11)) d rp0 rp1 rp2 (.int 0 h0) zp1 zp2 lp rd), .obj (qa (nat_lit 3)) (lsO [.ref (qa (nat_lit 12)), .ref (qa (nat_lit 13))] (qn (nat_lit 0))), .obj (qa (nat_lit 12)) (instObj 1300 (qa (nat_lit 14))), .obj (qa (nat_lit 14)) (znD w (qt (nat_lit 3)) (qa (nat_lit 15)) (qa (nat_lit 16)) (qa (nat_lit 17)) (qa (nat_lit 18)) (qa (nat_lit 19))), .obj (qa (nat_lit 16)) (lsO [.ref r0, .ref r1, .ref r2] n)] (Facts.pk [false, false, true, true, true, true, true] hM) (Facts.obj (B9.no (by (k_extra "d24"; first | done | fail))) (@Facts.app H9 (pkm [false, false, false, false, false, false, false, true, true, true] (.tup r2 [.int x2 p2x, .int 5 p2y] :: .tup ri [.int x tx, .int y ty] :: fctU w W qa qt qk qv qi qn qb)) [.obj (qa (nat_lit 16)) (lsO [.ref r0, .ref r1, .ref r2] n)] (Facts.pk [false, false, false, false, false, false, false, true, true, true] hM) (Facts.obj (B9.no (by (k_extra "d24"; first | done | fail))) (Facts.nil))))) (Facts.mono (fun _ _ z => B9.go z) hT))
  refine mdapF_ct O (by (k_extra "o")) (by (k_extra "o")) P2 ib ix fun h' tk' e n2 Q => ?_
  exact hr _ _ _ _ (fun K k => k n2) (Q.widen P.led P.nd (.take (Emb.none _)))
theorem go_secondF {c : MC} (Y : Sys w c [176, 0, 22, 176, 2, 70, 46] oo kvs) (B' : Tbl kvs) (ib : (wrapZ x2).natAbs.log2 < 1920) (ix : ¬ (0 ≤ wrapZ x2 ∧ wrapZ x2 < 3)) :
    GoesF w c 7 (.obj c.od oo :: .tup r2 [.int x2 p2x, .int 5 p2y] :: .tup ri [.int x tx, .int y ty] :: fctU w c.W qa qt qk qv qi qn qb) (fun Ω Nw => ∀ K : Objs → Objs → Prop, (∀ n2 t, K [((qa (nat_lit 8)), lsO [] n2), ((qa (nat_lit 9)), gsD w gt gk (qa (nat_lit 10)) (qa (nat_lit 11)) d rp0 rp1 rp2 (.int 0 t) (.int 0 t) (.int 0 t) lp rd), ((qa (nat_lit 16)), lsO [.ref r0, .ref r1, .ref r2] n), (ai, lsO [.bool b0, .bool b1] m2)] []) → K Ω Nw) 4 0 [((qa (nat_lit 8)), lsO [] n0), ((qa (nat_lit 9)), gsD w gt gk (qa (nat_lit 10)) (qa (nat_lit 11)) d rp0 rp1 rp2 zp0 zp1 zp2 lp rd), ((qa (nat_lit 16)), lsO [.ref r0, .ref r1, .ref r2] n), (ai, lsO [.bool b0, .bool b1] m2)] [] := by
  refine Goes.p176a Y (C := ⟨by decide, rfl⟩) (fun _ h _ => Facts.pk [false, false, false, true, true, true, true] h) fun u n1 C => ?_
  rw [wz0]
  refine Goes.opr Y C ok22 B'.a22 keep1036 oU22 (fun _ _ r => r (fun x _ => ads x = _) fun _ => rfl) (fun _ h _ => h) ?_
  intro Ω9 N9 r9; apply r9; clear r9 Ω9 N9; intro n2 C
  refine ⟨[], List.Sublist.refl _, ?_⟩
  refine Goes.p176a Y C (fun _ h _ => Facts.pk [false, false, false, true, true, true, true] h) fun u n1 C => ?_
  rw [wz2]
  refine Goes.opr Y C ok70 B'.a70 keep445 oU70 (fun _ _ r => r (fun x _ => ads x = _) fun _ _ => rfl) (fun _ h _ => h) ?_
  intro Ω9 N9 r9; apply r9; clear r9 Ω9 N9; intro t n3 C
  refine ⟨[], List.Sublist.refl _, ?_⟩
  refine ⟨C.i0, by decide, _, _, stepOE Y C ok46 B'.a46 keep592 (oUF46 (ib := ib) (ix := ix)) (fun _ r => r (fun x => ads x = _) fun _ => rfl), fun _ h _ => h, ?_⟩
  intro Ω9 r9; apply r9; clear r9 Ω9; intro n2
  exact ⟨rfl, fun K k => k ..⟩
end
section
theorem isl' {a : Addr} {l : List Value} (h : g.get? a = some (lsO l n)) : g.IsList a l.toArray := ⟨_, h, rfl, _, rfl⟩
theorem PostE.perm {o1 o1' o2 o2' : Objs} (p : o1.Perm o2) (q : o1'.Perm o2') (Q : PostE h h' o1 o1' frs outer e) : PostE h h' o2 o2' frs outer e := by
  obtain ⟨B, a0, f1, k1, k2, k3⟩ := Q
  exact ⟨B, a0, f1, fun b o h1 => k1 b o fun z => h1 ((p.map _).subset z), fun x hx => k2 x (q.symm.subset hx), k3⟩
theorem Post.perm {o1 o2 o2' : Objs} (p : o1.Perm o2) (Q : Post h h' o1 o2' new) : Post h h' o2 o2' new := ⟨fun b o h1 => Q.kept b o fun z => h1 ((p.map _).subset z), Q.led, Q.fresh, Q.nd⟩
noncomputable def FltE (R : Result → Shared → Prop) (hH h1 : Heap) (gG : Array GenState) (dD : Drawn) (oO : OsState) (fr : Option (List Env)) (Ω : Objs) (L : Addr) (oL : Obj) (env : Env) (x y z : Addr × Obj) (v : Value) (s2 : Shared) : Prop :=
  ∃ e outer Ω1 Ω1' frs a b d h2 tk2, v = .ref e ∧ s2 = ⟨h2, gG, dD, tk2, oO⟩ ∧ fr = some outer ∧ Outs outer frs ∧ Ω = Ω1 ++ frs ∧ ads (a :: b :: d :: Ω1') = ads (x :: y :: z :: Ω1) ∧ PostE h1 h2 (x :: y :: z :: Ω1) (a :: b :: d :: Ω1') ((L, oL) :: frs) (env :: outer) e ∧
    ∀ h' frs' tk' t, UpF frs frs' → Post hH h' Ω (Ω1' ++ frs') [] → R (.ok (.ret (.int (-1) t))) ⟨h', gG, dD, tk', oO⟩
theorem emb_ads {a a' : Addr × Obj} {o : Objs} (h : a'.1 = a.1) (E : Emb o o' N N') : Emb (a :: o) (a' :: o') (a :: N) (a' :: N') := by
  obtain ⟨x, y⟩ := a
  obtain ⟨x', y'⟩ := a'
  cases h
  exact .take E
set_option maxHeartbeats 1500000 in
theorem lawrunG_ct {w : World} {dp un : Nat} {fr : Option (List Env)} {gd : Option (List Code)} {hH : Heap} {gG : Array GenState} {dD : Drawn} {tT : Nat} {oO : OsState} {R : Result → Shared → Prop} {ol W : Addr} {ks : List Int} {Ω : Objs} {T1 : List Fact} {vs : List Value} {no : Nat} (hd : dp + 16 < recursionLimit) (hu : un + 134 < cLine) (P : Pre w hH Ω (.obj ol (lsO vs no) :: T1)) (hi9 : IntsAre vs ks) (hr9 : KBa.In ks) (hz9 : vs.length ≤ 1000) (hcall : ∀ (c : MC) (oo : Obj) (h1 : Heap) (L : Addr) (oL : Obj) (es : Array DictEntry) (nn tk1 : Nat) (tk ti : Tok) (nm : Str) (sc : Scope) (a : Addr) (cd : Value), c.W = W → Sys w c ks oo kvAll → sc.kind = .function → oL.data = .dict es nn →
      Pre w h1 ((L, oL) :: c.mO w 0 tk :: (c.cl, lsO [] c.nc) :: c.pO w 0 ti :: Ω) (.obj c.M (instObj 279 c.md) :: .obj c.pl (instObj 173 c.pld) :: .obj c.od oo :: T1) →
      (∀ h' Ω' a b d Nw, Post h1 h' (c.mO w 0 tk :: (c.cl, lsO [] c.nc) :: c.pO w 0 ti :: Ω) (a :: b :: d :: Ω') Nw → Post hH h' Ω Ω' Nw) →
      wpAny (model PR w) ((AA dp un fr gd).deeper (envOf nm sc L a cd)) (call (.ref (nat_lit 248)) [.ref c.M]) (fun v s' => R (.ok (.ret v)) s') (fun v s' => FltE R hH h1 gG dD oO fr Ω L oL (envOf nm sc L a cd) (c.mO w 0 tk) (c.cl, lsO [] c.nc) (c.pO w 0 ti) v s') ⟨h1, gG, dD, tk1, oO⟩) : codeAny (model PR w) (AA dp un fr gd) (.call (.ref 1346) ⟨[.ref ol, .ref W], []⟩) R ⟨hH, gG, dD, tT, oO⟩ := by
  (k_dflt (refine' enter (binds := [(Str.ofString "octets", .ref ol), (Str.ofString "work", .ref W)]) ?k1 ?k6 ?k7 ?k8 ?k9 ?kB ?_ ?c2 ?c3 ?c4 ?c5)); k_extra "ENT"; (dsimp only [Facts] at hT); (obtain ⟨hT0, _⟩ := hT)
  have hX : Facts g0 T1 := ‹_›
  k_extra "z75"
  have hzk : ks.length ≤ 1000 := by rw [← hi9.length]; exact hz9
  k_dflt (refine Pre.ofLk F9 N9 nd9 (.cons_cons _ (.cons _ (.cons_cons _ (.cons _ (.cons_cons _ (.cons _ (.cons _ (.cons _ (List.Sublist.refl _))))))))) X' T' (T := .obj x8 (instObj 279 d8) :: .obj pl9 (instObj 173 pld9) :: .obj d9 o9 :: T1) (fun H B => ?_) (fun oL es nn hoL hdL PL => ?_))
  · exact Facts.obj (B.no (.take (.skip (.take (.here (.cons_cons _ (.cons _ (.cons _ (.cons _ (List.Sublist.refl _))))))))))
      (Facts.obj (B.no (.take (.here (.cons_cons _ (.cons _ (.cons_cons _ (.cons _ (.cons _ (.cons _ (List.Sublist.refl _))))))))))
      (Facts.obj (B.no (.take (.skip (.take (.skip (.take (.skip (.skip (.here (List.Sublist.refl _)))))))))) (Facts.mono (fun _ _ z => B.go z) hX)))
  · k_dflt (refine wpAny_mono (hcall ⟨x8, d8, pl9, pld9, W, d9, xf, cl9, mt9, pt9, tms9, tb9, tmc9, byteArr ks, 0⟩ o9 _ _ oL es nn _ ts9 ti9 _ _ _ _ rfl ⟨KBa.ints_make hr9, hzk, hd9, hlo9⟩ rfl hdL (Pre.perm (List.Perm.cons _ ((List.Perm.cons _ (List.Perm.swap _ _ Ω)).trans (List.Perm.swap _ _ _))) PL) (fun h7 Ω' a b d Nw P7 => ?_)) (fun v s' hv => hv) (fun v s' hv => ?_))
    · exact Post.outer (objs0' := Ω') G' F9 N9 P7 (fun b hb => by simp +zetaDelta only [ads, List.map_cons, List.mem_cons] at hb ⊢; rcases hb with a | a | a | a <;> simp only [a, true_or, or_true]) (fun b hb => by simp +zetaDelta only [ads, List.map_cons, List.mem_cons] at hb ⊢; simp only [hb, or_true]) (fun p hp => .tail _ (.tail _ (.tail _ hp)))
    · obtain ⟨e, outer, Ω1, Ω1', frs, a, b, d, h2, tk2, rfl, rfl, rfl, O, rfl, had, PE, hfin⟩ := hv
      have e1 := List.cons.inj had
      have e2 := List.cons.inj e1.2
      have e3 := List.cons.inj e2.2
      refine caughtE (hA := rfl) O F9 N9 nd9 X' T' hoL (PE.perm ((List.Perm.swap _ _ _).trans (List.Perm.cons _ (List.Perm.swap _ _ _))) ((List.Perm.swap _ _ _).trans (List.Perm.cons _ (List.Perm.swap _ _ _)))) (emb_ads e2.1 (.skip (emb_ads e3.1 (.skip (emb_ads e1.1 (.skip (.skip (.skip ((Emb.all e3.2).post frs))))))))) (.cons _ (.cons _ (.cons _ (.cons _ (.cons _ (.cons _ (.cons _ (.cons _ (List.Sublist.refl _))))))))) (by k_is) (by kernel_rfl) rfl rfl rfl (fun h' frs' u F N => ?_) ?_
      · k_extra "z"
        exact hfin h' frs' _ _ u (post0 G' F N (List.Sublist.refl _))
      · passes_own
theorem lawrun_ct {n0 : Int} (hd : dp + 16 < recursionLimit) (hu : un + 134 < cLine) (P : Pre w hH Ω (.obj ol (lsO vs no) :: T1)) (hi9 : IntsAre vs ks) (hr9 : KBa.In ks) (hz9 : vs.length ≤ 1000) (hn9 : (n : Int) = n0) (hn1 : n0 ≤ 9999) (G9 : ∀ (c : MC) (oo : Obj), c.W = W → Sys w c ks oo kvAll → Goes w c ks.length (.obj c.od oo :: T1) Fin n 0 Ω [])
    (hr : ∀ h' tk' Ω' Nw t (hadz : ads Ω' = ads Ω) (hfin : Fin Ω' Nw), Post hH h' Ω Ω' Nw → R (.ok (.ret (.int n0 t))) ⟨h', gG, dD, tk', oO⟩) : codeAny (model PR w) (AA dp un fr gd) (.call (.ref 1346) ⟨[.ref ol, .ref W], []⟩) R ⟨hH, gG, dD, tT, oO⟩ :=
  lawrunG_ct hd hu P hi9 hr9 hz9 fun c oo h1 L oL es nn tk1 tk ti nm sc a cd hW Y hk hdL PL hp => by
    refine callR (run_ct (c := c) (tk := tk) (ti := ti) (n := n) (T0 := .obj c.od oo :: T1) (Ω := Ω) (Fin := Fin) (hd := ?_) (hu := ?_) (hk := Y.hk) (hz := Y.hz) (P := ?_) (hn := hn9) (hn1 := hn1) (G := G9 c oo hW Y) (hr := ?_))
    · k_extra "d248"
    · k_extra "d248"
    · exact PL.narrow (List.sublist_cons_self _ _) fun _ _ a B => Facts.mono (fun _ _ z => B.go z) a
    · exact fun h7 tk7 Ω' Nw t7 ti7 hads hfin P7 => hr h7 tk7 Ω' Nw t7 hads hfin (hp _ _ _ _ _ _ P7)
theorem lawrunF_ct (O : Outs outer frs) (hd : dp + 16 < recursionLimit) (hu : un + 134 < cLine) (P : Pre w hH (Ω ++ frs) (.obj ol (lsO vs no) :: T1)) (hi9 : IntsAre vs ks) (hr9 : KBa.In ks) (hz9 : vs.length ≤ 1000) (hn1 : (n : Int) < 9000) (G9 : ∀ (c : MC) (oo : Obj), c.W = W → Sys w c ks oo kvAll → GoesF w c ks.length (.obj c.od oo :: T1) Fin n 0 Ω [])
    (hr : ∀ h' tk' Ω' Nw frs' t (hadz : ads Ω' = ads Ω) (hfin : Fin Ω' Nw), UpF frs frs' → Post hH h' (Ω ++ frs) (Ω' ++ frs') [] → R (.ok (.ret (.int (-1) t))) ⟨h', gG, dD, tk', oO⟩) : codeAny (model PR w) (AA dp un (some outer) gd) (.call (.ref 1346) ⟨[.ref ol, .ref W], []⟩) R ⟨hH, gG, dD, tT, oO⟩ :=
  lawrunG_ct hd hu P hi9 hr9 hz9 fun c oo h1 L oL es nn tk1 tk ti nm sc a cd hW Y hk hdL PL hp => by
    refine callR (runF_ct (c := c) (tk := tk) (ti := ti) (n := n) (T0 := .obj c.od oo :: T1) (Ω := Ω) (Fin := Fin) (O := .cons (fun z => by rw [show (envOf nm sc L a cd).scope.kind = sc.kind from rfl, hk] at z; cases z) rfl hdL O) (hd := ?_) (hu := ?_) (hk := Y.hk) (hz := Y.hz) (P := ?_) (hn := hn1) (G := G9 c oo hW Y) (hr := ?_))
    · k_extra "d248"
    · k_extra "d248"
    · refine Pre.perm ?_ (PL.narrow (objs := (L, oL) :: c.mO w 0 tk :: (c.cl, lsO [] c.nc) :: c.pO w 0 ti :: (Ω ++ frs)) (T' := .obj c.M (instObj 279 c.md) :: .obj c.pl (instObj 173 c.pld) :: .obj c.od oo :: T1) (List.Sublist.refl _) fun _ _ a B => Facts.mono (fun _ _ z => B.go z) a)
      exact (List.perm_middle (l₁ := c.mO w 0 tk :: (c.cl, lsO [] c.nc) :: c.pO w 0 ti :: Ω)).symm
    · exact fun h7 tk7 e Ω' Nw k tk'' i ti' hads hfin P7 => ⟨e, outer, Ω, Ω', frs, c.mO w k tk'', (c.cl, lsO [] c.nc), c.pO w i ti', h7, tk7, rfl, rfl, rfl, O, rfl, congrArg (fun z => c.md :: c.cl :: c.pld :: z) hads, P7, fun h' frs' tk' t u Q => hr h' tk' Ω' Nw frs' t hads hfin u Q⟩
end
section
theorem pool_nn {c : Bool} : 0 ≤ (if -1 - i > i then -1 - i else i) * (if c = true then 1 else 0) := Int.mul_nonneg (by split <;> (k_extra "o")) (by split <;> decide)
theorem cellE {M : Model} {A : Around} {E : Value → Shared → Prop} {e : Expr} {x : Str} {xp : Pos} {hp : Heap} {QF : Flow → Shared → Prop} (h1 : wpAny M A (eval e env) (fun v s' => ∃ i t k, v = .int i t ∧ s' = ⟨hp, gs, dr, k, os⟩) E ⟨hp, gs, dr, tk, os⟩) (h2 : ∀ i t k, wpAny M A (storeName env x (.int i t)) (fun _ => QF .next) E ⟨hp, gs, dr, k, os⟩)
    (hs : swapsWith e (some (.Name x xp)) pos.line env = pure false) : wpAny M A (exec (.Assign [.Name x xp] e pos) env) QF E ⟨hp, gs, dr, tk, os⟩ :=
  wpAny_Assign_Name (wpAny_mono h1 (fun v s' h => by obtain ⟨i, t, k, rfl, rfl⟩ := h; exact h2 i t k) fun _ _ x => x) hs
theorem cell0 (hi : IntsAre vs ns) (h : (vs.length : Int) > 0) : ∃ i t, vs[(0 : Int).toNat]? = some (.int i t) := by
  cases hi with
  | nil => cases h
  | cons i t _ => exact ⟨i, t, rfl⟩
theorem lpool_ct {sn : Nat} {sd : Option Addr} {ss : Array (Option Value)} (hd : dp + 2 < recursionLimit) (hu : un + 78 < cLine) (P : Pre w hH [] [.obj sc { cls := .type "list", dict := sd, data := .seq vs.toArray sn, slots := ss }]) (hi : IntsAre vs ns) (hz : (vs.length : Int) ≤ 100)
    (hr : ∀ h' tk' so a b ta tb n (a0 : 0 ≤ a) (b0 : 0 ≤ b) (b1 : b < 2147483647), Post hH h' [] [] [(so, lsO [.int a ta, .int b tb] n)] → R (.ok (.ret (.ref so))) ⟨h', gG, dD, tk', oO⟩) : codeAny (model PR w) (AA dp un fr gd) (.call (.ref 1311) ⟨[.ref sc], []⟩) R ⟨hH, gG, dD, tT, oO⟩ := by
  (k_dflt (refine' enter (binds := [(Str.ofString "script", .ref sc)]) ?k1 ?k6 ?k7 ?k8 ?k9 ?kB ?_ ?c2 ?c3 ?c4 ?c5)); k_extra "ENT"; k_extra "d261"; k_extra "d289"
  k_extra "z76"
  all_goals exact hr _ _ _ _ _ _ _ _ pool_nn (fm_bd (by decide)).1 (fm_bd (by decide)).2 (by k_extra "P1")
end
section
theorem wrap_bd (n : Int) : -2147483648 ≤ wrapZ n ∧ wrapZ n < 2147483648 := by
  have := fm_bd (x := n + 2147483648) (m := 4294967296) (by decide)
  unfold wrapZ; (k_extra "o")
theorem wz_mul {e n : Int} (h0 : -4294967296 ≤ x) (h1 : x ≤ 4294967296) : IntMulOk e (wrapZ n - x) := by
  have := wrap_bd n
  exact .of_right (intBits_le_64 (by (k_extra "o")) (by (k_extra "o")))
theorem now_old {v w : Value} (h1 : m (Str.ofString "now") = some v) (h2 : m (Str.ofString "old") = some w) : m = fun y => if y = Str.ofString "now" then some v else if y = Str.ofString "old" then some w else m y := by
  funext y
  split
  · next q => rw [q]; exact h1
  · split
    · next q => rw [q]; exact h2
    · rfl
theorem nd_lt2 {a b : Nat} (h : a < b) : ([b, a] : List Nat).Nodup := by simp; (k_extra "o")
noncomputable def lawZ (x0 x1 : Int) : Nat → Int → Int → Int → Int × Int × Int
  | 0, a, b, e => (a, b, e)
  | n + 1, a, b, e =>
    let a' := wrapZ (a + b - a)
    let b' := wrapZ (x0 + nearZ ((e - x0) * (a' - x0)) (x1 - x0))
    lawZ x0 x1 n a' b' b'
noncomputable def WkJ (x0 x1 : Int) (v : Int × Int × Int) (M : Nat) (nw od : Addr) (i : Nat) (m : Str → Option Value) (nx : Objs) : Prop := ∃ (f : Str → Option Value) (a b e : Int) (s0 s1 s2 u0 u1 u2 : Tok) (k1 k2 : Nat),
  m = (fun y => if y = Str.ofString "now" then some (.ref nw) else if y = Str.ofString "old" then some (.ref od) else f y) ∧ nx = [(od, lsO [.int x0 u0, .int x1 u1, .int e u2] k2), (nw, lsO [.int x0 s0, .int a s1, .int b s2] k1)] ∧ lawZ x0 x1 (M - i) a b e = v
theorem lwalked_ct {M : Nat} {v1 v2 v3 : Int} (hd : dp + 2 < recursionLimit) (hu : un + 78 < cLine) (P : Pre w hH [] [.obj ps (lsO [.int x0 q0, .int x1 q1, .int x2 q2] np)]) (hM : M ≤ 100) (w0 : x1 - x0 ≠ 0) (w1 : -(2 ^ 28) ≤ x1 - x0) (w2 : x1 - x0 < 2 ^ 28) (kx0 : -4294967296 ≤ x0) (kx1 : x0 ≤ 4294967296) (hV : lawZ x0 x1 M x1 x2 x2 = (v1, v2, v3))
    (hr : ∀ h' tk' nw od r k1 k2 s0 s1 s2 u0 u1 u2, Post hH h' [] [] [(r, tupO [.ref nw, .ref od]), (od, lsO [.int x0 u0, .int x1 u1, .int v3 u2] k2), (nw, lsO [.int x0 s0, .int v1 s1, .int v2 s2] k1)] → R (.ok (.ret (.ref r))) ⟨h', gG, dD, tk', oO⟩) : codeAny (model PR w) (AA dp un fr gd) (.call (.ref 1358) ⟨[.ref ps, .int (M : Int) tM], []⟩) R ⟨hH, gG, dD, tT, oO⟩ := by
  k_extra "d93"; k_extra "ENT"; k_extra "d261"; k_extra "d289"
  k_extra "z77"
  k_dflt (refine' rngG (M := M) (news := [(Do9, listOf #[.int x0 q0, .int x1 q1, .int x2 q2] co9), (Dn9, listOf #[.int x0 q0, .int x1 q1, .int x2 q2] cn9)]) (WkJ x0 x1 (v1, v2, v3) M Dn9 Do9) rfl (by k_extra "w") hM (by k_extra "w") (News.tl1 (by k_extra "w")) ?nd9 ?j9 ?turn9 ?done9)
  case nd9 => first | exact nd_lt2 (by assumption) | exact nd_lt2 l1.1
  case j9 => exact ⟨_, _, _, _, _, _, _, _, _, _, _, _, rfl, rfl, hV⟩
  case turn9 =>
    intro i t m1 nx h9 tk9 own hi hJ nd9 F9 N9
    obtain ⟨f, a, b, e, s0, s1, s2, u0, u1, u2, k1, k2, rfl, rfl, hZ⟩ := hJ
    have hm := wz_mul (e := e - x0) (n := a + b - a) kx0 kx1
    k_extra "z78"
    rw [show M - i = (M - (i + 1)) + 1 from by (k_extra "o")] at hZ
    all_goals (refine' turnG (nx := [(Do9, _), (Dn9, _)]) ?tF ?tN ?tnd ?tS ?tJ; (case tF => k_extra "w"); (case tN => k_extra "w"); (case tS => exact List.Sublist.refl _); (case tnd => k_extra "d313"); (case tJ => exact ⟨_, _, _, _, _, _, _, _, _, _, _, _, now_old rfl rfl, rfl, hZ⟩))
  case done9 =>
    intro m1 nx h9 tk9 hJ nd9 F9 N9
    obtain ⟨f, a, b, e, s0, s1, s2, u0, u1, u2, k1, k2, rfl, rfl, hZ⟩ := hJ
    rw [Nat.sub_self] at hZ
    cases hZ
    k_extra "z"
    all_goals exact hr _ _ _ _ _ _ _ _ _ _ _ _ _ (by k_extra "P1")
end
section
inductive PtsL (h : Heap) : List Value → List (Int × Int) → Prop
  | nil : PtsL h [] []
  | cons {a : Addr} {x y : Int} {t u : Tok} {vs : List Value} {l : List (Int × Int)} : IsTup h a (List.toArray [.int x t, .int y u]) → PtsL h vs l → PtsL h (.ref a :: vs) ((x, y) :: l)
theorem PtsL.at (h : Heap) {r0 r1 r2 : Addr} {x0 x1 x2 y0 y1 y2 : Int} {t0 t1 t2 u0 u1 u2 : Tok} (h0 : IsTup h r0 (List.toArray [.int x0 t0, .int y0 u0])) (h1 : IsTup h r1 (List.toArray [.int x1 t1, .int y1 u1])) (h2 : IsTup h r2 (List.toArray [.int x2 t2, .int y2 u2])) : PtsL h [.ref r0, .ref r1, .ref r2] [(x0, y0), (x1, y1), (x2, y2)] := .cons h0 (.cons h1 (.cons h2 .nil))
noncomputable abbrev qaU (qa : Nat → Addr) : Nat → Addr := fun i => qa (bif Nat.blt i 12 then i else i + 1)
theorem factsU (f : Facts H (fctT w W qa qt qk qv qi qn qb)) : Facts H (fctU w W (qaU qa) qt qk qv qi qn qb) :=
  Facts.pk [true, true, true, true, true, true, true, true, true, true, true] f
theorem UpF.refl : ∀ (f : Objs), UpF f f
  | [] => .nil
  | (L, o) :: f => .cons (sl := o.slots) (UpF.refl f)
theorem in7 : KBa.In [176, 0, 22, 176, 2, 70, 46] := by
  intro k hk
  simp only [List.mem_cons, List.not_mem_nil, or_false] at hk
  (k_extra "o")
theorem log2_32 (h : (-2147483648 : Int) ≤ i) (h1 : i < 2147483648) : i.natAbs.log2 < 1920 := by
  rcases Nat.eq_zero_or_pos i.natAbs with h0 | hp
  · rw [h0]; decide
  · exact Nat.lt_of_lt_of_le ((Nat.log2_lt (Nat.ne_of_gt hp)).mpr (show i.natAbs < 2 ^ 32 by (k_extra "o"))) (by decide)
theorem second_ct {w : World} {dp un : Nat} {outer : List Env} {frs : Objs} {gd : Option (List Code)} {hH : Heap} {gG : Array GenState} {dD : Drawn} {tT : Nat} {oO : OsState} {R : Result → Shared → Prop} {qa : Nat → Addr} {qt : Nat → Nat → Tok} {qk : Nat → Tok} {qv : Nat → Value} {qi : Nat → Int} {qn : Nat → Nat} {qb : Nat → Bool} {W ol d rd r0 r1 r2 : Addr} {gt gk : Nat → Tok} {rp0 rp1 rp2 zp0 zp1 zp2 lp : Value} {vs : List Value} {no n0 n m0 m1 m2 : Nat} {b0 b1 b2 c0 c1 c2 : Bool} {x0 x1 x2 : Int} {t0 t1 t2 u0 u1 u2 : Tok} (O : Outs outer frs) (hd : dp + 16 < recursionLimit) (hu : un + 134 < cLine)
    (P : Pre w hH (((qa (nat_lit 8)), lsO [] n0) :: ((qa (nat_lit 9)), gsD w gt gk (qa (nat_lit 10)) (qa (nat_lit 11)) d rp0 rp1 rp2 zp0 zp1 zp2 lp rd) :: ((qa (nat_lit 17)), lsO [.ref r0, .ref r1, .ref r2] n) :: ((qa (nat_lit 22)), lsO [.bool b1, .bool c1] m1) :: ((qa (nat_lit 23)), lsO [.bool b2, .bool c2] m2) :: ((qa (nat_lit 21)), lsO [.bool b0, .bool c0] m0) :: frs) (.obj ol (lsO vs no) :: .tup r0 [.int x0 t0, .int 5 u0] :: .tup r1 [.int x1 t1, .int 5 u1] :: .tup r2 [.int x2 t2, .int 5 u2] :: fctT w W qa qt qk qv qi qn qb)) (hI : IntsAre vs [176, 0, 22, 176, 2, 70, 46]) (e0 : wrapZ x0 = x0) (e1 : wrapZ x1 = x1) (e2 : wrapZ x2 = x2)
    (hr : ∀ h' tk' nl frs' o9 cs nc o22 o23 o21 Nw t, UpF frs frs' → Post hH h' (((qa (nat_lit 8)), lsO [] n0) :: ((qa (nat_lit 9)), gsD w gt gk (qa (nat_lit 10)) (qa (nat_lit 11)) d rp0 rp1 rp2 zp0 zp1 zp2 lp rd) :: ((qa (nat_lit 17)), lsO [.ref r0, .ref r1, .ref r2] n) :: ((qa (nat_lit 22)), lsO [.bool b1, .bool c1] m1) :: ((qa (nat_lit 23)), lsO [.bool b2, .bool c2] m2) :: ((qa (nat_lit 21)), lsO [.bool b0, .bool c0] m0) :: frs) (((qa (nat_lit 8)), lsO [] nl) :: ((qa (nat_lit 9)), o9) :: ((qa (nat_lit 17)), lsO cs nc) :: ((qa (nat_lit 22)), o22) :: ((qa (nat_lit 23)), o23) :: ((qa (nat_lit 21)), o21) :: frs') Nw → (∀ H, Facts H [.tup r0 [.int x0 t0, .int 5 u0], .tup r1 [.int x1 t1, .int 5 u1], .tup r2 [.int x2 t2, .int 5 u2]] → (∀ p ∈ Nw, H.get? p.1 = some p.2) → PtsL H cs [(x0, 5), (x1, 5), (x2, 5)]) → R (.ok (.ret (.int (if 0 ≤ x2 ∧ x2 < 3 then 5 else -1) t))) ⟨h', gG, dD, tk', oO⟩) :
    codeAny (model PR w) (AA dp un (some outer) gd) (.call (.ref 1346) ⟨[.ref ol, .ref W], []⟩) R ⟨hH, gG, dD, tT, oO⟩ := by
  have FC : ∀ H9, Facts H9 (.obj ol (lsO vs no) :: .tup r0 [.int x0 t0, .int 5 u0] :: .tup r1 [.int x1 t1, .int 5 u1] :: .tup r2 [.int x2 t2, .int 5 u2] :: fctT w W qa qt qk qv qi qn qb) → ∀ {ri : Addr} {x : Int} {tx ty : Tok}, ((ri, x, tx, ty) = (r0, x0, t0, u0) ∨ (ri, x, tx, ty) = (r1, x1, t1, u1) ∨ (ri, x, tx, ty) = (r2, x2, t2, u2)) → Facts H9 (.obj ol (lsO vs no) :: .tup r2 [.int x2 t2, .int 5 u2] :: .tup ri [.int x tx, .int 5 ty] :: fctU w W (qaU qa) qt qk qv qi qn qb) := by
    intro H9 f ri x tx ty e
    refine ⟨f.1, f.2.2.2.1, ?_, factsU f.2.2.2.2⟩
    rcases e with e | e | e <;> cases e
    · exact f.2.1
    · exact f.2.2.1
    · exact f.2.2.2.1
  by_cases hin : 0 ≤ x2 ∧ x2 < 3
  · rcases (show x2 = 0 ∨ x2 = 1 ∨ x2 = 2 by (k_extra "o")) with ei | ei | ei
    · have P2 := P.narrow (objs := [((qa (nat_lit 8)), lsO [] n0), ((qa (nat_lit 9)), gsD w gt gk (qa (nat_lit 10)) (qa (nat_lit 11)) d rp0 rp1 rp2 zp0 zp1 zp2 lp rd), ((qa (nat_lit 17)), lsO [.ref r0, .ref r1, .ref r2] n), (qa (nat_lit 21), lsO [.bool b0, .bool c0] m0)]) (T' := .obj ol (lsO vs no) :: .tup r2 [.int x2 t2, .int 5 u2] :: .tup r0 [.int x0 t0, .int 5 u0] :: fctU w W (qaU qa) qt qk qv qi qn qb) (.cons_cons _ (.cons_cons _ (.cons_cons _ (.cons _ (.cons _ (.cons_cons _ (List.nil_sublist _))))))) (fun g9 H9 hT B9 => FC H9 (Facts.mono (fun _ _ z => B9.go z) hT) (.inl rfl))
      refine lawrun_ct (by (k_extra "o")) (by (k_extra "o")) P2 hI in7 (by rw [hI.length]; decide) (n := 5) (n0 := 5) rfl (by decide) (fun c oo hW Y => by subst hW; exact go_second Y tblAll (gIx := ⟨by rw [e2, ei]; rfl⟩) (gTx := ⟨by rw [e2, ei]; rfl⟩) (by rw [e2]; (k_extra "o")) (by rw [e2]; (k_extra "o"))) ?_
      intro h' tk' Ω9 Nw9 t9 hads hfin
      apply hfin
      clear hfin hads Ω9 Nw9
      intro r s1 s2 n' n2 u t Q
      rw [e2, ei] at Q
      have Q2 := Q.widen P.led P.nd (.take (.take (.take (.skip (.skip (.take (Emb.none _)))))))
      have hr2 := hr h' tk' _ frs _ _ _ _ _ _ _ t9 (UpF.refl frs) Q2
      rw [if_pos ⟨by (k_extra "o"), by (k_extra "o")⟩] at hr2
      refine hr2 fun H f9 n9 => ?_
      rw [show (wrapZ (x0 + 0)) = x0 from by rw [Int.add_zero]; exact e0, show wrapZ 5 = 5 from by decide] at n9
      exact PtsL.at H (tup_of (n9 _ (.head _))) f9.2.1 f9.2.2.1
    · have P2 := P.narrow (objs := [((qa (nat_lit 8)), lsO [] n0), ((qa (nat_lit 9)), gsD w gt gk (qa (nat_lit 10)) (qa (nat_lit 11)) d rp0 rp1 rp2 zp0 zp1 zp2 lp rd), ((qa (nat_lit 17)), lsO [.ref r0, .ref r1, .ref r2] n), (qa (nat_lit 22), lsO [.bool b1, .bool c1] m1)]) (T' := .obj ol (lsO vs no) :: .tup r2 [.int x2 t2, .int 5 u2] :: .tup r1 [.int x1 t1, .int 5 u1] :: fctU w W (qaU qa) qt qk qv qi qn qb) (.cons_cons _ (.cons_cons _ (.cons_cons _ (.cons_cons _ (List.nil_sublist _))))) (fun g9 H9 hT B9 => FC H9 (Facts.mono (fun _ _ z => B9.go z) hT) (.inr (.inl rfl)))
      refine lawrun_ct (by (k_extra "o")) (by (k_extra "o")) P2 hI in7 (by rw [hI.length]; decide) (n := 5) (n0 := 5) rfl (by decide) (fun c oo hW Y => by subst hW; exact go_second Y tblAll (gIx := ⟨by rw [e2, ei]; rfl⟩) (gTx := ⟨by rw [e2, ei]; rfl⟩) (by rw [e2]; (k_extra "o")) (by rw [e2]; (k_extra "o"))) ?_
      intro h' tk' Ω9 Nw9 t9 hads hfin
      apply hfin
      clear hfin hads Ω9 Nw9
      intro r s1 s2 n' n2 u t Q
      rw [e2, ei] at Q
      have Q2 := Q.widen P.led P.nd (.take (.take (.take (.take (Emb.none _)))))
      have hr2 := hr h' tk' _ frs _ _ _ _ _ _ _ t9 (UpF.refl frs) Q2
      rw [if_pos ⟨by (k_extra "o"), by (k_extra "o")⟩] at hr2
      refine hr2 fun H f9 n9 => ?_
      rw [show (wrapZ (x1 + 0)) = x1 from by rw [Int.add_zero]; exact e1, show wrapZ 5 = 5 from by decide] at n9
      exact PtsL.at H f9.1 (tup_of (n9 _ (.head _))) f9.2.2.1
    · have P2 := P.narrow (objs := [((qa (nat_lit 8)), lsO [] n0), ((qa (nat_lit 9)), gsD w gt gk (qa (nat_lit 10)) (qa (nat_lit 11)) d rp0 rp1 rp2 zp0 zp1 zp2 lp rd), ((qa (nat_lit 17)), lsO [.ref r0, .ref r1, .ref r2] n), (qa (nat_lit 23), lsO [.bool b2, .bool c2] m2)]) (T' := .obj ol (lsO vs no) :: .tup r2 [.int x2 t2, .int 5 u2] :: .tup r2 [.int x2 t2, .int 5 u2] :: fctU w W (qaU qa) qt qk qv qi qn qb) (.cons_cons _ (.cons_cons _ (.cons_cons _ (.cons _ (.cons_cons _ (List.nil_sublist _)))))) (fun g9 H9 hT B9 => FC H9 (Facts.mono (fun _ _ z => B9.go z) hT) (.inr (.inr rfl)))
      refine lawrun_ct (by (k_extra "o")) (by (k_extra "o")) P2 hI in7 (by rw [hI.length]; decide) (n := 5) (n0 := 5) rfl (by decide) (fun c oo hW Y => by subst hW; exact go_second Y tblAll (gIx := ⟨by rw [e2, ei]; rfl⟩) (gTx := ⟨by rw [e2, ei]; rfl⟩) (by rw [e2]; (k_extra "o")) (by rw [e2]; (k_extra "o"))) ?_
      intro h' tk' Ω9 Nw9 t9 hads hfin
      apply hfin
      clear hfin hads Ω9 Nw9
      intro r s1 s2 n' n2 u t Q
      rw [e2, ei] at Q
      have Q2 := Q.widen P.led P.nd (.take (.take (.take (.skip (.take (Emb.none _))))))
      have hr2 := hr h' tk' _ frs _ _ _ _ _ _ _ t9 (UpF.refl frs) Q2
      rw [if_pos ⟨by (k_extra "o"), by (k_extra "o")⟩] at hr2
      refine hr2 fun H f9 n9 => ?_
      rw [show (wrapZ ((2 : Int) + 0)) = x2 from by rw [ei]; decide, show wrapZ 5 = 5 from by decide] at n9
      exact PtsL.at H f9.1 f9.2.1 (tup_of (n9 _ (.head _)))
  · have P2 : Pre w hH ([((qa (nat_lit 8)), lsO [] n0), ((qa (nat_lit 9)), gsD w gt gk (qa (nat_lit 10)) (qa (nat_lit 11)) d rp0 rp1 rp2 zp0 zp1 zp2 lp rd), ((qa (nat_lit 17)), lsO [.ref r0, .ref r1, .ref r2] n), ((qa (nat_lit 22)), lsO [.bool b1, .bool c1] m1)] ++ frs) (.obj ol (lsO vs no) :: .tup r2 [.int x2 t2, .int 5 u2] :: .tup r2 [.int x2 t2, .int 5 u2] :: fctU w W (qaU qa) qt qk qv qi qn qb) :=
      P.narrow (.cons_cons _ (.cons_cons _ (.cons_cons _ (.cons_cons _ (.cons _ (.cons _ (List.Sublist.refl _))))))) (fun g9 H9 hT B9 => FC H9 (Facts.mono (fun _ _ z => B9.go z) hT) (.inr (.inr rfl)))
    refine lawrunF_ct O (by (k_extra "o")) (by (k_extra "o")) P2 hI in7 (by rw [hI.length]; decide) (n := 4) (by decide) (fun c oo hW Y => by subst hW; exact go_secondF Y tblAll (log2_32 (by rw [e2]; have := wrap_bd x2; (k_extra "o")) (by rw [e2]; have := wrap_bd x2; (k_extra "o"))) (by rw [e2]; exact hin)) ?_
    intro h' tk' Ω9 Nw9 frs' t9 hads hfin
    apply hfin
    clear hfin hads Ω9 Nw9
    intro n2 t u Q
    have hr2 := hr h' tk' _ frs' _ _ _ _ _ _ _ t9 u (Q.widen P.led P.nd (.take (.take (.take (.take (.skip (.skip (Emb.all u.ads_eq))))))))
    rw [if_neg hin] at hr2
    exact hr2 fun H f9 _ => PtsL.at H f9.1 f9.2.1 f9.2.2.1
end
section
theorem nd_led {o : Obj} {l : Objs} (h : ∀ p ∈ l, p.1 < d) (e : ads N = ads l) (nd : (ads N).Nodup) : (ads ((d, o) :: N)).Nodup := List.nodup_cons.mpr ⟨nin_led h e, nd⟩
theorem letN_ (hN : News g L h N) (k : let q : List (Addr × Obj) := N; News g L h q → G) : G := k hN
theorem letT_ {p : Addr × Obj} (hN : News g L h (p :: N)) (k : let q : List (Addr × Obj) := N; News g L h (p :: q) → G) : G := k hN
theorem letT2_ {p p2 : Addr × Obj} (hN : News g L h (p :: p2 :: N)) (k : let q : List (Addr × Obj) := N; News g L h (p :: p2 :: q) → G) : G := k hN
theorem letP_ {l : List Nat} (nd : l.Nodup) (k : let q : List Nat := l; q.Nodup → G) : G := k nd
theorem go_firstM {c : MC} {M : Nat} (hM1 : 1 ≤ M) (Y : Sys w c ks oo kvs) (eks : ks = 176 :: 0 :: 22 :: 176 :: 2 :: 16 :: 176 :: 0 :: 17 :: 176 :: 1 :: 18 :: tnB M) (B' : Tbl kvs) (w0 : y1 - y0 ≠ 0) (w1 : -(2 ^ 28) ≤ y1 - y0) (w2 : y1 - y0 < 2 ^ 28) (k0 : -4294967296 ≤ x0) (k1 : x0 ≤ 4294967296) (hV : tnZ x0 y0 y1 M x1 x2 y2 = (V1, V2)) :     Goes w c ks.length (.obj c.od oo :: .tup r0 [.int x0 p0x, .int 5 p0y] :: .tup r1 [.int x1 p1x, .int 5 p1y] :: .tup r2 [.int x2 p2x, .int 5 p2y] :: .tup s0 [.int y0 o0x, .int 5 o0y] :: .tup s1 [.int y1 o1x, .int 5 o1y] :: .tup s2 [.int y2 o2x, .int 5 o2y] :: fctT w c.W qa qt qk qv qi qn qb) (fun Ω Nw => ∀ K : Objs → Objs → Prop, (∀ bb1 bb3 mm1 mm2 rA rB t1 t2 t3 t4 na nb n9 g9 g0' g1' g2' g3' g4' g5', K [((qa (nat_lit 8)), lsO [] n9), ((qa (nat_lit 9)), gsD w gt gk (qa (nat_lit 10)) (qa (nat_lit 11)) (qa (nat_lit 12)) (.int 2 g0') (.int 0 g1') (.int 1 g2') (.int 0 g3') (.int 0 g4') (.int 0 g5') (.int 1 g9) rd), ((qa (nat_lit 17)), lsO [.ref r0, .ref rA, .ref rB] na), ((qa (nat_lit 16)), lsO [.ref s0, .ref s1, .ref rB] nb), ((qa (nat_lit 22)), lsO [.bool true, .bool bb1] mm1), ((qa (nat_lit 23)), lsO [.bool true, .bool bb3] mm2)] [(rB, tupO [.int V2 t3, .int 5 t4]), (rA, tupO [.int V1 t1, .int 5 t2])]) → K Ω Nw) (8 + 5 * M) 0 [((qa (nat_lit 8)), lsO [] n0), ((qa (nat_lit 9)), gsD w gt gk (qa (nat_lit 10)) (qa (nat_lit 11)) (qa (nat_lit 12)) rp0 rp1 rp2 zp0 zp1 zp2 (.int 1 h5) rd), ((qa (nat_lit 17)), lsO [.ref r0, .ref r1, .ref r2] n), ((qa (nat_lit 16)), lsO [.ref s0, .ref s1, .ref s2] no), ((qa (nat_lit 22)), lsO [.bool b0, .bool b1] m1), ((qa (nat_lit 23)), lsO [.bool b2, .bool b3] m2)] [] := by
  cases M with
  | zero => (k_extra "o")
  | succ n => exact go_first Y eks B' w0 w1 w2 k0 k1 hV
theorem tnB_app : ∀ (n : Nat), tnB n ++ [179, 2, 2, 2, 1, 60, 57, 70, 72] = tnB (n + 1)
  | 0 => rfl
  | n + 1 => by
    show 179 :: 2 :: 2 :: 2 :: 1 :: 60 :: 57 :: 70 :: 72 :: (tnB n ++ [179, 2, 2, 2, 1, 60, 57, 70, 72]) = _
    rw [tnB_app n]; rfl
theorem tnB_len : ∀ (n : Nat), (tnB n).length = 9 * n
  | 0 => rfl
  | n + 1 => by
    show (tnB n).length + 1 + 1 + 1 + 1 + 1 + 1 + 1 + 1 + 1 = _
    rw [tnB_len n]; (k_extra "o")
noncomputable abbrev PRE12 : List Int := [176, 0, 22, 176, 2, 16, 176, 0, 17, 176, 1, 18]
theorem turnI {i : Nat} {t3 t4 t5 t6 t7 t8 : Tok} (h : IntsAre vs (PRE12 ++ tnB i)) : IntsAre (vs ++ [.int 179 t0, .int 2 t1, .int 2 t2, .int 2 t3, .int 1 t4, .int 60 t5, .int 57 t6, .int 70 t7, .int 72 t8]) (PRE12 ++ tnB (i + 1)) := by
  rw [← tnB_app, ← List.append_assoc]
  exact h.append (.cons _ _ (.cons _ _ (.cons _ _ (.cons _ _ (.cons _ _ (.cons _ _ (.cons _ _ (.cons _ _ (.cons _ _ .nil)))))))))
theorem wz_idem (n : Int) : wrapZ (wrapZ n) = wrapZ n := by
  have := wrap_bd n
  have e : wrapZ n + 2147483648 = wrapZ n + 2147483648 := rfl
  generalize wrapZ n = x at *
  unfold wrapZ
  rw [Int.fmod_eq_emod_of_nonneg _ (by decide), Int.emod_eq_of_lt (by (k_extra "o")) (by (k_extra "o"))]; (k_extra "o")
theorem md_near {b c : Int} (hc : c ≠ 0) : muldivZ a b c = nearZ (a * b) c := by
  unfold muldivZ nearZ mdZ
  dsimp only
  have e : ∀ x : Int, (0 - 2 * x) = 2 * (-x) := fun x => by (k_extra "o")
  repeat' split
  all_goals first | (k_extra "o") | rfl | (simp only [e]; done) | (simp only [e, Int.neg_neg, Int.zero_sub]; try (k_extra "o"))
theorem tn_law (w0 : x1 - x0 ≠ 0) : ∀ (n : Nat) {a b e v1 v2 v3 : Int}, lawZ x0 x1 n a b e = (v1, v2, v3) → tnZ x0 x0 x1 n a b e = (v1, v2)
  | 0, a, b, e, v1, v2, v3, h => by cases h; rfl
  | n + 1, a, b, e, v1, v2, v3, h => by
    unfold lawZ at h
    unfold tnZ
    dsimp only at h ⊢
    rw [show a + (0 - (a - b)) = a + b - a from by (k_extra "o"), show ∀ y : Int, b + (y - (b - x0)) = x0 + y from fun y => by (k_extra "o"), md_near w0, show ∀ y : Int, wrapZ y + (wrapZ (wrapZ y) - wrapZ y) = wrapZ y from fun y => by rw [wz_idem]; (k_extra "o"), wz_idem]
    exact tn_law w0 n h
theorem law_end : ∀ (n : Nat) {a b v1 v2 v3 : Int}, lawZ x0 x1 n a b b = (v1, v2, v3) → v3 = v2 ∧ (wrapZ a = a → wrapZ b = b → wrapZ v1 = v1 ∧ wrapZ v2 = v2)
  | 0, a, b, v1, v2, v3, h => by cases h; exact ⟨rfl, fun h1 h2 => ⟨h1, h2⟩⟩
  | n + 1, a, b, v1, v2, v3, h => by
    unfold lawZ at h
    have z := law_end n h
    exact ⟨z.1, fun _ _ => z.2 (wz_idem _) (wz_idem _)⟩
theorem law_end1 (hn : 1 ≤ n) {a b v1 v2 v3 : Int} (h : lawZ x0 x1 n a b b = (v1, v2, v3)) : wrapZ v1 = v1 ∧ wrapZ v2 = v2 := by
  cases n with
  | zero => (k_extra "o")
  | succ n =>
    unfold lawZ at h
    exact (law_end n h).2 (wz_idem _) (wz_idem _)
theorem inPre : ∀ (i : Nat), KBa.In (PRE12 ++ tnB i) := by
  intro i k hk
  rcases List.mem_append.mp hk with h | h
  · simp only [List.mem_cons, List.not_mem_nil, or_false] at h; (k_extra "o")
  · induction i with
    | zero => exact nomatch h
    | succ n ih =>
      have h : k ∈ 179 :: 2 :: 2 :: 2 :: 1 :: 60 :: 57 :: 70 :: 72 :: tnB n := h
      simp only [List.mem_cons] at h
      rcases h with h | h | h | h | h | h | h | h | h | h
      all_goals first | (k_extra "o") | exact ih (List.mem_append_right _ h) h
noncomputable abbrev ptD (l : List (Int × Int)) : PyData := .list (l.map fun p => .tuple [.int p.1, .int p.2])
theorem PtsL.readsA {l : List (Int × Int)} (p : PtsL h vs l) : ∃ as, ReadsAll h vs (l.map fun p => .tuple [.int p.1, .int p.2]) as := by
  induction p with
  | nil => exact ⟨_, .nil⟩
  | cons t _ ih =>
    obtain ⟨o, ho, hc, n, hd⟩ := t
    obtain ⟨as, ha⟩ := ih
    exact ⟨_, .cons (.tuple ho hc hd (.cons (.int _ _) (.cons (.int _ _) .nil))) ha⟩
theorem PtsL.reads {a : Addr} {l : List (Int × Int)} (e : h.get? a = some (lsO vs n)) (p : PtsL h vs l) : ∃ as, Reads h (.ref a) (ptD l) as := by
  obtain ⟨as, ha⟩ := p.readsA
  exact ⟨_, .list e rfl rfl ha⟩
theorem pt_ne {A : Around} {E : Value → Shared → Prop} {a : Addr} {ws : List Value} {k : Nat} {p q r : Int × Int} (e1 : σ.heap.get? a = some (lsO vs n)) (e2 : σ.heap.get? b = some (lsO ws k)) (h1 : PtsL σ.heap vs [p, q, r]) (h2 : PtsL σ.heap ws [p, q, r]) (hu : A.units + 64 < cLine) (hQ : Q (.bool false) σ) : wpAny (model PR w) A (compareOp .NotEq (.ref a) (.ref b)) Q E σ := by
  obtain ⟨_, r1⟩ := h1.reads e1
  obtain ⟨_, r2⟩ := h2.reads e2
  exact ne_dataH_same r1 r2 rfl rfl hu rfl (by rw [Spec.same_self]; exact hQ)
theorem pt_eq {A : Around} {E : Value → Shared → Prop} {a : Addr} {ws : List Value} {k : Nat} {p q r : Int × Int} (e1 : σ.heap.get? a = some (lsO vs n)) (e2 : σ.heap.get? b = some (lsO ws k)) (h1 : PtsL σ.heap vs [p, q, r]) (h2 : PtsL σ.heap ws [p, q, r]) (hu : A.units + 64 < cLine) (hQ : Q (.bool true) σ) : wpAny (model PR w) A (compareOp .Eq (.ref a) (.ref b)) Q E σ := by
  obtain ⟨_, r1⟩ := h1.reads e1
  obtain ⟨_, r2⟩ := h2.reads e2
  exact eq_dataH_same r1 r2 rfl rfl hu rfl (by rw [Spec.same_self]; exact hQ)
theorem eval_in {A : Around} {E : Value → Shared → Prop} {e0 e1 e2 : Expr} {c : Int} {u0 u1 : Tok → Tok} {k0 k1 k2 : Nat} (h0 : Ev (model PR w) A env h e0 (fun t => .int a (u0 t)) k0) (h1 : Ev (model PR w) A env h e1 (fun t => .int i (u1 t)) k1) (h2 : Ev (model PR w) A env h e2 (fun t => .int c (u2 t)) k2) (hm : false = lastMarks [.LtE, .Lt] [e1, e2]) (hq : ∀ tk', Q (.bool (decide (a ≤ i ∧ i < c))) ⟨h, gs, dr, tk', os⟩) : wpAny (model PR w) A (eval (.Compare e0 [.LtE, .Lt] [e1, e2] pos) env) Q E ⟨h, gs, dr, tk, os⟩ := by
  refine Compare_chain (h0 _ _ ⟨h, gs, dr, tk, os⟩ rfl (chain_link (h1 _ _ _ rfl (PySem.P.le_int (wpAny_truthy_bool ?_))))) hm.symm
  by_cases ha : a ≤ i
  · rw [if_pos (decide_eq_true ha)]
    refine chain_last (h2 _ _ _ rfl (PySem.P.lt_int ?_))
    have z := hq
    rw [show decide (a ≤ i ∧ i < c) = decide (i < c) from by simp [ha]] at z
    exact z _
  · rw [if_neg (by simp [ha])]
    have z := hq
    rw [show decide (a ≤ i ∧ i < c) = decide (a ≤ i) from by simp [ha]] at z
    exact z _
theorem eval_ifI {A : Around} {E : Value → Shared → Prop} {e1 e2 : Expr} {b : Bool} {u1 : Tok → Tok} {k0 k1 k2 : Nat} {x : Str} {xp : Pos} (h0 : Ev (model PR w) A env h (.Name x xp) (fun _ => .bool b) k0) (h1 : Ev (model PR w) A env h e1 (fun t => .int i (u1 t)) k1) (h2 : Ev (model PR w) A env h e2 (fun t => .int j (u2 t)) k2) (hq : ∀ tk' t', Q (.int (if b = true then i else -j) t') ⟨h, gs, dr, tk', os⟩) : wpAny (model PR w) A (eval (.IfExp (.Name x xp) e1 (.UnaryOp .USub e2 p2) pos) env) Q E ⟨h, gs, dr, tk, os⟩ := by
  refine IfExp_ (isTrue_plain (h0 _ _ ⟨h, gs, dr, tk, os⟩ rfl (wpAny_truthy_bool ?_)) ?_)
  · cases b
    · exact UnaryOp_ (h2 _ _ _ rfl (PySem.P.neg_int (hq _ _)))
    · exact h1 _ _ _ rfl (hq _ _)
  · exact rfl
theorem sel_app {a : Addr} {o : Obj} : ∀ {l : Objs}, (a, o) ∈ l → Sel a o objs (l ++ objs)
  | _ :: l, h => by
    rcases List.mem_cons.mp h with h | h
    · cases h; exact .here (List.sublist_append_right _ _)
    · exact .skip (sel_app h)
theorem Emb.skips {o : Objs} (E : Emb o o' N N') : ∀ (R : Objs), Emb o o' (R ++ N) (R ++ N')
  | [] => E
  | _ :: R => .skip (E.skips R)
theorem Post.wUL {A A' B f1 : Objs} {N' : Objs → Objs} {oL : Obj} {E' : Value → Shared → Prop} {v : Value} {s' : Shared} (u : UpF ((L, oL) :: B) f1) (P : Post h h' (A ++ (L, oL) :: B) (A' ++ f1) new) (hL : h.get? L = some oL) (F : Fr g L h m) (Nw : News g L h N) (nd : (ads N).Nodup)
    (E : ∀ f', ads f' = ads B → Emb (A ++ B) (A' ++ f') N (N' f')) (k : ∀ f', UpF B f' → Fr g L h' m → News g L h' (new ++ N' f') → (ads (new ++ N' f')).Nodup → Q v s') : wants Q E' (.ok (.ret v)) s' := by
  cases u with
  | @cons _ _ sl _ f' u =>
    have E := E f' u.ads_eq
    have nL : g.get? L = none := kts_self F
    have sub : ∀ b, b ∈ ads (A ++ B) → b ∈ ads N := fun b hb => (E.sub.map (·.1)).subset hb
    have gN : ∀ b, b ∈ ads (A ++ B) → b ≠ L ∧ g.get? b = none := fun b hb => by
      obtain ⟨o, ho⟩ := mem_ads (sub b hb)
      exact ⟨(Nw _ ho).2.1, (Nw _ ho).2.2⟩
    have kept : ∀ b o, b ≠ L → b ∉ ads (A ++ B) → h.get? b = some o → h'.get? b = some o := fun b o e n q => P.kept b o (fun z => by
      rw [ads_app] at z n
      rcases List.mem_append.mp z with z | z
      · exact n (List.mem_append_left _ z)
      · rcases List.mem_cons.mp z with z | z
        · exact e z
        · exact n (List.mem_append_right _ z)) q
    obtain ⟨oM, es, ep, hM, hd, r⟩ := F.ns
    rw [hL] at hM
    cases hM
    refine k f' u ⟨⟨_, es, ep, P.led _ (List.mem_append_right _ (List.mem_append_right _ (.head _))), hd, r⟩, fun b o e => kept b o (fun q => by rw [q, nL] at e; cases e) (fun q => by rw [(gN b q).2] at e; cases e) (F.keep b o e), F.above⟩ (fun p hp => ?_) ?_
    · rcases List.mem_append.mp hp with hp | hp
      · refine ⟨P.led p (List.mem_append_left _ hp), fun q => ?_, ?_⟩
        · have := P.fresh p hp; rw [q, hL] at this; cases this
        · cases q : g.get? p.1 with
          | none => rfl
          | some o => have := F.keep _ _ q; rw [P.fresh p hp] at this; cases this
      · rcases E.cases nd p hp with q | ⟨q, n⟩
        · have ha : p.1 ∈ ads (A ++ B) := by rw [← E.ads_eq.2]; exact ads_mem q
          refine ⟨P.led p (List.mem_append_right _ ?_), (gN _ ha).1, (gN _ ha).2⟩
          rcases List.mem_append.mp q with q | q
          · exact List.mem_append_left _ q
          · exact List.mem_append_right _ (.tail _ q)
        · exact ⟨kept _ _ (Nw p q).2.1 n (Nw p q).1, (Nw p q).2⟩
    · rw [ads_app, E.ads_eq.1, List.nodup_append]
      refine ⟨P.nd, nd, fun a ha b hb e => ?_⟩
      subst e
      obtain ⟨⟨a', o⟩, hp, rfl⟩ := List.mem_map.mp ha
      obtain ⟨o', ho'⟩ := mem_ads hb
      have := (Nw _ ho').1
      rw [P.fresh _ hp] at this; cases this
theorem nil_eq {A : Around} {E : Value → Shared → Prop} {a : Addr} {k : Nat} (e1 : σ.heap.get? a = some (lsO [] n)) (e2 : σ.heap.get? b = some (lsO [] k)) (hu : A.units + 64 < cLine) (hQ : Q (.bool true) σ) : wpAny (model PR w) A (compareOp .Eq (.ref a) (.ref b)) Q E σ :=
  eq_dataH_same (da := .list []) (db := .list []) (.list e1 rfl rfl .nil) (.list e2 rfl rfl .nil) rfl rfl hu rfl (by rw [Spec.same_self]; exact hQ)
theorem News.isL0 {a : Addr} (x : News g L h N) (hm : (a, lsO [] n) ∈ N) : h.get? a = some (lsO [] n) := (x _ hm).1
theorem News.d4 {a b c d : Addr × Obj} {X Y : Objs} (N : News g L h (a :: b :: c :: d :: (X ++ Y))) : News g L h Y := fun p hp => N p (.tail _ (.tail _ (.tail _ (.tail _ (List.mem_append_right _ hp)))))
theorem nd_d4 {a b c d : Addr × Obj} {X Y : Objs} (N : (ads (a :: b :: c :: d :: (X ++ Y))).Nodup) : (ads Y).Nodup := by
  have z := (List.nodup_cons.mp (List.nodup_cons.mp (List.nodup_cons.mp (List.nodup_cons.mp N).2).2).2).2
  rw [show List.map (fun p : Addr × Obj => p.1) (X ++ Y) = ads (X ++ Y) from rfl, ads_app] at z
  exact (List.nodup_append.mp z).2.1
noncomputable def TrJ (W ps : Addr) (M : Int) (tM : Tok) (N0 : Objs) (i : Nat) (m : Str → Option Value) (nx : Objs) : Prop := ∀ P : (Str → Option Value) → Objs → Prop, (∀ (f : Str → Option Value) ol vs n, IntsAre vs (PRE12 ++ tnB i) →
  P (fun y => if y = Str.ofString "octets" then some (.ref ol) else if y = Str.ofString "work" then some (.ref W) else if y = Str.ofString "places" then some (.ref ps) else if y = Str.ofString "turns" then some (.int M tM) else f y) ((ol, lsO vs n) :: N0)) → P m nx
theorem norm4 {a b c d : Str} {v1 v2 v3 v4 : Value} (h1 : m a = some v1) (h2 : m b = some v2) (h3 : m c = some v3) (h4 : m d = some v4) : m = fun y => if y = a then some v1 else if y = b then some v2 else if y = c then some v3 else if y = d then some v4 else m y := by
  funext y
  split
  · next q => rw [q]; exact h1
  · split
    · next q => rw [q]; exact h2
    · split
      · next q => rw [q]; exact h3
      · split
        · next q => rw [q]; exact h4
        · rfl
theorem TrJ.mk {M : Int} {N0 : Objs} {i : Nat} (h1 : m (Str.ofString "octets") = some (.ref ol)) (h2 : m (Str.ofString "work") = some (.ref W)) (h3 : m (Str.ofString "places") = some (.ref ps)) (h4 : m (Str.ofString "turns") = some (.int M tM)) (hI : IntsAre vs (PRE12 ++ tnB i)) : TrJ W ps M tM N0 i m ((ol, lsO vs n) :: N0) := fun P k => by
  rw [norm4 h1 h2 h3 h4]; exact k _ _ _ _ hI
theorem trright_ct {M : Nat} (O : Outs outer frs) (hd : dp + 25 < recursionLimit) (hu : un + 170 < cLine) (P : Pre w hH frs [.obj ps (lsO [.int x0 q0, .int x1 q1, .int x2 q2] np)]) (hM1 : 1 ≤ M) (hM : M ≤ 100) (w0 : x1 - x0 ≠ 0) (w1 : -(2 ^ 28) ≤ x1 - x0) (w2 : x1 - x0 < 2 ^ 28) (e0 : wrapZ x0 = x0)
    (hr : ∀ h' tk' frs', UpF frs frs' → Post hH h' frs frs' [] → R (.ok (.ret (.bool true))) ⟨h', gG, dD, tk', oO⟩) : codeAny (model PR w) (AA dp un (some outer) gd) (.call (.ref 1363) ⟨[.ref ps, .int (M : Int) tM], []⟩) R ⟨hH, gG, dD, tT, oO⟩ := by
  k_extra "d93"; k_extra "ENT"; (dsimp only [Facts] at hT); (obtain ⟨hT0, _⟩ := hT)
  k_extra "z79"
  (with_reducible rename News _ _ _ _ => N8)
  refine' letT2_ N8 ?_
  clear N8
  intro qO N8
  k_dflt (refine' rngG (M := M) (news := (ol9, lsO vs9 n19) :: qO) (TrJ W9 ps (M : Int) tM (qO)) rfl (by k_extra "w") hM (by k_extra "w") (News.tl1 (by k_extra "w")) ?nd9 ?j9 ?turn9 ?done9)
  case nd9 => (have z9 := (List.nodup_cons.mp nd9).2; first | exact z9 | (rw [← List.map_append] at z9; exact z9))
  case j9 => exact TrJ.mk rfl rfl rfl rfl hI9
  case turn9 =>
    intro i t m1 nx h9 tk9 own hi hJ
    apply hJ
    clear hJ m1 nx
    intro f ol vs n hI nd9 F9 N9
    have hvl : vs.length = 12 + 9 * i := by rw [hI.length, List.length_append, tnB_len]; rfl
    k_extra "z80"
    all_goals (refine' turnG (nx := (Dl9, lsO (vs ++ [.int 179 _, .int 2 _, .int 2 _, .int 2 _, .int 1 _, .int 60 _, .int 57 _, .int 70 _, .int 72 _]) 0) :: qO) ?tF ?tN ?tnd ?tS ?tJ; (case tF => k_extra "w"); (case tN => k_extra "w"); k_extra "d141"; (case tnd => k_extra "d314"); (case tJ => exact TrJ.mk rfl rfl rfl rfl (turnI hI)))
  case done9 =>
    intro m1 nx h9 tk9 hJ
    apply hJ
    clear hJ m1 nx
    intro f ol vs n hI nd9 F9 N9
    obtain ⟨v1, v2, v3, hV⟩ : ∃ v1 v2 v3, lawZ x0 x1 M x1 x2 x2 = (v1, v2, v3) := ⟨_, _, _, rfl⟩
    have hV9 := tn_law w0 M hV
    have hE9 := law_end1 hM1 hV
    have hE8 := (law_end M hV).1
    subst hE8
    have hvl : vs.length = 12 + 9 * M := by rw [hI.length, List.length_append, tnB_len]; rfl
    have kx0 : -4294967296 ≤ x0 := by have := wrap_bd x0; (k_extra "o")
    have kx1 : x0 ≤ 4294967296 := by have := wrap_bd x0; (k_extra "o")
    k_extra "z81"
    next ne => exfalso; (k_extra "o")
    k_dflt k_extra "d64"
    intro g1
    k_dflt (refine' restA (its := [.int x0 s09, .int v1 s19, .int v3 s29]) (fun v o => ∃ t, o = tupO [v, .int 5 t]) ?rs1 ?rh1 ?rn1 ?re1 ?rf1)
    case rs1 => exact fun _ _ => srcAt_cons
    case rh1 => exact Or.inr ⟨_, by k_extra "d308", rfl, _, rfl⟩
    case rn1 => first | assumption | k_extra "d314"
    case re1 =>
      intro v C oC m2 h9 tk9 E' Q hv hns hm hC hq
      refine Evs.tup (s := ⟨_, _, _, _, _⟩) (Evs.cons (Ev.nameC hns hC hm rfl rfl rfl) (Evs.cons Ev.int Evs.nil rfl) rfl) (by first | exact Nat.le_of_ble_eq_true rfl | size_fits) ?_
      exact hq _ _ ⟨_, rfl⟩ rfl
    refine made3T (fun v t => tupO [v, .int 5 t]) ?_
    intro a0 a1 a2 ta0 ta1 ta2 hn9
    intro D9 h9 tk9 F9 N9 o9; replace N9 : News g0 L' h9 ((D9, lsO [.ref a0, .ref a1, .ref a2] 3) :: _) := N9; have nd9 := nd_off1 (o := lsO [.ref a0, .ref a1, .ref a2] 3) o9 hn9; k_extra "d145"; (try dsimp only)
    have f9 := hF9 h9 fun a o hm => (N9 (a, o) (by (k_extra "d171"; first | done | fail))).1
    k_dflt (refine pt_ne (N9 (_, _) (by k_extra "d308")).1 (N9 (_, _) (by k_extra "d308")).1 (PtsL.at _ f9.1 (tup_of (N9 (_, _) (by k_extra "d308")).1) (tup_of (N9 (_, _) (by k_extra "d308")).1)) (PtsL.at _ (tup_of (N9 (_, _) (by k_extra "d308")).1) (tup_of (N9 (_, _) (by k_extra "d308")).1) (tup_of (N9 (_, _) (by k_extra "d308")).1)) (by k_extra "d94") ?_)
    k_extra "z49"
    k_dflt k_extra "d64"
    intro g1
    k_dflt (refine' restA (its := [.int x0 u09, .int x1 u19, .int v3 u29]) (fun v o => ∃ t, o = tupO [v, .int 5 t]) ?rs2 ?rh2 ?rn2 ?re2 ?rf2)
    case rs2 => exact fun _ _ => srcAt_cons
    case rh2 => exact Or.inr ⟨_, by k_extra "d308", rfl, _, rfl⟩
    case rn2 => first | assumption | k_extra "d314"
    case re2 =>
      intro v C oC m2 h9 tk9 E' Q hv hns hm hC hq
      refine Evs.tup (s := ⟨_, _, _, _, _⟩) (Evs.cons (Ev.nameC hns hC hm rfl rfl rfl) (Evs.cons Ev.int Evs.nil rfl) rfl) (by first | exact Nat.le_of_ble_eq_true rfl | size_fits) ?_
      exact hq _ _ ⟨_, rfl⟩ rfl
    refine made3T (fun v t => tupO [v, .int 5 t]) ?_
    intro a0 a1 a2 ta0 ta1 ta2 hn9
    intro D9 h9 tk9 F9 N9 o9; replace N9 : News g0 L' h9 ((D9, lsO [.ref a0, .ref a1, .ref a2] 3) :: _) := N9; have nd9 := nd_off1 (o := lsO [.ref a0, .ref a1, .ref a2] 3) o9 hn9; k_extra "d145"; (try dsimp only)
    have f9 := hF9 h9 fun a o hm => (N9 (a, o) (by (k_extra "d171"; first | done | fail))).1
    k_dflt (refine pt_ne (N9 (_, _) (by k_extra "d308")).1 (N9 (_, _) (by k_extra "d308")).1 (PtsL.at _ f9.1 f9.2.1 (tup_of (N9 (_, _) (by k_extra "d308")).1)) (PtsL.at _ (tup_of (N9 (_, _) (by k_extra "d308")).1) (tup_of (N9 (_, _) (by k_extra "d308")).1) (tup_of (N9 (_, _) (by k_extra "d308")).1)) (by k_extra "d94") ?_)
    k_extra "z82"
    k_dflt (refine' Pre.ofLk (objs := ((qa (nat_lit 8)), lsO [] n9) :: ((qa (nat_lit 9)), gsD w gt gk (qa (nat_lit 10)) (qa (nat_lit 11)) (qa (nat_lit 12)) (.int 2 g0') (.int 0 g1') (.int 1 g2') (.int 0 g3') (.int 0 g4') (.int 0 g5') (.int 1 g9) rd) :: ((qa (nat_lit 17)), lsO [.ref r0, .ref rA, .ref rB] na) :: ((qa (nat_lit 22)), lsO [.bool true, .bool bb1] mm1) :: ((qa (nat_lit 23)), lsO [.bool true, .bool bb3] mm2) :: ((qa (nat_lit 21)), lsO [.bool false, .bool false] 0) :: frs) (T := .obj _ (lsO [.int 176 _, .int 0 _, .int 22 _, .int 176 _, .int 2 _, .int 70 _, .int 46 _] _) :: .tup r0 [.int x0 q0, .int 5 t0] :: .tup rA [.int v1 tA1, .int 5 tA2] :: .tup rB [.int v3 tB1, .int 5 tB2] :: fctT w W9 qa qt qk9 qv qi qn qb) ?xF ?xN ?xnd ?xS ?xX ?xT ?xf ?xk)
    case xF => k_extra "w"
    case xN => k_extra "w"
    case xnd => first | assumption | k_extra "d314"
    case xX => k_extra "w"
    case xT => k_extra "w"
    case xS => k_extra "d315"
    case xf => exact FsP.objN (by (k_extra "d23"; first | done | fail)) (fun H B => have f := hF9 H (fun a o hm => B.no (.skip (.skip (.skip (.skip (.skip (.skip (.skip (.skip (.skip (.skip (.skip (.skip (.skip (.skip (.skip (.take (.take (.take (.skip (.take (.take (.take (sel_app hm)))))))))))))))))))))))); Facts.tup f.1 (Facts.tup (tup_of (B.no (by (k_extra "d23"; first | done | fail)))) (Facts.tup (tup_of (B.no (by (k_extra "d23"; first | done | fail)))) f.2.2.2.2.2.2)))
    case xk =>
      intro oL esL nL hoL hdL PL
      refine' callR (second_ct (frs := (L', oL) :: frs) (O := .cons (fun z => nomatch z) rfl hdL (by k_extra "w")) (hd := ?xhd) (hu := ?xhu) (P := Pre.perm (List.perm_middle (l₁ := [((qa (nat_lit 8)), lsO [] n9), ((qa (nat_lit 9)), gsD w gt gk (qa (nat_lit 10)) (qa (nat_lit 11)) (qa (nat_lit 12)) (.int 2 g0') (.int 0 g1') (.int 1 g2') (.int 0 g3') (.int 0 g4') (.int 0 g5') (.int 1 g9) rd), ((qa (nat_lit 17)), lsO [.ref r0, .ref rA, .ref rB] na), ((qa (nat_lit 22)), lsO [.bool true, .bool bb1] mm1), ((qa (nat_lit 23)), lsO [.bool true, .bool bb3] mm2), ((qa (nat_lit 21)), lsO [.bool false, .bool false] 0)]) (l₂ := frs) (a := (L', oL))).symm PL) (hI := ?xhI) (e0 := e0) (e1 := hE9.1) (e2 := hE9.2) (hr := ?xhr))
      case xhI => k_extra "d209"
      case xhd => k_extra "d94"
      case xhu => k_extra "d94"
      case xhr =>
        intro h9 tk9 nl9 fr9 o9x cs9 nc9 o22 o23 o21 Nw9 t9 u9 P9 pl9
        refine Post.wUL (A := [((qa (nat_lit 8)), lsO [] n9), ((qa (nat_lit 9)), gsD w gt gk (qa (nat_lit 10)) (qa (nat_lit 11)) (qa (nat_lit 12)) (.int 2 g0') (.int 0 g1') (.int 1 g2') (.int 0 g3') (.int 0 g4') (.int 0 g5') (.int 1 g9) rd), ((qa (nat_lit 17)), lsO [.ref r0, .ref rA, .ref rB] na), ((qa (nat_lit 22)), lsO [.bool true, .bool bb1] mm1), ((qa (nat_lit 23)), lsO [.bool true, .bool bb3] mm2), ((qa (nat_lit 21)), lsO [.bool false, .bool false] 0)]) (A' := [((qa (nat_lit 8)), lsO [] nl9), ((qa (nat_lit 9)), o9x), ((qa (nat_lit 17)), lsO cs9 nc9), ((qa (nat_lit 22)), o22), ((qa (nat_lit 23)), o23), ((qa (nat_lit 21)), o21)]) u9 P9 hoL (by k_extra "w") (by k_extra "w") (by first | assumption | k_extra "d314") (fun f' e => (.skip (.skip (.skip (.skip (.skip (.skip (.skip (.skip (.skip (.skip (.skip (.skip (.skip (.skip (.skip (.take (.take (.take (.skip (.take (.take (.take (.skip (.skip (.skip (.skip (.skip (.skip (.skip ((Emb.all e).skips Rest))))))))))))))))))))))))))))))) ?_
        intro fr8 uf8 F9 N9 nd9
        k_extra "z83"
        · exact absurd (show (if 0 ≤ v3 ∧ v3 < 3 then (5 : Int) else -1) = if decide (0 ≤ v3 ∧ v3 < 3) = true then 5 else -1 by simp only [decide_eq_true_eq]) (by assumption)
        k_dflt k_extra "d64"
        intro g1
        k_dflt (refine' restA (its := [.int x0 s09, .int v1 s19, .int v3 s29]) (fun v o => ∃ t, o = tupO [v, .int 5 t]) ?rs3 ?rh3 ?rn3 ?re3 ?rf3)
        case rs3 => exact fun _ _ => srcAt_cons
        case rh3 => exact Or.inr ⟨_, by k_extra "d308", rfl, _, rfl⟩
        case rn3 => first | assumption | k_extra "d314"
        case re3 =>
          intro v C oC m2 h9 tk9 E' Q hv hns hm hC hq
          refine Evs.tup (s := ⟨_, _, _, _, _⟩) (Evs.cons (Ev.nameC hns hC hm rfl rfl rfl) (Evs.cons Ev.int Evs.nil rfl) rfl) (by first | exact Nat.le_of_ble_eq_true rfl | size_fits) ?_
          exact hq _ _ ⟨_, rfl⟩ rfl
        refine made3T (fun v t => tupO [v, .int 5 t]) ?_
        intro a0 a1 a2 ta0 ta1 ta2 hn9
        intro D9 h9 tk9 F9 N9 o9; replace N9 : News g0 L' h9 ((D9, lsO [.ref a0, .ref a1, .ref a2] 3) :: _) := N9; have nd9 := nd_off1 (o := lsO [.ref a0, .ref a1, .ref a2] 3) o9 hn9; k_extra "d145"; (try dsimp only)
        have f9 := hF9 h9 fun a o hm => (N9 (a, o) (by ((repeat (first | exact List.mem_append_left fr8 hm | apply List.mem_append_right | refine List.Mem.tail _ ?_)); first | done | fail))).1
        k_dflt (refine pt_eq (N9 (_, lsO cs9 nc9) (by k_extra "d308")).1 (N9 (_, _) (by k_extra "d308")).1 (pl9 _ ⟨f9.1, (tup_of (N9 (_, _) (by k_extra "d308")).1), (tup_of (N9 (_, _) (by k_extra "d308")).1), trivial⟩ (fun p hp => (N9 p (by ((repeat (first | exact List.mem_append_left _ hp | refine List.Mem.tail _ ?_)); first | done | fail))).1)) (PtsL.at _ (tup_of (N9 (_, _) (by k_extra "d308")).1) (tup_of (N9 (_, _) (by k_extra "d308")).1) (tup_of (N9 (_, _) (by k_extra "d308")).1)) (by k_extra "d94") ?_)
        replace N9 := News.d4 N9
        replace nd9 := nd_d4 nd9
        k_extra "z84"
        all_goals exact hr _ _ fr8 uf8 (postN G' (by k_extra "w") (by k_extra "w") (by first | assumption | k_extra "d314") (by k_extra "d315") uf8.ads_eq)
end
section
noncomputable abbrev atL {α : Type} (l : List α) (d : α) : Nat → α := fun i => l.getD i d
theorem perm_NN (p : N.Perm N') (x : News g L h N) (nd : (ads N).Nodup) (k : News g L h N' → (ads N').Nodup → G) : G := k (fun q hq => x q (p.symm.subset hq)) ((p.map _).nodup_iff.mp nd)
theorem rndPack {M : Objs} {x : Addr × Obj} (hW : WkAt w zs cv sc KW W) (N9 : News g L h (x :: (KW ++ (cv, lsO [.int v tv] nc) :: M))) (nd9 : (ads (x :: (KW ++ (cv, lsO [.int v tv] nc) :: M))).Nodup)
    (kont : ∀ (qa : Nat → Addr) (qt : Nat → Nat → Tok) (qk : Nat → Tok) (qv : Nat → Value) (qi : Nat → Int) (qn : Nat → Nat) (qb : Nat → Bool) Rest, qi (nat_lit 0) = v → (∀ H, (∀ a o, (a, o) ∈ ((qa (nat_lit 2)), instObj 1193 (qa (nat_lit 7))) :: ((qa (nat_lit 7)), stkD w (qt (nat_lit 2)) (qk (nat_lit 0)) (qa (nat_lit 8))) :: (W, instObj 1244 (qa (nat_lit 0))) :: ((qa (nat_lit 0)), wkD w (qt (nat_lit 0)) (qt (nat_lit 1)) (qa (nat_lit 1)) (qa (nat_lit 2)) (qa (nat_lit 3)) (qa (nat_lit 4)) (qa (nat_lit 5)) (qa (nat_lit 6))) :: Rest → H.get? a = some o) → Facts H (fctR w W qa qt qk qv qi qn qb)) → News g L h (x :: ((qa (nat_lit 8)), lsO [] 0) :: ((qa (nat_lit 2)), instObj 1193 (qa (nat_lit 7))) :: ((qa (nat_lit 7)), stkD w (qt (nat_lit 2)) (qk (nat_lit 0)) (qa (nat_lit 8))) :: (W, instObj 1244 (qa (nat_lit 0))) :: ((qa (nat_lit 0)), wkD w (qt (nat_lit 0)) (qt (nat_lit 1)) (qa (nat_lit 1)) (qa (nat_lit 2)) (qa (nat_lit 3)) (qa (nat_lit 4)) (qa (nat_lit 5)) (qa (nat_lit 6))) :: Rest) → (ads (x :: ((qa (nat_lit 8)), lsO [] 0) :: ((qa (nat_lit 2)), instObj 1193 (qa (nat_lit 7))) :: ((qa (nat_lit 7)), stkD w (qt (nat_lit 2)) (qk (nat_lit 0)) (qa (nat_lit 8))) :: (W, instObj 1244 (qa (nat_lit 0))) :: ((qa (nat_lit 0)), wkD w (qt (nat_lit 0)) (qt (nat_lit 1)) (qa (nat_lit 1)) (qa (nat_lit 2)) (qa (nat_lit 3)) (qa (nat_lit 4)) (qa (nat_lit 5)) (qa (nat_lit 6))) :: Rest)).Nodup → G) : G := by
  refine hW (fun K => News g L h (x :: (K ++ (cv, lsO [.int v tv] nc) :: M)) → (ads (x :: (K ++ (cv, lsO [.int v tv] nc) :: M))).Nodup → G) (fun Wd wt wn ts gt gk rt S k kd l Sd f p d rd rdd sg h0 h1 h2 h3 h4 h5 h6 d0 d1 p0 p1 f0 f1 tm N9 nd9 => ?_) N9 nd9
  refine perm_NN (N' := x :: (l, lsO [] 0) :: (k, instObj 1193 kd) :: (kd, stkD w ts tm l) :: (W, instObj 1244 Wd) :: (Wd, wkD w wt wn S k zs cv sg sc) :: (rd, instObj 532 rdd) :: (rdd, rdD w rt) :: (d, tupO [.int 16384 d0, .int 0 d1]) :: (p, tupO [.int 16384 p0, .int 0 p1]) :: (f, tupO [.int 16384 f0, .int 0 f1]) :: (S, instObj 1130 Sd) :: (Sd, gsD w gt gk f p d (.int 0 h0) (.int 0 h1) (.int 0 h2) (.int 1 h3) (.int 1 h4) (.int 1 h5) (.int 1 h6) rd) :: (cv, lsO [.int v tv] nc) :: M) ?_ N9 nd9 (kont (atL [Wd, S, k, zs, cv, sg, sc, kd, l, Sd, f, p, d, rd, rdd] 0) (atL [wt, wn, ts, gt, gk, rt] (fun _ => 0)) (atL [tm, tv] 0) (atL [(.int 0 h0), (.int 0 h1), (.int 0 h2), (.int 1 h3), (.int 1 h4), (.int 1 h5), (.int 1 h6)] .none) (fun _ => v) (fun _ => nc) (fun _ => false) _ rfl (fun H9 n9 => ?_))
  · exact List.Perm.cons _ (List.Perm.cons _ (List.Perm.cons _ (List.Perm.cons _ (pull (l1 := [_, _, _, _, _, _, _]) (pull (l1 := [_, _, _, _, _, _, _]) (List.Perm.refl _))))))
  · exact Facts.obj (n9 _ _ (by k_extra "d308")) (Facts.obj (n9 _ _ (by k_extra "d308")) (Facts.obj (n9 _ _ (by k_extra "d308")) (Facts.obj (n9 _ _ (by k_extra "d308")) (Facts.obj (n9 _ _ (by k_extra "d308")) (Facts.obj (n9 _ _ (by k_extra "d308")) (Facts.obj (n9 _ _ (by k_extra "d308")) (Facts.obj (n9 _ _ (by k_extra "d308")) (Facts.obj (n9 _ _ (by k_extra "d308")) (Facts.nil)))))))))
theorem rnd_law (v0 : -2147483648 ≤ v) (v1 : v < 2147483648) : wrapZ (roundZ (wrapZ v)) = wrapZ (64 * nearZ v 64) := by
  have e : wrapZ v = v := by
    unfold wrapZ
    rw [Int.fmod_eq_emod_of_nonneg _ (by decide), Int.emod_eq_of_lt (by (k_extra "o")) (by (k_extra "o"))]; (k_extra "o")
  rw [e]
  congr 1
  unfold roundZ roundP nearZ
  dsimp only
  rw [Int.fdiv_eq_ediv_of_nonneg _ (by decide)]
  repeat rw [Int.fdiv_eq_ediv_of_nonneg _ (by decide)]
  repeat' split
  all_goals (k_extra "o")
theorem in4 : KBa.In [176, 0, 69, 104] := by
  intro k hk
  simp only [List.mem_cons, List.not_mem_nil, or_false] at hk
  (k_extra "o")
theorem lrnd_ct (hd : dp + 25 < recursionLimit) (hu : un + 170 < cLine) (P : Pre w hH [] []) (v0 : -2147483648 ≤ v) (v1 : v < 2147483648)
    (hr : ∀ h' tk' , Post hH h' [] [] [] → R (.ok (.ret (.bool true))) ⟨h', gG, dD, tk', oO⟩) : codeAny (model PR w) (AA dp un fr gd) (.call (.ref 1377) ⟨[.int v tv], []⟩) R ⟨hH, gG, dD, tT, oO⟩ := by
  (k_dflt (refine' enter (binds := [(Str.ofString "value", .int v tv)]) ?k1 ?k6 ?k7 ?k8 ?k9 ?kB ?_ ?c2 ?c3 ?c4 ?c5)); k_extra "ENT"; k_extra "d261"; (clear hT)
  k_extra "z85"
  refine' rndPack hW9 (by assumption) (by first | assumption | k_extra "d309") ?_
  intro qa qt qk9 qv qi qn qb Rest hv hF9 N9 nd9
  k_dflt (refine' callR (lawrun_ct (Ω := [((qa (nat_lit 8)), lsO [] 0)]) (T1 := fctR w W9 qa qt qk9 qv qi qn qb) (hd := ?rhd) (hu := ?rhu) (P := ?rP) (hi9 := ?ri) (hr9 := in4) (hz9 := ?rz) (n := 3) (n0 := 3) (hn9 := rfl) (hn1 := by decide) (G9 := fun c oo hW Y => by subst hW; exact go_rounded Y tblAll) (hr := ?rhr)))
  case rhd => k_extra "d94"
  case rhu => k_extra "d94"
  case rP => refine' Pre.of ?qF ?qN ?qnd ?qS ?qX ?qT ?qf; (case qF => k_extra "w"); (case qN => exact N9); (case qnd => exact nd9); (case qX => k_extra "w"); (case qT => k_extra "w"); k_extra "d35"; (case qf => exact FsP.objN (by k_extra "d312") (fun H B => hF9 H fun a o hm => B.no (.skip (.take (sel_nil hm)))))
  case ri => k_extra "d209"
  case rz => exact Nat.le_of_ble_eq_true rfl
  case rhr =>
    intro h9 tk9 Ω9 Nw9 t9 hads hfin
    apply hfin
    clear hfin hads Ω9 Nw9
    intro t7 n7
    k_extra "CW"
    k_extra "z86"
    all_goals (rw [hv, rnd_law v0 v1, decide_eq_true rfl]; exact hr _ _ (by k_extra "P0"))
end
section
theorem nd_tl {a : Addr × Obj} (h : (ads (a :: N)).Nodup) : (ads N).Nodup := (List.nodup_cons.mp h).2
theorem scPack {M : Objs} {x : Addr × Obj} {A : Int} (hW : WkAt w zs cv sc KW W) (N9 : News g L h (x :: (KW ++ (sc, tupO [.int A tA, .int B tB]) :: (cv, lsO [.int v tv] nc) :: M))) (nd9 : (ads (x :: (KW ++ (sc, tupO [.int A tA, .int B tB]) :: (cv, lsO [.int v tv] nc) :: M))).Nodup)
    (kont : ∀ (qa : Nat → Addr) (qt : Nat → Nat → Tok) (qk : Nat → Tok) (qv : Nat → Value) (qi : Nat → Int) (qn : Nat → Nat) (qb : Nat → Bool) Rest, qi (nat_lit 0) = A → qi (nat_lit 1) = B → (∀ H, (∀ a o, (a, o) ∈ ((qa (nat_lit 2)), instObj 1193 (qa (nat_lit 7))) :: ((qa (nat_lit 7)), stkD w (qt (nat_lit 2)) (qk (nat_lit 0)) (qa (nat_lit 8))) :: (W, instObj 1244 (qa (nat_lit 0))) :: ((qa (nat_lit 0)), wkD w (qt (nat_lit 0)) (qt (nat_lit 1)) (qa (nat_lit 1)) (qa (nat_lit 2)) (qa (nat_lit 3)) (qa (nat_lit 4)) (qa (nat_lit 5)) (qa (nat_lit 6))) :: Rest → H.get? a = some o) → Facts H (fctS w W qa qt qk qv qi qn qb)) → News g L h (x :: ((qa (nat_lit 8)), lsO [] 0) :: ((qa (nat_lit 4)), lsO [.int v tv] nc) :: ((qa (nat_lit 2)), instObj 1193 (qa (nat_lit 7))) :: ((qa (nat_lit 7)), stkD w (qt (nat_lit 2)) (qk (nat_lit 0)) (qa (nat_lit 8))) :: (W, instObj 1244 (qa (nat_lit 0))) :: ((qa (nat_lit 0)), wkD w (qt (nat_lit 0)) (qt (nat_lit 1)) (qa (nat_lit 1)) (qa (nat_lit 2)) (qa (nat_lit 3)) (qa (nat_lit 4)) (qa (nat_lit 5)) (qa (nat_lit 6))) :: Rest) → (ads (x :: ((qa (nat_lit 8)), lsO [] 0) :: ((qa (nat_lit 4)), lsO [.int v tv] nc) :: ((qa (nat_lit 2)), instObj 1193 (qa (nat_lit 7))) :: ((qa (nat_lit 7)), stkD w (qt (nat_lit 2)) (qk (nat_lit 0)) (qa (nat_lit 8))) :: (W, instObj 1244 (qa (nat_lit 0))) :: ((qa (nat_lit 0)), wkD w (qt (nat_lit 0)) (qt (nat_lit 1)) (qa (nat_lit 1)) (qa (nat_lit 2)) (qa (nat_lit 3)) (qa (nat_lit 4)) (qa (nat_lit 5)) (qa (nat_lit 6))) :: Rest)).Nodup → G) : G := by
  refine hW (fun K => News g L h (x :: (K ++ (sc, tupO [.int A tA, .int B tB]) :: (cv, lsO [.int v tv] nc) :: M)) → (ads (x :: (K ++ (sc, tupO [.int A tA, .int B tB]) :: (cv, lsO [.int v tv] nc) :: M))).Nodup → G) (fun Wd wt wn ts gt gk rt S k kd l Sd f p d rd rdd sg h0 h1 h2 h3 h4 h5 h6 d0 d1 p0 p1 f0 f1 tm N9 nd9 => ?_) N9 nd9
  refine perm_NN (N' := x :: (l, lsO [] 0) :: (cv, lsO [.int v tv] nc) :: (k, instObj 1193 kd) :: (kd, stkD w ts tm l) :: (W, instObj 1244 Wd) :: (Wd, wkD w wt wn S k zs cv sg sc) :: (rd, instObj 532 rdd) :: (rdd, rdD w rt) :: (d, tupO [.int 16384 d0, .int 0 d1]) :: (p, tupO [.int 16384 p0, .int 0 p1]) :: (f, tupO [.int 16384 f0, .int 0 f1]) :: (S, instObj 1130 Sd) :: (Sd, gsD w gt gk f p d (.int 0 h0) (.int 0 h1) (.int 0 h2) (.int 1 h3) (.int 1 h4) (.int 1 h5) (.int 1 h6) rd) :: (sc, tupO [.int A tA, .int B tB]) :: M) ?_ N9 nd9 (kont (atL [Wd, S, k, zs, cv, sg, sc, kd, l] 0) (atL [wt, wn, ts] (fun _ => 0)) (atL [tm, tA, tB] 0) (fun _ => .none) (atL [A, B] 0) (fun _ => 0) (fun _ => false) _ rfl rfl (fun H9 n9 => ?_))
  · exact List.Perm.cons _ (List.Perm.cons _ (pull (l1 := [_, _, _, _, _, _, _, _, _, _, _, _]) (List.Perm.cons _ (List.Perm.cons _ (pull (l1 := [_, _, _, _, _, _, _]) (pull (l1 := [_, _, _, _, _, _, _]) (List.Perm.refl _)))))))
  · exact Facts.obj (n9 _ _ (by k_extra "d308")) (Facts.obj (n9 _ _ (by k_extra "d308")) (Facts.obj (n9 _ _ (by k_extra "d308")) (Facts.obj (n9 _ _ (by k_extra "d308")) (Facts.tup (tup_of (n9 _ _ (by k_extra "d308"))) Facts.nil))))
theorem norm6 {k0 k1 k2 k3 k4 k5 : Str} {v0 v1 v2 v3 v4 v5 : Value} (h0 : m k0 = some v0) (h1 : m k1 = some v1) (h2 : m k2 = some v2) (h3 : m k3 = some v3) (h4 : m k4 = some v4) (h5 : m k5 = some v5) : m = fun y => if y = k0 then some v0 else if y = k1 then some v1 else if y = k2 then some v2 else if y = k3 then some v3 else if y = k4 then some v4 else if y = k5 then some v5 else m y := by
  funext y
  split
  · next q => rw [q]; exact h0
  split
  · next q => rw [q]; exact h1
  split
  · next q => rw [q]; exact h2
  split
  · next q => rw [q]; exact h3
  split
  · next q => rw [q]; exact h4
  split
  · next q => rw [q]; exact h5
  rfl
noncomputable def duZ (A B : Int) : Nat → Int → Int
  | 0, v => v
  | n + 1, v => duZ A B n (wrapZ (nearZ (v * A) B))
theorem sc_law {A : Int} (b0 : B ≠ 0) : ∀ (n : Nat) (v : Int), wrapZ v = v → scZ A B n v = duZ A B n v
  | 0, _, _ => rfl
  | n + 1, v, h => by
    unfold scZ duZ
    rw [h, md_near b0]
    exact sc_law b0 n _ (wz_idem _)
theorem wz_self (v0 : -2147483648 ≤ v) (v1 : v < 2147483648) : wrapZ v = v := by
  unfold wrapZ
  rw [Int.fmod_eq_emod_of_nonneg _ (by decide), Int.emod_eq_of_lt (by (k_extra "o")) (by (k_extra "o"))]; (k_extra "o")
theorem scB_app : ∀ (n : Nat), scB n ++ [176, 0, 176, 0, 69, 112] = scB (n + 1)
  | 0 => rfl
  | n + 1 => by
    show 176 :: 0 :: 176 :: 0 :: 69 :: 112 :: (scB n ++ [176, 0, 176, 0, 69, 112]) = _
    rw [scB_app n]; rfl
theorem scB_len : ∀ (n : Nat), (scB n).length = 6 * n
  | 0 => rfl
  | n + 1 => by
    show (scB n).length + 1 + 1 + 1 + 1 + 1 + 1 = _
    rw [scB_len n]; (k_extra "o")
theorem scI {i : Nat} {t3 t4 t5 : Tok} (h : IntsAre vs (scB i)) : IntsAre (vs ++ [.int 176 t0, .int 0 t1, .int 176 t2, .int 0 t3, .int 69 t4, .int 112 t5]) (scB (i + 1)) := by
  rw [← scB_app]
  exact h.append (.cons _ _ (.cons _ _ (.cons _ _ (.cons _ _ (.cons _ _ (.cons _ _ .nil))))))
theorem inSc : ∀ (i : Nat), KBa.In (scB i) := by
  intro i
  induction i with
  | zero => exact fun k h => nomatch h
  | succ n ih =>
    intro k h
    have h : k ∈ 176 :: 0 :: 176 :: 0 :: 69 :: 112 :: scB n := h
    simp only [List.mem_cons] at h
    rcases h with h | h | h | h | h | h | h
    all_goals first | (k_extra "o") | exact ih k h
noncomputable def ScJ (W : Addr) (A B V : Int) (tA tB tM : Tok) (M : Nat) (N0 : Objs) (i : Nat) (m : Str → Option Value) (nx : Objs) : Prop := ∀ P : (Str → Option Value) → Objs → Prop, (∀ (f : Str → Option Value) ol vs n d td, IntsAre vs (scB i) → duZ A B (M - i) d = V → -2147483648 ≤ d → d < 2147483648 → P (fun y => if y = Str.ofString "octets" then some (.ref ol) else if y = Str.ofString "due" then some (.int d td) else if y = Str.ofString "work" then some (.ref W) else if y = Str.ofString "top" then some (.int A tA) else if y = Str.ofString "bottom" then some (.int B tB) else if y = Str.ofString "turns" then some (.int (M : Int) tM) else f y) ((ol, lsO vs n) :: N0)) → P m nx
theorem ScJ.mk {A V d : Int} {M i : Nat} {N0 : Objs} (h0 : m (Str.ofString "octets") = some (.ref ol)) (h1 : m (Str.ofString "due") = some (.int d td)) (h2 : m (Str.ofString "work") = some (.ref W)) (h3 : m (Str.ofString "top") = some (.int A tA)) (h4 : m (Str.ofString "bottom") = some (.int B tB)) (h5 : m (Str.ofString "turns") = some (.int (M : Int) tM)) (hI : IntsAre vs (scB i)) (hd : duZ A B (M - i) d = V) (d0 : -2147483648 ≤ d) (d1 : d < 2147483648) : ScJ W A B V tA tB tM M N0 i m ((ol, lsO vs n) :: N0) := fun P k => by
  rw [norm6 h0 h1 h2 h3 h4 h5]; exact k _ _ _ _ _ _ hI hd d0 d1
theorem lscal_ct {A : Int} {M : Nat} (hd : dp + 25 < recursionLimit) (hu : un + 170 < cLine) (P : Pre w hH [] []) (v0 : -2147483648 ≤ v) (v1 : v < 2147483648) (a0 : 1 ≤ A) (a1 : A ≤ 100) (b0 : 1 ≤ B) (b1 : B ≤ 100) (hM : M ≤ 100)
    (hr : ∀ h' tk' , Post hH h' [] [] [] → R (.ok (.ret (.bool true))) ⟨h', gG, dD, tk', oO⟩) : codeAny (model PR w) (AA dp un fr gd) (.call (.ref 1370) ⟨[.int v tv, .int A tA, .int B tB, .int (M : Int) tM], []⟩) R ⟨hH, gG, dD, tT, oO⟩ := by
  (k_dflt (refine' enter (binds := [(Str.ofString "value", .int v tv), (Str.ofString "top", .int A tA), (Str.ofString "bottom", .int B tB), (Str.ofString "turns", .int (M : Int) tM)]) ?k1 ?k6 ?k7 ?k8 ?k9 ?kB ?_ ?c2 ?c3 ?c4 ?c5)); k_extra "ENT"; k_extra "d261"; (clear hT)
  obtain ⟨V, hV⟩ : ∃ V, duZ A B M v = V := ⟨_, rfl⟩
  have b0' : B ≠ 0 := by (k_extra "o")
  have b1' : -(2 ^ 28) ≤ B := by (k_extra "o")
  have b2' : B < 2 ^ 28 := by (k_extra "o")
  k_extra "z87"
  refine' scPack hW9 (News.tup1 (by assumption)) (by first | assumption | k_extra "d309" | exact nd_tl (by assumption)) ?_
  intro qa qt qk9 qv qi qn qb Rest hA hB hF9 N9 nd9
  k_dflt (refine' rngG (M := M) (ScJ W9 A B V tA tB tM M (((qa (nat_lit 8)), lsO [] 0) :: ((qa (nat_lit 4)), lsO [.int v tv] 0) :: ((qa (nat_lit 2)), instObj 1193 (qa (nat_lit 7))) :: ((qa (nat_lit 7)), stkD w (qt (nat_lit 2)) (qk9 (nat_lit 0)) (qa (nat_lit 8))) :: (W9, instObj 1244 (qa (nat_lit 0))) :: ((qa (nat_lit 0)), wkD w (qt (nat_lit 0)) (qt (nat_lit 1)) (qa (nat_lit 1)) (qa (nat_lit 2)) (qa (nat_lit 3)) (qa (nat_lit 4)) (qa (nat_lit 5)) (qa (nat_lit 6))) :: Rest)) rfl (by k_extra "w") hM (by k_extra "w") N9 nd9 ?j9 ?turn9 ?done9)
  case j9 => exact ScJ.mk (M := M) (i := 0) (d := v) rfl rfl rfl rfl rfl rfl .nil (show duZ A B (M - 0) v = V from hV) v0 v1
  case turn9 =>
    intro i t m1 nx h9 tk9 own hi hJ
    apply hJ
    clear hJ m1 nx
    intro f ol vs n d td hI hD d0 d1 nd9 F9 N9
    have hvl : vs.length = 6 * i := by rw [hI.length, scB_len]
    have hmu : IntMulOk d A := .of_right (intBits_le_64 (by (k_extra "o")) (by (k_extra "o")))
    k_extra "z88"
    rw [show M - i = (M - (i + 1)) + 1 from by (k_extra "o")] at hD
    have hb := wrap_bd (nearZ (d * A) B)
    all_goals (refine' turnG (nx := (Dl9, lsO (vs ++ [.int 176 _, .int 0 _, .int 176 _, .int 0 _, .int 69 _, .int 112 _]) 0) :: ((qa (nat_lit 8)), lsO [] 0) :: ((qa (nat_lit 4)), lsO [.int v tv] 0) :: ((qa (nat_lit 2)), instObj 1193 (qa (nat_lit 7))) :: ((qa (nat_lit 7)), stkD w (qt (nat_lit 2)) (qk9 (nat_lit 0)) (qa (nat_lit 8))) :: (W9, instObj 1244 (qa (nat_lit 0))) :: ((qa (nat_lit 0)), wkD w (qt (nat_lit 0)) (qt (nat_lit 1)) (qa (nat_lit 1)) (qa (nat_lit 2)) (qa (nat_lit 3)) (qa (nat_lit 4)) (qa (nat_lit 5)) (qa (nat_lit 6))) :: Rest) ?tF ?tN ?tnd ?tS ?tJ; (case tF => k_extra "w"); (case tN => k_extra "w"); k_extra "d141"; (case tnd => k_extra "d309"); (case tJ => exact ScJ.mk (M := M) (i := i + 1) rfl rfl rfl rfl rfl rfl (scI hI) hD hb.1 hb.2))
  case done9 =>
    intro m1 nx h9 tk9 hJ
    apply hJ
    clear hJ m1 nx
    intro f ol vs n d td hI hD d0 d1 nd9 F9 N9
    rw [Nat.sub_self] at hD
    have hD : d = V := hD
    subst hD
    have hS := (sc_law b0' M v (wz_self v0 v1)).trans hV
    have hvl : vs.length = 6 * M := by rw [hI.length, scB_len]
    k_extra "z"
    k_dflt (refine' callR (lawrun_ct (Ω := [((qa (nat_lit 8)), lsO [] 0), ((qa (nat_lit 4)), lsO [.int v tv] 0)]) (T1 := fctS w W9 qa qt qk9 qv qi qn qb) (hd := ?rhd) (hu := ?rhu) (P := ?rP) (hi9 := hI) (hr9 := inSc _) (hz9 := by (k_extra "o")) (n := 4 * M) (hn9 := rfl) (hn1 := by (k_extra "o")) (G9 := fun c oo hW Y => by subst hW; exact go_scaled (V := d) Y tblAll (by rw [hB]; exact b0') (by rw [hB]; exact b1') (by rw [hB]; exact b2') M ⟨by decide, rfl⟩ (Int.natCast_nonneg _) (by rw [hA, hB]; exact hS)) (hr := ?rhr)))
    case rhd => k_extra "d94"
    case rhu => k_extra "d94"
    case rP => refine' Pre.of ?qF ?qN ?qnd ?qS ?qX ?qT ?qf; (case qF => k_extra "w"); (case qN => k_extra "w"); (case qnd => exact nd9); (case qX => k_extra "w"); (case qT => k_extra "w"); k_extra "d35"; (case qf => exact FsP.objN (by k_extra "d312") (fun H B => hF9 H fun a o hm => B.no (.skip (.take (.take (sel_nil hm))))))
    case rhr =>
      intro h9 tk9 Ω9 Nw9 t9 hads hfin
      apply hfin
      clear hfin hads Ω9 Nw9
      intro t7 n7 n8
      k_extra "CW4"
      k_extra "z"
      all_goals first | exact hr _ _ (by k_extra "P0") | (rw [decide_eq_true rfl]; exact hr _ _ (by k_extra "P0")) | (rw [show (((4 * M : Nat) : Int) == 4 * (M : Int)) = true from beq_iff_eq.mpr (by (k_extra "o"))]; exact hr _ _ (by k_extra "P0"))
end
section
theorem farPack {KB K0 M : Objs} {x e0 : Addr × Obj} {z0 es : Addr} {wy : Int} {g0 g1 g2 : Tok} (hW : WkAt w zs cv sc KW W) (hB : Z3At w [.ref r0, .ref r1, .ref r2] [.int 2 te] KB z) (N9 : News g L h (x :: (KW ++ (cv, lsO [.int wy tv] nc) :: (zs, lsO [.ref z0, .ref z] nz) :: (KB ++ (es, lsO [.int 2 te] ne) :: (pts, lsO [.ref r0, .ref r1, .ref r2] np) :: (r2, tupO [.int x2 q2, .int y2 g2]) :: (r1, tupO [.int x1 q1, .int y1 g1]) :: (r0, tupO [.int x0 q0, .int y0 g0]) :: (K0 ++ e0 :: M))))) (nd9 : (ads (x :: (KW ++ (cv, lsO [.int wy tv] nc) :: (zs, lsO [.ref z0, .ref z] nz) :: (KB ++ (es, lsO [.int 2 te] ne) :: (pts, lsO [.ref r0, .ref r1, .ref r2] np) :: (r2, tupO [.int x2 q2, .int y2 g2]) :: (r1, tupO [.int x1 q1, .int y1 g1]) :: (r0, tupO [.int x0 q0, .int y0 g0]) :: (K0 ++ e0 :: M))))).Nodup)
    (kont : ∀ (qa : Nat → Addr) (qt : Nat → Nat → Tok) (qk : Nat → Tok) (qv : Nat → Value) (qi : Nat → Int) (qn : Nat → Nat) (qb : Nat → Bool) p d rd gt gk h0 h1 h2 h3 h4 h5 h6 n2 Rest, (qi (nat_lit 0) = wy ∧ qi (nat_lit 3) = x0 ∧ qi (nat_lit 4) = x1 ∧ qi (nat_lit 5) = x2 ∧ qi (nat_lit 6) = y1 ∧ qi (nat_lit 7) = y2 ∧ qi (nat_lit 8) = y0) → (∀ H, (∀ a o, (a, o) ∈ (W, instObj 1244 (qa (nat_lit 0))) :: ((qa (nat_lit 0)), wkD w (qt (nat_lit 0)) (qt (nat_lit 1)) (qa (nat_lit 1)) (qa (nat_lit 2)) (qa (nat_lit 3)) (qa (nat_lit 4)) (qa (nat_lit 5)) (qa (nat_lit 6))) :: ((qa (nat_lit 3)), lsO [.ref (qa (nat_lit 12)), .ref (qa (nat_lit 11))] (qn (nat_lit 0))) :: ((qa (nat_lit 11)), instObj 1300 (qa (nat_lit 13))) :: ((qa (nat_lit 13)), znD w (qt (nat_lit 3)) (qa (nat_lit 14)) (qa (nat_lit 15)) (qa (nat_lit 16)) (qa (nat_lit 17)) (qa (nat_lit 18))) :: Rest → H.get? a = some o) → Facts H (.tup (qa (nat_lit 21)) [.int (qi (nat_lit 3)) (qk (nat_lit 8)), .int (qi (nat_lit 8)) (qk (nat_lit 9))] :: fctF w W qa qt qk qv qi qn qb)) → News g L h (x :: (M ++ ((qa (nat_lit 8)), lsO [] 0) :: ((qa (nat_lit 9)), gsD w gt gk (qa (nat_lit 10)) p d (.int 0 h0) (.int 0 h1) (.int 0 h2) (.int 1 h3) (.int 1 h4) (.int 1 h5) (.int 1 h6) rd) :: ((qa (nat_lit 15)), lsO [.ref (qa (nat_lit 21)), .ref (qa (nat_lit 19)), .ref (qa (nat_lit 20))] n2) :: ((qa (nat_lit 24)), lsO [.bool false, .bool false] 0) :: (W, instObj 1244 (qa (nat_lit 0))) :: ((qa (nat_lit 0)), wkD w (qt (nat_lit 0)) (qt (nat_lit 1)) (qa (nat_lit 1)) (qa (nat_lit 2)) (qa (nat_lit 3)) (qa (nat_lit 4)) (qa (nat_lit 5)) (qa (nat_lit 6))) :: ((qa (nat_lit 3)), lsO [.ref (qa (nat_lit 12)), .ref (qa (nat_lit 11))] (qn (nat_lit 0))) :: ((qa (nat_lit 11)), instObj 1300 (qa (nat_lit 13))) :: ((qa (nat_lit 13)), znD w (qt (nat_lit 3)) (qa (nat_lit 14)) (qa (nat_lit 15)) (qa (nat_lit 16)) (qa (nat_lit 17)) (qa (nat_lit 18))) :: Rest)) → (ads (x :: (M ++ ((qa (nat_lit 8)), lsO [] 0) :: ((qa (nat_lit 9)), gsD w gt gk (qa (nat_lit 10)) p d (.int 0 h0) (.int 0 h1) (.int 0 h2) (.int 1 h3) (.int 1 h4) (.int 1 h5) (.int 1 h6) rd) :: ((qa (nat_lit 15)), lsO [.ref (qa (nat_lit 21)), .ref (qa (nat_lit 19)), .ref (qa (nat_lit 20))] n2) :: ((qa (nat_lit 24)), lsO [.bool false, .bool false] 0) :: (W, instObj 1244 (qa (nat_lit 0))) :: ((qa (nat_lit 0)), wkD w (qt (nat_lit 0)) (qt (nat_lit 1)) (qa (nat_lit 1)) (qa (nat_lit 2)) (qa (nat_lit 3)) (qa (nat_lit 4)) (qa (nat_lit 5)) (qa (nat_lit 6))) :: ((qa (nat_lit 3)), lsO [.ref (qa (nat_lit 12)), .ref (qa (nat_lit 11))] (qn (nat_lit 0))) :: ((qa (nat_lit 11)), instObj 1300 (qa (nat_lit 13))) :: ((qa (nat_lit 13)), znD w (qt (nat_lit 3)) (qa (nat_lit 14)) (qa (nat_lit 15)) (qa (nat_lit 16)) (qa (nat_lit 17)) (qa (nat_lit 18))) :: Rest))).Nodup → G) : G := by
  rw [show K0 ++ e0 :: M = (K0 ++ [e0]) ++ M from by simp] at N9 nd9
  generalize K0 ++ [e0] = M0 at N9 nd9
  refine hW (fun K => News g L h (x :: (K ++ (cv, lsO [.int wy tv] nc) :: (zs, lsO [.ref z0, .ref z] nz) :: (KB ++ (es, lsO [.int 2 te] ne) :: (pts, lsO [.ref r0, .ref r1, .ref r2] np) :: (r2, tupO [.int x2 q2, .int y2 g2]) :: (r1, tupO [.int x1 q1, .int y1 g1]) :: (r0, tupO [.int x0 q0, .int y0 g0]) :: (M0 ++ M)))) → (ads (x :: (K ++ (cv, lsO [.int wy tv] nc) :: (zs, lsO [.ref z0, .ref z] nz) :: (KB ++ (es, lsO [.int 2 te] ne) :: (pts, lsO [.ref r0, .ref r1, .ref r2] np) :: (r2, tupO [.int x2 q2, .int y2 g2]) :: (r1, tupO [.int x1 q1, .int y1 g1]) :: (r0, tupO [.int x0 q0, .int y0 g0]) :: (M0 ++ M))))).Nodup → G) (fun Wd wt wn ts gt gk rt S k kd l Sd f p d rd rdd sg h0 h1 h2 h3 h4 h5 h6 d0 d1 p0 p1 f0 f1 tm N9 nd9 => ?_) N9 nd9
  refine hB (fun K => News g L h (x :: (_ ++ (cv, lsO [.int wy tv] nc) :: (zs, lsO [.ref z0, .ref z] nz) :: (K ++ (es, lsO [.int 2 te] ne) :: (pts, lsO [.ref r0, .ref r1, .ref r2] np) :: (r2, tupO [.int x2 q2, .int y2 g2]) :: (r1, tupO [.int x1 q1, .int y1 g1]) :: (r0, tupO [.int x0 q0, .int y0 g0]) :: (M0 ++ M)))) → (ads (x :: (_ ++ (cv, lsO [.int wy tv] nc) :: (zs, lsO [.ref z0, .ref z] nz) :: (K ++ (es, lsO [.int 2 te] ne) :: (pts, lsO [.ref r0, .ref r1, .ref r2] np) :: (r2, tupO [.int x2 q2, .int y2 g2]) :: (r1, tupO [.int x1 q1, .int y1 g1]) :: (r0, tupO [.int x0 q0, .int y0 g0]) :: (M0 ++ M))))).Nodup → G) (fun zd o c th e b b0 b1 b2 zt n1 n2 n3 n4 n5 N9 nd9 => ?_) N9 nd9
  refine perm_NN (N' := x :: (M ++ (l, lsO [] 0) :: (Sd, gsD w gt gk f p d (.int 0 h0) (.int 0 h1) (.int 0 h2) (.int 1 h3) (.int 1 h4) (.int 1 h5) (.int 1 h6) rd) :: (c, lsO [.ref r0, .ref r1, .ref r2] n2) :: (b0, lsO [.bool false, .bool false] 0) :: (W, instObj 1244 Wd) :: (Wd, wkD w wt wn S k zs cv sg sc) :: (zs, lsO [.ref z0, .ref z] nz) :: (z, instObj 1300 zd) :: (zd, znD w zt o c th e b) :: (k, instObj 1193 kd) :: (kd, stkD w ts tm l) :: (rd, instObj 532 rdd) :: (rdd, rdD w rt) :: (d, tupO [.int 16384 d0, .int 0 d1]) :: (p, tupO [.int 16384 p0, .int 0 p1]) :: (f, tupO [.int 16384 f0, .int 0 f1]) :: (S, instObj 1130 Sd) :: (cv, lsO [.int wy tv] nc) :: (b, lsO [.bool true, .bool true, .bool true] n5) :: (e, lsO [.int 2 te] n4) :: (th, lsO [.ref b0, .ref b1, .ref b2] n3) :: (b2, lsO [.bool false, .bool false] 0) :: (b1, lsO [.bool false, .bool false] 0) :: (o, lsO [.ref r0, .ref r1, .ref r2] n1) :: (es, lsO [.int 2 te] ne) :: (pts, lsO [.ref r0, .ref r1, .ref r2] np) :: (r2, tupO [.int x2 q2, .int y2 g2]) :: (r1, tupO [.int x1 q1, .int y1 g1]) :: (r0, tupO [.int x0 q0, .int y0 g0]) :: M0)) ?_ N9 nd9 (kont (atL [Wd, S, k, zs, cv, sg, sc, kd, l, Sd, f, z, z0, zd, o, c, th, e, b, r1, r2, r0, r1, r2, b0, b1, b2] 0) (atL [wt, wn, ts, zt] (fun _ => 0)) (atL [tm, f0, f1, tv, q1, g1, q2, g2, q0, g0, q1, g1, q2, g2, te] 0) (fun _ => .none) (atL [wy, x1, x2, x0, x1, x2, y1, y2, y0, y1, y2] 0) (atL [nz, n1, n3, 0, 0, nc, n4] 0) (fun _ => false) p d rd gt gk h0 h1 h2 h3 h4 h5 h6 n2 _ ⟨rfl, rfl, rfl, rfl, rfl, rfl, rfl⟩ (fun H9 n9 => ?_))
  · exact List.Perm.cons _ ((List.Perm.cons _ (pull (l1 := [_, _, _, _, _, _, _, _]) (pull (l1 := [_, _, _, _, _, _, _, _, _, _, _, _, _, _, _, _, _, _]) (pull (l1 := [_, _, _, _, _, _, _, _, _, _, _, _, _, _, _, _, _]) (pull (l1 := [_, _, _, _, _, _, _, _]) (pull (l1 := [_, _, _, _, _, _, _, _]) (pull (l1 := [_, _, _, _, _, _, _, _, _]) (pull (l1 := [_, _, _, _, _, _, _, _, _, _, _, _, _, _, _]) (pull (l1 := [_, _, _, _, _, _, _, _, _, _, _, _, _, _, _]) (List.Perm.refl _)))))))))).trans (List.perm_append_comm (l₁ := (l, lsO [] 0) :: (Sd, gsD w gt gk f p d (.int 0 h0) (.int 0 h1) (.int 0 h2) (.int 1 h3) (.int 1 h4) (.int 1 h5) (.int 1 h6) rd) :: (c, lsO [.ref r0, .ref r1, .ref r2] n2) :: (b0, lsO [.bool false, .bool false] 0) :: (W, instObj 1244 Wd) :: (Wd, wkD w wt wn S k zs cv sg sc) :: (zs, lsO [.ref z0, .ref z] nz) :: (z, instObj 1300 zd) :: (zd, znD w zt o c th e b) :: (k, instObj 1193 kd) :: (kd, stkD w ts tm l) :: (rd, instObj 532 rdd) :: (rdd, rdD w rt) :: (d, tupO [.int 16384 d0, .int 0 d1]) :: (p, tupO [.int 16384 p0, .int 0 p1]) :: (f, tupO [.int 16384 f0, .int 0 f1]) :: (S, instObj 1130 Sd) :: (cv, lsO [.int wy tv] nc) :: (b, lsO [.bool true, .bool true, .bool true] n5) :: (e, lsO [.int 2 te] n4) :: (th, lsO [.ref b0, .ref b1, .ref b2] n3) :: (b2, lsO [.bool false, .bool false] 0) :: (b1, lsO [.bool false, .bool false] 0) :: (o, lsO [.ref r0, .ref r1, .ref r2] n1) :: (es, lsO [.int 2 te] ne) :: (pts, lsO [.ref r0, .ref r1, .ref r2] np) :: (r2, tupO [.int x2 q2, .int y2 g2]) :: (r1, tupO [.int x1 q1, .int y1 g1]) :: (r0, tupO [.int x0 q0, .int y0 g0]) :: M0) (l₂ := M)))
  · exact Facts.tup (tup_of (n9 _ _ (by k_extra "d308"))) (Facts.obj (n9 _ _ (by k_extra "d308")) (Facts.obj (n9 _ _ (by k_extra "d308")) (Facts.obj (n9 _ _ (by k_extra "d308")) (Facts.obj (n9 _ _ (by k_extra "d308")) (Facts.obj (n9 _ _ (by k_extra "d308")) (Facts.obj (n9 _ _ (by k_extra "d308")) (Facts.obj (n9 _ _ (by k_extra "d308")) (Facts.obj (n9 _ _ (by k_extra "d308")) (Facts.obj (n9 _ _ (by k_extra "d308")) (Facts.obj (n9 _ _ (by k_extra "d308")) (Facts.obj (n9 _ _ (by k_extra "d308")) (Facts.obj (n9 _ _ (by k_extra "d308")) (Facts.obj (n9 _ _ (by k_extra "d308")) (Facts.obj (n9 _ _ (by k_extra "d308")) (Facts.tup (tup_of (n9 _ _ (by k_extra "d308"))) (Facts.tup (tup_of (n9 _ _ (by k_extra "d308"))) (Facts.tup (tup_of (n9 _ _ (by k_extra "d308"))) (Facts.tup (tup_of (n9 _ _ (by k_extra "d308"))) (Facts.tup (tup_of (n9 _ _ (by k_extra "d308"))) (Facts.tup (tup_of (n9 _ _ (by k_extra "d308"))) (Facts.nil)))))))))))))))))))))
theorem Post.wz {E' : Value → Shared → Prop} {v : Value} {s' : Shared} (P : Post h h' [] [] []) (F : Fr g L h m) (Nw : News g L h N) (k : Fr g L h' m → News g L h' N → Q v s') : wants Q E' (.ok (.ret v)) s' :=
  k (P.use F (N := []) (fun p hp => nomatch hp) List.nodup_nil .nil).1 (fun p hp => ⟨P.kept _ _ (fun q => nomatch q) (Nw p hp).1, (Nw p hp).2⟩)
theorem stCellN {M : Model} {A : Around} {E : Value → Shared → Prop} {name : Str} {scope : Scope} {a : Addr} {cd : Value} {h₀ : Heap} {x : Str} {o : Obj} {v₀ : Option Value} {v : Value} {own rest : Objs} {Q : Unit → Shared → Prop} (F : Fr h₀ L σ.heap m) (N : News h₀ L σ.heap (own ++ (c, o) :: rest)) (nd : (ads (own ++ (c, o) :: rest)).Nodup)
    (hc : (cellsFrom (L + 1) scope.names []).lookup x = some c) (hd : o.data = .cell v₀)
    (h : ∀ h' o', Fr h₀ L h' m → News h₀ L h' (own ++ (c, o') :: rest) → (ads (own ++ (c, o') :: rest)).Nodup → o'.data = .cell (some v) → Q () { σ with heap := h' })
    (hk : scope.kind = .function) (hl : (envOfC name scope L a cd).kindOf x = some .cell) :
    wpAny M A (storeName (envOfC name scope L a cd) x v) Q E σ := by
  have e : ∀ y : Obj, ads (own ++ (c, y) :: rest) = ads own ++ c :: ads rest := fun y => ads_app _ _
  have nd2 := nd
  rw [e, List.nodup_append] at nd2
  refine stCN F N hc hd (fun p hp q => nd2.2.2 _ (ads_mem hp) c (.head _) q) (fun p hp q => (List.nodup_cons.mp nd2.2.1).1 (q ▸ ads_mem hp)) (fun h' o' F' N' d' => h h' o' F' N' ?_ d') hk hl
  rw [e]; rw [e] at nd; exact nd
theorem in7f : KBa.In [176, 0, 176, 0, 69, 56, 49] := by
  intro k hk
  simp only [List.mem_cons, List.not_mem_nil, or_false] at hk
  (k_extra "o")
theorem lfar_ct (hd : dp + 25 < recursionLimit) (hu : un + 170 < cLine) (P : Pre w hH [] []) (y0 : -2147483648 ≤ y) (y1 : y < 2147483648)
    (hr : ∀ h' tk' , Post hH h' [] [] [] → R (.ok (.ret (.bool true))) ⟨h', gG, dD, tk', oO⟩) : codeAny (model PR w) (AA dp un fr gd) (.call (.ref 1382) ⟨[.int v tv, .int y ty], []⟩) R ⟨hH, gG, dD, tT, oO⟩ := by
  (k_dflt (refine' enterC (binds := [(Str.ofString "place", .int v tv), (Str.ofString "way", .int y ty)]) ?k1 ?k6 ?k7 ?k8 ?k9 ?kB ?kD ?_ ?c2 ?c3 ?c4)); k_extra "ENTC"; k_extra "d261"; (clear hT)
  k_extra "z89"
  refine' farPack hW9 hB9 (by assumption) (by first | assumption | k_extra "d6") ?_
  intro qa qt qk9 qv qi qn qb p d rd gt gk h0 h1 h2 h3 h4 h5 h6 n2 Rest hv hF9 N9 nd9
  k_extra "d212"
  k_dflt (refine' callR (lawrun_ct (Ω := [((qa (nat_lit 8)), lsO [] 0), ((qa (nat_lit 9)), gsD w gt gk (qa (nat_lit 10)) p d (.int 0 h0) (.int 0 h1) (.int 0 h2) (.int 1 h3) (.int 1 h4) (.int 1 h5) (.int 1 h6) rd), ((qa (nat_lit 15)), lsO [.ref (qa (nat_lit 21)), .ref (qa (nat_lit 19)), .ref (qa (nat_lit 20))] n2), ((qa (nat_lit 24)), lsO [.bool false, .bool false] 0)]) (hd := ?rhd) (hu := ?rhu) (P := ?rP) (hi9 := ?ri) (hr9 := in7f) (hz9 := ?rz) (n := 5) (n0 := 5) (hn9 := rfl) (hn1 := by decide) (G9 := ?rG) (hr := ?rhr)))
  case rhd => k_extra "d94"
  case rhu => k_extra "d94"
  case rP => refine' Pre.of ?qF ?qN ?qnd ?qS ?qX ?qT ?qf; (case qF => k_extra "w"); (case qN => exact N9); (case qnd => exact nd9); (case qX => k_extra "w"); (case qT => k_extra "w"); k_extra "d35"; (case qf => exact FsP.objN (by k_extra "d312") (fun H B => hF9 H fun a o hm => B.no (.skip (.skip (.skip (.take (.take (.take (.take (sel_nil hm))))))))))
  case ri => k_extra "d209"
  case rz => exact Nat.le_of_ble_eq_true rfl
  case rG => exact fun c oo hW Y => by subst hW; exact go_far Y tblAll
  case rhr =>
    intro h9 tk9 Ω9 Nw9 t9 hads hfin
    apply hfin
    clear hfin hads Ω9 Nw9
    intro rA rB r t1 t2 t3 t4 t5 t6 n n1 t'
    k_extra "CW4"
    k_extra "z90"
    k_dflt (refine' stCellN (own := [_, _, _, _]) ?sF ?sN ?sd ?sc ?se ?sh ?sk ?sl)
    case sF => k_extra "w"
    case sN => exact N9
    case sd => exact nd9
    case sc => rfl
    case sk => rfl
    case sl => rfl
    case se => assumption
    case sh =>
      intro h9 o9 F9 N9 nd9 do9
      k_extra "d212"
      (try dsimp only)
      k_extra "z91"
      obtain ⟨q0, q3, q4, q5, q6, q7, q8⟩ := hv
      have e0 := wz_self y0 y1
      refine (congrArg (fun b => R (.ok (.ret (.bool b))) _) ?_).mpr (hr _ _ (by k_extra "P0"))
      rw [q0, q3, q4, q5, q6, q7, q8, e0]
      refine Bool.and_eq_true_iff.mpr ⟨Bool.and_eq_true_iff.mpr ⟨beq_self_eq_true _, by decide⟩, Bool.and_eq_true_iff.mpr ⟨Bool.and_eq_true_iff.mpr ⟨beq_iff_eq.mpr rfl, by decide⟩, Bool.and_eq_true_iff.mpr ⟨beq_iff_eq.mpr rfl, by decide⟩⟩⟩
end
section
section
open LCg
variable {prog : Program} {w : World} {A : Around} {σ : Shared} {h₀ : Heap} {L : Addr} {m : Str → Option Value} {env : Env} {elt : Expr} {x : Str} {scope : Scope} {cl : List (Str × Addr)} {Fin : List Value → List (Addr × Obj) → Prop} {news : Objs}
theorem restJ {P : Nat → Value → Prop} (J : Objs → Prop) (V : Value → Prop) (hJ0 : J news) (nd0 : (ads news).Nodup)
    (hel : ∀ nw I oI C oC D m₂ h tk ys (E' : Value → Shared → Prop) (Q : Value → Shared → Prop), J nw → NsObj oC m₂ → Fr h₀ L h m → News h₀ L h ((I, oI) :: (C, oC) :: (D, lst ys) :: nw) → (ads ((I, oI) :: (C, oC) :: (D, lst ys) :: nw)).Nodup →
      (∀ h' tk' y new nw', Fr h₀ L h' m → News h₀ L h' (new ++ ((I, oI) :: (C, oC) :: (D, lst ys) :: nw')) → (ads (new ++ ((I, oI) :: (C, oC) :: (D, lst ys) :: nw'))).Nodup → J nw' → V y → Q y { σ with heap := h', toks := tk' }) →
      wpAny (model prog w) A (eval elt (compEnvC scope cl C env)) Q E' { σ with heap := h, toks := tk }) :
    ∀ (k i : Nat) (ys : List Value) (news : Objs), J news → (ads news).Nodup → (∀ y ∈ ys, V y) → (fin : ∀ (zs : List Value) (nw : Objs), zs.length = ys.length + k → (∀ y ∈ zs, V y) → J nw → (ads nw).Nodup → Fin zs nw) →
      CompRest prog w A h₀ L m env elt x scope cl σ (fun _ => True) P Fin k i ys news
  | 0, i, ys, news, hJ, nd, hV, fin => CompRest.zero (fin ys news rfl hV hJ nd)
  | k + 1, i, ys, news, hJ, nd, hV, fin => by
    refine CompRest.succ fun v I oI C oC D m₂ h tk E' hv hns hm F N off ne => ?_
    have nd3 : (ads ((I, oI) :: (C, oC) :: (D, lst ys) :: news)).Nodup := by
      have hoff : ∀ p ∈ news, p.1 ≠ I ∧ p.1 ≠ C ∧ p.1 ≠ D := fun p hp => Off3.mem off p hp
      refine List.nodup_cons.mpr ⟨fun q => ?_, List.nodup_cons.mpr ⟨fun q => ?_, List.nodup_cons.mpr ⟨fun q => ?_, nd⟩⟩⟩
      · rcases List.mem_cons.mp q with q | q
        · exact ne.1 q
        · rcases List.mem_cons.mp q with q | q
          · exact ne.2.1 q
          · obtain ⟨o, ho⟩ := mem_ads q; exact (hoff _ ho).1 rfl
      · rcases List.mem_cons.mp q with q | q
        · exact ne.2.2 q
        · obtain ⟨o, ho⟩ := mem_ads q; exact (hoff _ ho).2.1 rfl
      · obtain ⟨o, ho⟩ := mem_ads q; exact (hoff _ ho).2.2 rfl
    refine hel news I oI C oC D m₂ h tk ys E' _ hJ hns F N nd3 fun h' tk' y new nw' F' N' nd' hJ' hVy => ?_
    rw [ads_app, List.nodup_append] at nd'
    have n1 := List.nodup_cons.mp nd'.2.1
    have n2 := List.nodup_cons.mp n1.2
    have n3 := List.nodup_cons.mp n2.2
    refine ((Exists.intro h' (Exists.intro tk' (Exists.intro nw' ⟨rfl, F', fun p hp => N' p (List.mem_append_right _ hp), Off3.of fun p hp => have z : p.1 ∈ ads nw' := List.mem_map_of_mem hp; ⟨fun q => n1.1 (.tail _ (.tail _ (q ▸ z))), fun q => n2.1 (.tail _ (q ▸ z)), fun q => n3.1 (q ▸ z)⟩, trivial, ?_⟩))) : CompEnd h₀ L m { σ with heap := h, toks := tk } I oI C oC D (lst ys) (fun _ => True) (fun y news' => CompRest prog w A h₀ L m env elt x scope cl σ (fun _ => True) P Fin k (i + 1) (ys ++ [y]) news') y { σ with heap := h', toks := tk' })
    show CompRest prog w A h₀ L m env elt x scope cl σ (fun _ => True) P Fin k (i + 1) (ys ++ [y]) nw'
    refine restJ J V hJ0 nd0 hel k (i + 1) (ys ++ [y]) nw' hJ' n3.2 (fun z hz => ?_) (fun zs nw e => fin zs nw (by rw [e, List.length_append]; simp only [List.length_cons, List.length_nil]; (k_extra "o")))
    rcases List.mem_append.mp hz with hz | hz
    · exact hV z hz
    · rw [List.mem_singleton.mp hz]; exact hVy
theorem restSrc {P : Nat → Value → Prop} {b : Int} {T : Objs} (ns : List Int) (k : Nat) (a0 : 0 ≤ a) (b0 : 0 ≤ b) (b1 : b < 2147483647) (nd0 : (ads ((so, lsO [.int a ta, .int b tb] n) :: T)).Nodup)
    (hel : ∀ a b ta tb n I oI C oC D m₂ h tk ys (E' : Value → Shared → Prop) (Q : Value → Shared → Prop), 0 ≤ a → 0 ≤ b → b < 2147483647 → NsObj oC m₂ → Fr h₀ L h m → News h₀ L h ((I, oI) :: (C, oC) :: (D, lst ys) :: (so, lsO [.int a ta, .int b tb] n) :: T) → (ads ((I, oI) :: (C, oC) :: (D, lst ys) :: (so, lsO [.int a ta, .int b tb] n) :: T)).Nodup →
      (∀ h' tk' i t new a' b' ta' tb' n', 0 ≤ a' → 0 ≤ b' → b' < 2147483647 → Fr h₀ L h' m → News h₀ L h' (new ++ ((I, oI) :: (C, oC) :: (D, lst ys) :: (so, lsO [.int a' ta', .int b' tb'] n') :: T)) → (ads (new ++ ((I, oI) :: (C, oC) :: (D, lst ys) :: (so, lsO [.int a' ta', .int b' tb'] n') :: T))).Nodup → i ∈ ns → Q (.int i t) { σ with heap := h', toks := tk' }) →
      wpAny (model prog w) A (eval elt (compEnvC scope cl C env)) Q E' { σ with heap := h, toks := tk })
    (fin : ∀ (zs : List Value) a b ta tb n, zs.length = k → (∀ y ∈ zs, ∃ i t, y = .int i t ∧ i ∈ ns) → 0 ≤ a → 0 ≤ b → b < 2147483647 → (ads ((so, lsO [.int a ta, .int b tb] n) :: T)).Nodup → Fin zs ((so, lsO [.int a ta, .int b tb] n) :: T)) :
    CompRest prog w A h₀ L m env elt x scope cl σ (fun _ => True) P Fin k 0 [] ((so, lsO [.int a ta, .int b tb] n) :: T) := by
  refine restJ (fun nw => ∃ a b ta tb n, 0 ≤ a ∧ 0 ≤ b ∧ b < 2147483647 ∧ nw = (so, lsO [.int a ta, .int b tb] n) :: T) (fun y => ∃ i t, y = .int i t ∧ i ∈ ns) ⟨_, _, _, _, _, a0, b0, b1, rfl⟩ nd0 ?_ k 0 [] _ ⟨_, _, _, _, _, a0, b0, b1, rfl⟩ nd0 (fun _ h => nomatch h) ?_
  · rintro nw I oI C oC D m₂ h tk ys E' Q ⟨a, b, ta, tb, n, q1, q2, q3, rfl⟩ hns F N nd kk
    exact hel a b ta tb n I oI C oC D m₂ h tk ys E' Q q1 q2 q3 hns F N nd fun h' tk' i t new a' b' ta' tb' n' p1 p2 p3 F' N' nd' hi => kk h' tk' _ new _ F' N' nd' ⟨_, _, _, _, _, p1, p2, p3, rfl⟩ ⟨i, t, rfl, hi⟩
  · rintro zs nw e hV ⟨a, b, ta, tb, n, q1, q2, q3, rfl⟩ nd
    exact fin zs a b ta tb n (by simpa using e) hV q1 q2 q3 nd
end
theorem mem_ints {v : Value} : ∀ {vs : List Value} {ns : List Int}, IntsAre vs ns → v ∈ vs → ∃ i t, v = .int i t ∧ i ∈ ns
  | _, _, .nil, h => nomatch h
  | _, _, .cons i t r, h => by
    rcases List.mem_cons.mp h with h | h
    · exact ⟨i, t, h, .head _⟩
    · obtain ⟨j, u, e, hj⟩ := mem_ints r h
      exact ⟨j, u, e, .tail _ hj⟩
theorem inR {lo hi : Int} (h : ns.all (fun i => decide (lo ≤ i) && decide (i < hi)) = true) (m : i ∈ ns) : lo ≤ i ∧ i < hi := by
  have := List.all_eq_true.mp h i m
  rw [Bool.and_eq_true] at this
  exact ⟨of_decide_eq_true this.1, of_decide_eq_true this.2⟩
theorem difE : x + y - x = y := by (k_extra "o")
theorem difL (h : y ∈ [1, 2, -3, 64]) : x + y - x ≠ 0 := by
  rw [difE]
  rintro rfl
  revert h; decide
theorem difA (h : y ∈ [1, 2, -3, 64]) : -(2 ^ 28) ≤ x + y - x := by rw [difE]; exact (inR (lo := -(2 ^ 28)) (hi := 2 ^ 28) (by decide) h).1
theorem difB (h : y ∈ [1, 2, -3, 64]) : x + y - x < 2 ^ 28 := by rw [difE]; exact (inR (lo := -(2 ^ 28)) (hi := 2 ^ 28) (by decide) h).2
theorem wzF (h : x ∈ [0, 0, 7, -90]) : wrapZ x = x := have := inR (lo := -2147483648) (hi := 2147483648) (by decide) h; wz_self this.1 this.2
theorem kM {k : Nat} (h : (k : Int) < (n : Int)) (e : n ≤ 100) : 1 + k ≤ 100 := by (k_extra "o")
theorem kA {k : Nat} : (1 : Int) ≤ 1 + (k : Int) := by (k_extra "o")
theorem kB {k : Nat} (h : (k : Int) < (n : Int)) (e : n ≤ 100) : 1 + (k : Int) ≤ 100 := by (k_extra "o")
theorem lawDrop {a1 a2 a3 a4 a5 R S9 x C2 C1 : Addr × Obj} {f : Objs} (N : News g L h (a1 :: a2 :: a3 :: a4 :: a5 :: R :: S9 :: x :: C2 :: C1 :: f)) (nd : (ads (a1 :: a2 :: a3 :: a4 :: a5 :: R :: S9 :: x :: C2 :: C1 :: f)).Nodup) (k : News g L h (S9 :: R :: C2 :: C1 :: f) → (ads (S9 :: R :: C2 :: C1 :: f)).Nodup → G) : G := by
  have S : (R :: S9 :: C2 :: C1 :: f).Sublist (a1 :: a2 :: a3 :: a4 :: a5 :: R :: S9 :: x :: C2 :: C1 :: f) := .cons _ (.cons _ (.cons _ (.cons _ (.cons _ (.cons_cons _ (.cons_cons _ (.cons _ (.cons_cons _ (.cons_cons _ (List.Sublist.refl _))))))))))
  exact perm_NN (List.Perm.swap S9 R _) (fun p hp => N p (S.subset hp)) (List.Nodup.sublist (S.map (·.1)) nd) k
theorem four {P : Value → Prop} : ∀ {zs : List Value}, zs.length = 4 → (∀ y ∈ zs, P y) → ∃ a b c d, zs = [a, b, c, d] ∧ P a ∧ P b ∧ P c ∧ P d
  | [a, b, c, d], _, h => ⟨a, b, c, d, rfl, h _ (.head _), h _ (.tail _ (.head _)), h _ (.tail _ (.tail _ (.head _))), h _ (.tail _ (.tail _ (.tail _ (.head _))))⟩
theorem Outs.up {f f' : Objs} (O : Outs outer f) (u : UpF f f') : Outs outer f' := by
  induction O generalizing f' with
  | nil => cases u; exact .nil
  | cons a b c _ ih => cases u with | cons u => exact .cons a b c (ih u)
theorem UpF.trans : ∀ {f f' f'' : Objs}, UpF f f' → UpF f' f'' → UpF f f''
  | _, _, _, .nil, .nil => .nil
  | _, _, _, .cons u, .cons (sl := sl) v => .cons (sl := sl) (UpF.trans u v)
theorem law_ct {sn : Nat} {sd : Option Addr} {ss : Array (Option Value)} (O : Outs outer frs) (hd : dp + 30 < recursionLimit) (hu : un + 190 < cLine) (P : Pre w hH frs [.obj sc { cls := .type "list", dict := sd, data := .seq vs.toArray sn, slots := ss }]) (hi : IntsAre vs ns) (hz : (vs.length : Int) ≤ 100)
    (hr : ∀ h' tk' frs', UpF frs frs' → Post hH h' frs frs' [] → R (.ok (.ret (.bool true))) ⟨h', gG, dD, tk', oO⟩) : codeAny (model PR w) (AA dp un (some outer) gd) (.call (.ref 1387) ⟨[.ref sc], []⟩) R ⟨hH, gG, dD, tT, oO⟩ := by
  (k_dflt (refine' enterC (binds := [(Str.ofString "script", .ref sc)]) ?k1 ?k6 ?k7 ?k8 ?k9 ?kB ?kD ?_ ?c2 ?c3 ?c4)); k_extra "ENTC"; k_extra "d261"; k_extra "d289"
  k_extra "z92"
  k_dflt (refine' Pre.ofLk (objs := frs) (T := [.obj _ (lsO [.int 0 _, .int 1 _, .int 2 _] _)]) ?yFA ?yNA ?yndA ?ySA ?yXA ?yTA ?yfA ?ykA)
  case yFA => k_extra "w"
  case yNA => k_extra "w"
  case yndA => first | assumption | k_extra "d309" | k_extra "d313"
  case yXA => k_extra "w"
  case yTA => k_extra "w"
  case ySA => k_extra "d315"
  case yfA => exact FsP.objN (by (k_extra "d22"; first | done | fail)) FsP.nil
  intro oL esL nL hoL hdL PL
  refine' callR (trright_ct (M := 7) (frs := (L', oL) :: frs) (O := .cons (fun z => nomatch z) rfl hdL O) (hd := ?yhdA) (hu := ?yhuA) (P := PL) (hM1 := by decide) (hM := by decide) (w0 := by decide) (w1 := by decide) (w2 := by decide) (e0 := by decide) (hr := ?yhrA))
  case yhdA => k_extra "d94"
  case yhuA => k_extra "d94"
  intro h9 tk9 fr9 u9 P9
  refine Post.wUL (A := []) (A' := []) u9 P9 hoL (by k_extra "w") (by k_extra "w") (by first | assumption | k_extra "d309" | k_extra "d313") (fun f' e => by ((repeat (first | exact Emb.all e | apply Emb.skip)); first | done | fail)) ?_
  clear P9 u9 hoL hdL PL
  intro fr1 ufr1 F9 N9 nd9
  (try dsimp only [List.nil_append] at N9 nd9)
  k_extra "z92"
  k_dflt (refine' stCellN (own := [_, _, _]) ?sFS ?sNS ?sdS ?scS ?seS ?shS ?skS ?slS)
  case sFS => k_extra "w"
  case sNS => assumption
  case sdS => (try dsimp only [List.cons_append, List.nil_append]); first | assumption | k_extra "d309" | k_extra "d313"
  case scS => rfl
  case skS => rfl
  case slS => rfl
  case seS => assumption
  intro h9 o9 F9 N9 nd9 do9
  k_extra "d212"
  (try dsimp only)
  k_extra "z92"
  k_dflt (refine' stCellN (own := [_, _, _]) ?sFR ?sNR ?sdR ?scR ?seR ?shR ?skR ?slR)
  case sFR => k_extra "w"
  case sNR => assumption
  case sdR => (try dsimp only [List.cons_append, List.nil_append]); first | assumption | k_extra "d309" | k_extra "d313"
  case scR => rfl
  case skR => rfl
  case slR => rfl
  case seR => assumption
  intro h9 o9 F9 N9 nd9 do9
  k_extra "d212"
  (try dsimp only)
  k_extra "z92"
  k_dflt (refine' callR (lone_ct (hd := ?qhd) (hu := ?qhu) (P := ?qP) (a0 := ?oaA) (b0 := ?obA) (b1 := ?ocA) (q0 := ?oqA) (q1 := ?orA) (hr := ?_)))
  k_extra "CP6"
  case oaA => assumption
  case obA => assumption
  case ocA => assumption
  case oqA => exact (by decide : (1 : Int) ≤ 4)
  case orA => exact (by decide : (4 : Int) ≤ 64)
  intro h9 tk9 aA bA taA tbA nA vA haA hbA hcA hvA P9
  obtain ⟨i0, ui0, rfl, hi0⟩ := mem_ints (ns := [0, 0, 7, -90]) (by k_extra "d209") hvA
  revert P9
  k_extra "CW4"
  k_extra "z92"
  k_dflt (refine' callR (lone_ct (hd := ?qhd) (hu := ?qhu) (P := ?qP) (a0 := ?oaB) (b0 := ?obB) (b1 := ?ocB) (q0 := ?oqB) (q1 := ?orB) (hr := ?_)))
  k_extra "CP6"
  case oaB => assumption
  case obB => assumption
  case ocB => assumption
  case oqB => exact (by decide : (1 : Int) ≤ 4)
  case orB => exact (by decide : (4 : Int) ≤ 64)
  intro h9 tk9 aB bB taB tbB nB vB haB hbB hcB hvB P9
  obtain ⟨i1, ui1, rfl, hi1⟩ := mem_ints (ns := [1, 2, -3, 64]) (by k_extra "d209") hvB
  revert P9
  k_extra "CW4"
  k_extra "z92"
  k_dflt (refine' callR (lone_ct (hd := ?qhd) (hu := ?qhu) (P := ?qP) (a0 := ?oaC) (b0 := ?obC) (b1 := ?ocC) (q0 := ?oqC) (q1 := ?orC) (hr := ?_)))
  k_extra "CP6"
  case oaC => assumption
  case obC => assumption
  case ocC => assumption
  case oqC => exact (by decide : (1 : Int) ≤ 10)
  case orC => exact (by decide : (10 : Int) ≤ 64)
  intro h9 tk9 aC bC taC tbC nC vC haC hbC hcC hvC P9
  obtain ⟨i2, ui2, rfl, hi2⟩ := mem_ints (ns := [2147483647, -2147483648, 2147483608, 65537, 46341, 3, 10, -11, 700, 4096]) (by k_extra "d209") hvC
  revert P9
  k_extra "CW4"
  k_extra "z92"
  k_dflt (refine' callR (ltake_ct (hd := ?qhd) (hu := ?qhu) (P := ?qP) (a0 := ?oaD) (b0 := ?obD) (b1 := ?ocD) (q0 := ?oqD) (q1 := ?orD) (hr := ?_)))
  k_extra "CP6"
  case oaD => assumption
  case obD => assumption
  case ocD => assumption
  case oqD => decide
  case orD => decide
  intro h9 tk9 aD bD taD tbD nD rD tD haD hbD hcD hr0D hr1D
  k_extra "CW4"
  obtain ⟨k1, rfl⟩ := Int.eq_ofNat_of_zero_le hr0D
  k_extra "z92"
  k_dflt (refine' Pre.ofLk (objs := fr1) (T := [.obj _ (lsO [.int i0 _, .int (i0 + i1) _, .int i2 _] _)]) ?yFB ?yNB ?yndB ?ySB ?yXB ?yTB ?yfB ?ykB)
  case yFB => k_extra "w"
  case yNB => k_extra "w"
  case yndB => first | assumption | k_extra "d309" | k_extra "d313"
  case yXB => k_extra "w"
  case yTB => k_extra "w"
  case ySB => k_extra "d315"
  case yfB => exact FsP.objN (by (k_extra "d22"; first | done | fail)) FsP.nil
  intro oL esL nL hoL hdL PL
  refine' callR (trright_ct (M := (1 + k1)) (frs := (L', oL) :: fr1) (O := .cons (fun z => nomatch z) rfl hdL (O.up ufr1)) (hd := ?yhdB) (hu := ?yhuB) (P := PL) (hM1 := Nat.le_add_right 1 k1) (hM := kM (n := 40) hr1D (by decide)) (w0 := difL hi1) (w1 := difA hi1) (w2 := difB hi1) (e0 := wzF hi0) (hr := ?yhrB))
  case yhdB => k_extra "d94"
  case yhuB => k_extra "d94"
  intro h9 tk9 fr9 u9 P9
  refine Post.wUL (A := []) (A' := []) u9 P9 hoL (by k_extra "w") (by k_extra "w") (by first | assumption | k_extra "d309" | k_extra "d313") (fun f' e => by ((repeat (first | exact Emb.all e | apply Emb.skip)); first | done | fail)) ?_
  clear P9 u9 hoL hdL PL
  intro fr2 ufr2 F9 N9 nd9
  (try dsimp only [List.nil_append] at N9 nd9)
  refine' lawDrop N9 nd9 ?_
  clear N9 nd9
  intro N9 nd9
  k_extra "z93"
  k_dflt (refine LCg.CompSrc.range (by rfl) (by k_asm) (by k_asm) (by assumption) (by first | decide | rfl) (by first | rfl | decide) (by first | exact Nat.le_of_ble_eq_true rfl | size_fits) ?_)
  intro g1
  k_dflt (refine' restSrc [2147483647, -2147483648, 2147483608, 65537, 46341, 1, -1, 33, -64] 4 ?ra ?rb ?rc nd9 ?rd ?re)
  case ra => assumption
  case rb => assumption
  case rc => assumption
  case rd =>
    clear N9 nd9 F9
    intro aF bF taF tbF nF I oI C oC D m₂ hF tkF ys E' Q haF hbF hcF hns F9 N9 nd9 kk
    k_extra "z94"
    k_dflt (refine' callR (lone_ct (hd := ?qhd) (hu := ?qhu) (P := ?qP) (a0 := ?oaE) (b0 := ?obE) (b1 := ?ocE) (q0 := ?oqE) (q1 := ?orE) (hr := ?_)))
    k_extra "CP6"
    case oaE => assumption
    case obE => assumption
    case ocE => assumption
    case oqE => exact (by decide : (1 : Int) ≤ 9)
    case orE => exact (by decide : (9 : Int) ≤ 64)
    intro h9 tk9 aE bE taE tbE nE vE haE hbE hcE hvE P9
    obtain ⟨j, uj, rfl, hj⟩ := mem_ints (ns := [2147483647, -2147483648, 2147483608, 65537, 46341, 1, -1, 33, -64]) (by k_extra "d209") hvE
    revert P9
    k_extra "CW4"
    exact kk _ _ _ _ [_, _] _ _ _ _ _ (by assumption) (by assumption) (by assumption) F9 N9 (by first | assumption | k_extra "d309" | k_extra "d313") hj
  case re =>
    clear N9 nd9 F9
    intro zs aF bF taF tbF nF hz9 hV9 haF hbF hcF nd9
    obtain ⟨_, _, _, _, rfl, ⟨j0, uj0, rfl, hj0⟩, ⟨j1, uj1, rfl, hj1⟩, ⟨j2, uj2, rfl, hj2⟩, ⟨j3, uj3, rfl, hj3⟩⟩ := four hz9 hV9
    intro D9 h9 tk9 F9 N9 o9; have nd9 := nd_off1 (o := LCg.lst [.int j0 uj0, .int j1 uj1, .int j2 uj2, .int j3 uj3]) o9 nd9; (try dsimp only)
    k_extra "z94"
    k_dflt (refine' callR (ltake_ct (hd := ?qhd) (hu := ?qhu) (P := ?qP) (a0 := ?oaG) (b0 := ?obG) (b1 := ?ocG) (q0 := ?oqG) (q1 := ?orG) (hr := ?_)))
    k_extra "CP6"
    case oaG => assumption
    case obG => assumption
    case ocG => assumption
    case oqG => decide
    case orG => decide
    intro h9 tk9 aG bG taG tbG nG rG tG haG hbG hcG hr0G hr1G
    k_extra "CW4"
    obtain ⟨k2, rfl⟩ := Int.eq_ofNat_of_zero_le hr0G
    k_extra "z94"
    k_dflt (refine' callR (ltake_ct (hd := ?qhd) (hu := ?qhu) (P := ?qP) (a0 := ?oaH) (b0 := ?obH) (b1 := ?ocH) (q0 := ?oqH) (q1 := ?orH) (hr := ?_)))
    k_extra "CP6"
    case oaH => assumption
    case obH => assumption
    case ocH => assumption
    case oqH => decide
    case orH => decide
    intro h9 tk9 aH bH taH tbH nH rH tH haH hbH hcH hr0H hr1H
    k_extra "CW4"
    obtain ⟨k3, rfl⟩ := Int.eq_ofNat_of_zero_le hr0H
    k_extra "z94"
    k_dflt (refine' callR (ltake_ct (hd := ?qhd) (hu := ?qhu) (P := ?qP) (a0 := ?oaI) (b0 := ?obI) (b1 := ?ocI) (q0 := ?oqI) (q1 := ?orI) (hr := ?_)))
    k_extra "CP6"
    case oaI => assumption
    case obI => assumption
    case ocI => assumption
    case oqI => decide
    case orI => decide
    intro h9 tk9 aI bI taI tbI nI rI tI haI hbI hcI hr0I hr1I
    k_extra "CW4"
    obtain ⟨k4, rfl⟩ := Int.eq_ofNat_of_zero_le hr0I
    k_extra "z94"
    k_extra "z95"
    all_goals exact hr _ _ fr2 (UpF.trans ufr1 ufr2) (postN G' (by k_extra "w") (by k_extra "w") (by first | assumption | k_extra "d309" | k_extra "d313") (by k_extra "d315") (UpF.trans ufr1 ufr2).ads_eq)
end
end
section
open PySem PySem.W PySem.Calls PySem.Spec PyProof PyProof.Rows
theorem finT : PySem.Challenge.rw_qz0071_01.Holds := by
  refine head ?_
  intro w s₀ s₁ mg mb G Y fa o pm cd doc dV kV ho hd hcd hD hmg hg args vals as hpre hlay hrd hwl hlo
  have T := G.T
  have Y : (KK w.params).In s₁.heap := Y
  have hfa : fa = nat_lit 1387 := by
    have e := mg_of (n := (recAt (stm 187)).name) (v := .ref (nat_lit 1387)) Y T.g (by kernel_rfl)
    rw [hmg] at e
    injection e with e
    injection e
  subst hfa
  clear ho hd hcd hD hmg G
  wrow_args hpre hlay hrd hwl hlo
  rename_i ns _ _ _ _ _ as1 as2 sc vs as3 hL _ _ _ hI _ hlen _
  obtain ⟨lo, hlo, hcl, sn, hda⟩ := hL
  refine enter_call (codeAny_mono ?_ (fun _ _ g => GoodW.toG g))
  have hz : (vs.length : Int) ≤ 100 := by rw [hI.length]; omega
  refine law_ct (w := w) (R := GoodW RW.row.claim (classAt s₀.heap) (ExcName.means s₀.heap) [ofPy (.list (ns.map .int))] s₁) (sd := lo.dict) (ss := lo.slots) (sn := sn) (outer := []) (frs := []) .nil ?_ ?_ ?_ hI hz ?_
  · decide
  · decide
  · refine ⟨_, _, _, _, s₁.heap, Y, T, fun _ _ e => e, (fun _ h => nomatch h), List.nodup_nil, Facts.obj ?_ .nil⟩
    have e : lo = { cls := .type "list", dict := lo.dict, data := .seq vs.toArray sn, slots := lo.slots } := by
      rw [← hcl, ← hda]
    exact hlo.trans (congrArg some e)
  · intro h' tk' frs' u P
    refine ⟨.inl ⟨.bool true, .bool true, [], rfl, ?_, .bool true, ?_, ?_⟩, ?_, rfl, hg⟩
    · intro cls; rfl
    · wrow_post
    · intro _; exact ⟨List.nodup_nil, fun _ h => nomatch h⟩
    · exact fun b o e => P.kept b o (List.not_mem_nil) e
end
end Mine
theorem PySem.Challenge.cw_qz0071_01_holds : PySem.Challenge.rw_qz0071_01.Holds :=
  Mine.finT
