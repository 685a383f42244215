import PyProof.Rows.All
import PyProof.Raises
import PyProof.PureCalls
import PyProof.ModsPlain
import PyProof.FactsAll.list_3
import PyProof.FactsAll.list_4
import PyProof.PlainList
import PyProof.CompFree
import PyProof.Conv_int_bool
import PyProof.ListOps
import PyProof.MeetsDict
import PyProof.DictCalls
import PyProof.DictCompW
import PyProof.TupleKey
import PyProof.DictValues
import PyProof.EqKinds
import PyProof.NeKinds
import PyProof.ExcClass2
import PyProof.ExcBaseAll.Exception
import PyProof.ExcClass3
import PyProof.ExcInit
import PyProof.StationsW
import PyProof.InstStoreFacts
import PyProof.WalkInts
import PyProof.Rows.RuleB_lshift
import PyProof.Rows.RuleB_pow
import PyProof.Rows.RuleB_floordiv
import PyProof.Rows.RuleB_mod
import PyProof.Rows.RuleB_rshift
import PyProof.StrCalls3
import PyProof.Rows.RuleB_and
import PyProof.Rows.RuleB_or
import PyProof.Rows.TupMore
import PyProof.Rows.RuleDivmod
import PyProof.TupleOfSeq
import PyProof.Rows.Range3
import Wide.BytesRules
import OpenK.KCls
import KE.KxBytes
import KE.BytesMake
import KE.LcSums
import KE.KBytesCut
import KE.KDictSum
import KE.KDictOf
import KE.KToBytes
import KE.KTypeName
import Wide.FinOn
import OpenK.AllK
import Wide.All
import Lean
import PySem.Challenge.RW_pq1174_01
set_option autoImplicit false
set_option Elab.async false
set_option linter.all false
set_option maxRecDepth 100000
set_option maxHeartbeats 0
section
namespace Mst
open PySem PySem.W PyProof.Rows
noncomputable abbrev pw : Program := PySem.Challenge.pw_pq1174_01
noncomputable def stmtAt (k : Nat) : Stmt := (pw.main.body.drop k).headD (.Pass ⟨0, 0, 0, 0⟩)
noncomputable def clsBody (s : Stmt) : List Stmt := match s with
 | .ClassDef _ _ _ b _ _ _ _ _ _ _ => b
 | _ => []
noncomputable def sA (k : Nat) : Stmt := stmtAt k
noncomputable def sM (k j : Nat) : Stmt := ((clsBody (stmtAt k)).drop j).headD (.Pass ⟨0, 0, 0, 0⟩)
noncomputable def sName (s : Stmt) : Str := match s with | .FunctionDef n .. => n | _ => Str.ofString ""
noncomputable def sParams (s : Stmt) : Arguments := match s with | .FunctionDef _ a .. => a | _ => default
noncomputable def sBody (s : Stmt) : List Stmt := match s with | .FunctionDef _ _ b .. => b | _ => []
noncomputable def sScope (s : Stmt) : Scope := match s with | .FunctionDef _ _ _ _ _ _ sc .. => sc | _ => default
noncomputable abbrev so (s : String) : Str := Str.ofString s
noncomputable abbrev nN : Value := .none
noncomputable abbrev vb (b : Bool) : Value := .bool b
noncomputable abbrev vi (i : Int) (t : Nat) : Value := .int i t
noncomputable abbrev vs (s : String) (t : Nat) : Value := .str (Str.ofString s) t
noncomputable abbrev vy (b : List UInt8) (t : Nat) : Value := .bytes b.toArray t
noncomputable abbrev vt (s : String) : Value := .type s
noncomputable abbrev vu (s : String) : Value := .builtin s
noncomputable abbrev vr (a : Nat) : Value := .ref a
noncomputable abbrev de (P : Params) (k : String) (t : Nat) (v : Value) : DictEntry := ⟨PyData.keyHash P (Str.ofString k), .str (Str.ofString k) t, v⟩
noncomputable abbrev tu (l : List Value) : Obj := ⟨.type "tuple", none, .seq l.toArray 0, #[]⟩
noncomputable abbrev fl (c : Value) (l : List Value) : Obj := ⟨c, none, .fields l.toArray, #[]⟩
noncomputable abbrev cd (n q : String) (b m : List Value) (ns : Nat) (hd : Bool) (sn : List Str) (sub : List Value) (ab del : Bool) : ClassData := { name := Str.ofString n, bases := b, mro := m, ns, qualname := Str.ofString q, hasDict := hd, slotNames := sn, subclasses := sub, abstract := ab, collection := none, hasDel := del }
noncomputable abbrev fo (c : Value) (s : Stmt) (q : String) (g : Nat) (dV kV doc pm cdv ct : Value) (b : Nat) : Obj := ⟨c, none, .func { name := sName s, qualname := Str.ofString q, params := sParams s, body := .stmts (sBody s), scope := sScope s, globals := g, closure := [], defaults := dV, kwdefaults := kV, doc, pyModule := pm, annotations := none, code := cdv, closureTuple := ct, builtins := b }, #[]⟩
noncomputable abbrev E : BT := .nil
noncomputable abbrev L (o : Obj) : BT := .node o .nil .nil
noncomputable abbrev N (o : Obj) (l r : BT) : BT := .node o l r
noncomputable abbrev tn : Obj := tu []
noncomputable abbrev fn : Obj := fl nN []
noncomputable abbrev dc (n : Nat) (l : List DictEntry) : Obj := ⟨vt "dict", none, .dict l.toArray n, #[]⟩
noncomputable abbrev m0 : Value := (vs "__main__" 164)
noncomputable abbrev m1 : Value := (vs "switchloom.errors" 194)
noncomputable abbrev m2 : Value := (vs "switchloom.bpdus" 300)
noncomputable abbrev m3 : Value := (vs "switchloom.md5" 585)
noncomputable abbrev m4 : Value := (vs "switchloom.octets" 733)
noncomputable abbrev m5 : Value := (vs "switchloom.regions" 748)
noncomputable abbrev m6 : Value := (vs "switchloom.mst_vectors" 863)
noncomputable abbrev m7 : Value := (vs "switchloom.mst_roles" 1092)
noncomputable abbrev m8 : Value := (vs "switchloom.mst_hear" 1204)
noncomputable abbrev m9 : Value := (vs "switchloom.mst_moves" 1432)
noncomputable abbrev m10 : Value := (vs "switchloom.mst_port" 1536)
noncomputable abbrev m11 : Value := (vs "switchloom.mst_send" 1720)
noncomputable abbrev m12 : Value := (vs "switchloom.mst" 1801)
noncomputable abbrev m13 : Value := (vs "switchloom.rapid_port" 2115)
noncomputable abbrev m14 : Value := (vs "law_pq1174_01" 2161)
noncomputable abbrev fu (s : Stmt) (q : String) (dV pm : Value) (c : Nat) : Obj := fo (vt "function") s q 3 dV nN nN pm (vr c) nN 0
noncomputable abbrev fz (s : Stmt) (q : String) : Obj := fo nN s q 0 nN nN nN nN nN nN 0
noncomputable abbrev cp (n q : String) (t l a f r : Nat) (b : Bool) (s : Nat) (x y z u : Value) (v w : Nat) : Obj := fl (vt "code") [vs n t, vs q (t + 1), vs "/claim/cut.py" (t + 2), vi l 0, vi a 0, vi 0 0, vi 0 0, vi f 0, vr r, vb b, vi 181 0, vr s, x, y, z, u, vi v 0, vi l 0, vs "/claim/cut.py" w]
noncomputable abbrev cq (n : String) (t l a f r : Nat) (b : Bool) (s : Nat) (x y z u : Value) (v w : Nat) : Obj := cp n n t l a f r b s x y z u v w
noncomputable def o12 : Obj := fn
noncomputable def o2x1 (P : Params) : Obj := ⟨nN, none, .dict [de P "type.__subclasses__.Exception.0" 221 (vi 38 0), de P "type.__subclasses__.Exception.n" 222 (vi 1 0)].toArray 2, #[]⟩
noncomputable def e3x1 (P : Params) : List DictEntry := [de P "__doc__" 166 nN, de P "__package__" 167 nN, de P "__loader__" 168 (vu "__main__.__loader__#opaque"), de P "__spec__" 169 nN, de P "__annotations__" 170 (vr 6), de P "__builtins__" 171 (vr 4), de P "__file__" 173 (vs "/claim/cut.py" 172), de P "__cached__" 174 nN, de P "_wall" 193 (vr 21), de P "SwitchError" 224 (vr 38), de P "FormError" 240 (vr 51), de P "SizeError" 256 (vr 63), de P "StateError" 272 (vr 75), de P "SettingError" 299 (vr 95)]
noncomputable def o3x1 (P : Params) : Obj := ⟨vt "dict", none, .dict (de P "__name__" 165 (vs "switchloom.bpdus" 300) :: e3x1 P).toArray 15, #[]⟩
noncomputable def e12x1 : List Value := [(vi 1 0), (vi 0 0), (vr 20), (vi 5 0), (vi 0 0), (vr 27), (vi 10 0), (vi 0 0), (vr 47), (vi 12 0), (vi 0 0), (vr 59), (vi 14 0), (vi 0 0), (vr 71), (vi 16 0), (vi 0 0), (vr 83)]
noncomputable def o12x1 : Obj := fl nN e12x1
noncomputable def o35 : Obj := fu (sM 2 0) "SwitchError.__init__" nN m1 34
noncomputable def o51 : Obj := ⟨(vt "type"), none, .cls (cd "FormError" "FormError" [(vr 38)] [(vr 51), (vr 38), (vt "Exception"), (vt "BaseException"), (vt "object")] 50 true [] [] false false), #[some (vr 42), none, some (vs "FormError" 225), some (vs "FormError" 233), some (vu "Exception.__new__"), some (vb true)]⟩
noncomputable def o85 : Obj := tu [(vi 0 285)]
noncomputable def o92 : Obj := fu (sM 6 0) "SettingError.__init__" (vr 85) m1 91
noncomputable def o95 : Obj := ⟨(vt "type"), none, .cls (cd "SettingError" "SettingError" [(vr 38)] [(vr 95), (vr 38), (vt "Exception"), (vt "BaseException"), (vt "object")] 94 true [] [] false false), #[some (vr 78), none, some (vs "SettingError" 273), some (vs "SettingError" 281), some (vu "Exception.__new__"), some (vb true)]⟩
noncomputable def e3x2 (P : Params) : List DictEntry := e3x1 P ++ [de P "KINDS" 311 (vr 98)]
noncomputable def o3x2 (P : Params) : Obj := ⟨vt "dict", none, .dict (de P "__name__" 165 (vs "switchloom.bpdus" 300) :: e3x2 P).toArray 16, #[]⟩
noncomputable def o98 (P : Params) : Obj := dc 3 [de P "config" 302 (vi 0 303), de P "rapid" 304 (vi 2 305), de P "change" 306 (vi 128 307)]
noncomputable def e3x3 (P : Params) : List DictEntry := e3x2 P ++ [de P "ROLES" 316 (vr 99), de P "PACKED" 325 (vr 104), de P "KNOWN" 327 (vi 3 326), de P "CONFIG_SIZE" 329 (vi 35 328), de P "RAPID_SIZE" 331 (vi 36 330), de P "CHANGE_SIZE" 333 (vi 4 332), de P "Times" 383 (vr 135), de P "Bpdu" 453 (vr 171), de P "changed_notice" 459 (vr 182), de P "number_octets" 465 (vr 187), de P "octets_number" 474 (vr 194), de P "bridge_octets" 481 (vr 201), de P "port_octets" 490 (vr 208), de P "vector_octets" 501 (vr 215), de P "times_octets" 510 (vr 222), de P "check_bpdu" 517 (vr 229), de P "pack_bpdu" 526 (vr 236), de P "read_bridge" 533 (vr 243), de P "read_port" 541 (vr 250), de P "read_vector" 548 (vr 257), de P "read_times" 554 (vr 262), de P "read_tail" 563 (vr 269), de P "kind_of" 571 (vr 276), de P "unpack_bpdu" 584 (vr 283), de P "BLOCK_SIZE" 588 (vi 64 587), de P "LOW_BITS" 590 (vi 4294967295 589), de P "START_WORDS" 595 (vr 284), de P "ROUND_TURNS" 612 (vr 289)]
noncomputable def o3x3 (P : Params) : Obj := ⟨vt "dict", none, .dict (de P "__name__" 165 (vs "switchloom.md5" 585) :: e3x3 P).toArray 44, #[]⟩
noncomputable def e12x2 : List Value := e12x1 ++ [(vi 29 0), (vi 0 0), (vr 110), (vi 42 0), (vi 0 0), (vr 145), (vi 69 0), (vi 0 0), (vr 181), (vi 71 0), (vi 0 0), (vr 186), (vi 75 0), (vi 0 0), (vr 193), (vi 80 0), (vi 0 0), (vr 200), (vi 82 0), (vi 0 0), (vr 207), (vi 87 0), (vi 0 0), (vr 214), (vi 90 0), (vi 0 0), (vr 221), (vi 95 0), (vi 0 0), (vr 228), (vi 100 0), (vi 0 0), (vr 235), (vi 110 0), (vi 0 0), (vr 242), (vi 112 0), (vi 0 0), (vr 249), (vi 115 0), (vi 0 0), (vr 256), (vi 117 0), (vi 0 0), (vr 261), (vi 120 0), (vi 0 0), (vr 268), (vi 126 0), (vi 0 0), (vr 275), (vi 131 0), (vi 0 0), (vr 282)]
noncomputable def o12x2 : Obj := fl nN e12x2
noncomputable def e3x4 (P : Params) : List DictEntry := e3x3 P ++ [de P "SINE_PARTS" 677 (vr 290), de P "turned_left" 685 (vr 297), de P "filled_octets" 691 (vr 302), de P "block_words" 704 (vr 309), de P "step_parts" 714 (vr 316), de P "block_digest" 720 (vr 321), de P "md5_digest" 726 (vr 326), de P "md5_with_key" 732 (vr 331), de P "put_number" 740 (vr 336), de P "put16" 747 (vr 343)]
noncomputable def o3x4 (P : Params) : Obj := ⟨vt "dict", none, .dict (de P "__name__" 165 (vs "switchloom.regions" 748) :: e3x4 P).toArray 54, #[]⟩
noncomputable def e12x3 : List Value := e12x2 ++ [(vi 152 0), (vi 0 0), (vr 296), (vi 154 0), (vi 0 0), (vr 301), (vi 158 0), (vi 0 0), (vr 308), (vi 164 0), (vi 0 0), (vr 315), (vi 172 0), (vi 0 0), (vr 320), (vi 180 0), (vi 0 0), (vr 325), (vi 185 0), (vi 0 0), (vr 330), (vi 191 0), (vi 0 0), (vr 335), (vi 195 0), (vi 0 0), (vr 342)]
noncomputable def o12x3 : Obj := fl nN e12x3
noncomputable def e3x5 (P : Params) : List DictEntry := e3x4 P ++ [de P "REGION_KEY" 767 (vy [19, 172, 6, 166, 46, 71, 253, 81, 249, 93, 43, 162, 67, 205, 3, 70] 766)]
noncomputable def o3x5 (P : Params) : Obj := ⟨vt "dict", none, .dict (de P "__name__" 165 (vs "switchloom.regions" 748) :: e3x5 P).toArray 55, #[]⟩
noncomputable def e3x6 (P : Params) : List DictEntry := e3x5 P ++ [de P "NAME_SIZE" 769 (vi 32 768), de P "REGION_SIZE" 771 (vi 51 770), de P "MOST_INSTANCE_regions" 773 (vi 4094 772), de P "MOST_TOLD_regions" 775 (vi 64 774), de P "DIGEST_SIZE" 777 (vi 16 776), de P "Region" 848 (vr 397), de P "check_region" 854 (vr 406), de P "same_region" 862 (vr 413), de P "MOST_COST" 870 (vi 4294967295 869), de P "MOST_INSTANCE_mst_vectors" 872 (vi 4094 871), de P "MOST_ROWS" 874 (vi 64 873), de P "HEAD_SIZE" 877 (vi 64 876), de P "ROW_SIZE" 879 (vi 16 878), de P "TREE_ROLES" 884 (vr 414), de P "TreeRow" 943 (vr 443), de P "TreeTail" 986 (vr 469), de P "FLAG_BITS" 997 (vr 479), de P "no_flags" 1003 (vr 484), de P "check_row" 1010 (vr 491), de P "row_octets" 1016 (vr 496), de P "tail_octets" 1022 (vr 501), de P "read_row" 1028 (vr 506)]
noncomputable def o3x6 (P : Params) : Obj := ⟨vt "dict", none, .dict (de P "__name__" 165 (vs "switchloom.mst_vectors" 863) :: e3x6 P).toArray 77, #[]⟩
noncomputable def e12x4 : List Value := e12x3 ++ [(vi 204 0), (vi 0 0), (vr 354), (vi 233 0), (vi 0 0), (vr 405), (vi 243 0), (vi 0 0), (vr 412), (vi 252 0), (vi 0 0), (vr 420), (vi 271 0), (vi 0 0), (vr 453), (vi 283 0), (vi 0 0), (vr 483), (vi 285 0), (vi 0 0), (vr 490), (vi 290 0), (vi 0 0), (vr 495), (vi 297 0), (vi 0 0), (vr 500), (vi 300 0), (vi 0 0), (vr 505)]
noncomputable def o12x4 : Obj := fl nN e12x4
noncomputable def e3x7 (P : Params) : List DictEntry := e3x6 P ++ [de P "read_tree_tail" 1034 (vr 511), de P "cist_told" 1048 (vr 518), de P "cist_behind" 1058 (vr 525), de P "tree_behind" 1066 (vr 532), de P "with_teller" 1075 (vr 539), de P "is_from_same_port" 1083 (vr 546), de P "takes_over" 1091 (vr 553), de P "HELLOS_KEPT" 1095 (vi 3 1094), de P "behind_port" 1105 (vr 560), de P "is_candidate" 1114 (vr 567), de P "own_tree_vector" 1121 (vr 574), de P "choose_root" 1134 (vr 581), de P "designated_vector" 1145 (vr 588), de P "role_by_vectors" 1154 (vr 595), de P "role_beside" 1163 (vr 602), de P "is_beyond" 1172 (vr 609), de P "choose_roles" 1184 (vr 616), de P "take_own" 1192 (vr 623), de P "life_of" 1203 (vr 630), de P "CHANGE_ROLES" 1209 (vr 631), de P "TreeTelling" 1248 (vr 648), de P "tail_heard" 1255 (vr 659), de P "is_own_tail" 1263 (vr 666), de P "cist_flags" 1270 (vr 673), de P "cist_telling" 1281 (vr 680), de P "row_telling" 1291 (vr 687), de P "may_agree" 1302 (vr 694), de P "hear_agreement" 1313 (vr 701), de P "keep_told" 1323 (vr 708), de P "hear_better" 1334 (vr 715), de P "hear_again" 1345 (vr 722), de P "hear_worse" 1355 (vr 729), de P "is_taken" 1363 (vr 736), de P "hear_tree" 1375 (vr 743), de P "turn_internal" 1386 (vr 750)]
noncomputable def o3x7 (P : Params) : Obj := ⟨vt "dict", none, .dict (de P "__name__" 165 (vs "switchloom.mst_hear" 1204) :: e3x7 P).toArray 112, #[]⟩
noncomputable def e12x5 : List Value := e12x4 ++ [(vi 306 0), (vi 0 0), (vr 510), (vi 317 0), (vi 0 0), (vr 517), (vi 323 0), (vi 0 0), (vr 524), (vi 327 0), (vi 0 0), (vr 531), (vi 329 0), (vi 0 0), (vr 538), (vi 331 0), (vi 0 0), (vr 545), (vi 333 0), (vi 0 0), (vr 552), (vi 337 0), (vi 0 0), (vr 559), (vi 342 0), (vi 0 0), (vr 566), (vi 346 0), (vi 0 0), (vr 573), (vi 350 0), (vi 0 0), (vr 580), (vi 365 0), (vi 0 0), (vr 587), (vi 371 0), (vi 0 0), (vr 594), (vi 381 0), (vi 0 0), (vr 601), (vi 384 0), (vi 0 0), (vr 608), (vi 386 0), (vi 0 0), (vr 615), (vi 400 0), (vi 0 0), (vr 622), (vi 408 0), (vi 0 0), (vr 629), (vi 413 0), (vi 0 0), (vr 637), (vi 422 0), (vi 0 0), (vr 658), (vi 429 0), (vi 0 0), (vr 665), (vi 431 0), (vi 0 0), (vr 672), (vi 433 0), (vi 0 0), (vr 679), (vi 437 0), (vi 0 0), (vr 686), (vi 440 0), (vi 0 0), (vr 693), (vi 445 0), (vi 0 0), (vr 700), (vi 450 0), (vi 0 0), (vr 707), (vi 455 0), (vi 0 0), (vr 714), (vi 464 0), (vi 0 0), (vr 721), (vi 469 0), (vi 0 0), (vr 728), (vi 474 0), (vi 0 0), (vr 735), (vi 478 0), (vi 0 0), (vr 742), (vi 495 0), (vi 0 0), (vr 749)]
noncomputable def o12x5 : Obj := fl nN e12x5
noncomputable def e3x8 (P : Params) : List DictEntry := e3x7 P ++ [de P "lose_edge" 1396 (vr 757), de P "note_sort" 1404 (vr 764), de P "hear_notice" 1414 (vr 771), de P "hear_bpdu" 1431 (vr 778), de P "moved_disabled" 1442 (vr 785), de P "sync_all" 1450 (vr 792), de P "are_synced" 1456 (vr 797), de P "agreed_onward" 1466 (vr 804), de P "moved_root" 1472 (vr 809), de P "opened" 1481 (vr 816), de P "opened_by_time" 1491 (vr 823), de P "moved_designated" 1504 (vr 830), de P "moved_blocked" 1513 (vr 837), de P "moved_beyond" 1526 (vr 844), de P "moved_port" 1535 (vr 851), de P "PortSide" 1589 (vr 882), de P "TreePort" 1672 (vr 931)]
noncomputable def o3x8 (P : Params) : Obj := ⟨vt "dict", none, .dict (de P "__name__" 165 (vs "switchloom.mst_port" 1536) :: e3x8 P).toArray 129, #[]⟩
noncomputable def e12x6 : List Value := e12x5 ++ [(vi 504 0), (vi 0 0), (vr 756), (vi 512 0), (vi 0 0), (vr 763), (vi 517 0), (vi 0 0), (vr 770), (vi 526 0), (vi 0 0), (vr 777), (vi 552 0), (vi 0 0), (vr 784), (vi 558 0), (vi 0 0), (vr 791), (vi 561 0), (vi 0 0), (vr 796), (vi 563 0), (vi 0 0), (vr 803), (vi 580 0), (vi 0 0), (vr 808), (vi 601 0), (vi 0 0), (vr 815), (vi 610 0), (vi 0 0), (vr 822), (vi 615 0), (vi 0 0), (vr 829), (vi 636 0), (vi 0 0), (vr 836), (vi 649 0), (vi 0 0), (vr 843), (vi 661 0), (vi 0 0), (vr 850), (vi 670 0), (vi 0 0), (vr 857), (vi 697 0), (vi 0 0), (vr 892)]
noncomputable def o12x6 : Obj := fl nN e12x6
noncomputable def e3x9 (P : Params) : List DictEntry := e3x8 P ++ [de P "TreeSide" 1719 (vr 962)]
noncomputable def o3x9 (P : Params) : Obj := ⟨vt "dict", none, .dict (de P "__name__" 165 (vs "switchloom.mst_send" 1720) :: e3x9 P).toArray 130, #[]⟩
noncomputable def e12x7 : List Value := e12x6 ++ [(vi 742 0), (vi 0 0), (vr 941)]
noncomputable def o12x7 : Obj := fl nN e12x7
noncomputable def e3x10 (P : Params) : List DictEntry := e3x9 P ++ [de P "TOLD_ROLES" 1734 (vr 967)]
noncomputable def o3x10 (P : Params) : Obj := ⟨vt "dict", none, .dict (de P "__name__" 165 (vs "switchloom.mst_send" 1720) :: e3x10 P).toArray 131, #[]⟩
noncomputable def o967 (P : Params) : Obj := dc 4 [de P "root" 1722 (vs "root" 1723), de P "alternate" 1724 (vs "alternate" 1725), de P "backup" 1726 (vs "alternate" 1727), de P "designated" 1728 (vs "designated" 1729)]
noncomputable def e3x11 (P : Params) : List DictEntry := e3x10 P ++ [de P "told_flags" 1741 (vr 974), de P "tree_row" 1754 (vr 981), de P "tree_tail" 1760 (vr 986), de P "made_bpdu" 1780 (vr 993), de P "sends_always" 1790 (vr 1000), de P "send_waiting" 1800 (vr 1007), de P "MOST_TURNS" 1804 (vi 400 1803), de P "MOST_HOPS" 1806 (vi 20 1805), de P "MOST_PRIORITY" 1808 (vi 61440 1807), de P "MOST_TOLD_mst" 1810 (vi 255 1809), de P "SPREADING_ROLES" 1814 (vr 1008), de P "check_priority" 1821 (vr 1015), de P "check_ports" 1827 (vr 1020)]
noncomputable def o3x11 (P : Params) : Obj := ⟨vt "dict", none, .dict (de P "__name__" 165 (vs "switchloom.mst" 1801) :: e3x11 P).toArray 144, #[]⟩
noncomputable def e12x8 : List Value := e12x7 ++ [(vi 761 0), (vi 0 0), (vr 973), (vi 763 0), (vi 0 0), (vr 980), (vi 768 0), (vi 0 0), (vr 985), (vi 772 0), (vi 0 0), (vr 992), (vi 785 0), (vi 0 0), (vr 999), (vi 791 0), (vi 0 0), (vr 1006), (vi 807 0), (vi 0 0), (vr 1014), (vi 810 0), (vi 0 0), (vr 1019)]
noncomputable def o12x8 : Obj := fl nN e12x8
noncomputable def e3x12 (P : Params) : List DictEntry := e3x11 P ++ [de P "MstBridge" 2114 (vr 1241)]
noncomputable def o3x12 (P : Params) : Obj := ⟨vt "dict", none, .dict (de P "__name__" 165 (vs "switchloom.rapid_port" 2115) :: e3x12 P).toArray 145, #[]⟩
noncomputable def e12x9 : List Value := e12x8 ++ [(vi 815 0), (vi 0 0), (vr 1026)]
noncomputable def o12x9 : Obj := fl nN e12x9
noncomputable def e3x13 (P : Params) : List DictEntry := e3x12 P ++ [de P "PortRow" 2160 (vr 1270), de P "_law_top" 2168 (vr 1281), de P "_law_better" 2171 (vr 1282), de P "_law_pool" 2182 (vr 1289), de P "_law_take" 2191 (vr 1296), de P "_law_one" 2199 (vr 1303), de P "_law_region" 2206 (vr 1310), de P "_law_bridge" 2216 (vr 1317), de P "_law_telling" 2231 (vr 1324), de P "_law_costs_right" 2246 (vr 1331), de P "_law_held_right" 2257 (vr 1338), de P "_law_old_right" 2265 (vr 1345), de P "_law_tails_right" 2271 (vr 1350), de P "_law_is_refused" 2279 (vr 1357), de P "law" 2293 (vr 1364)]
noncomputable def o3x13 (P : Params) : Obj := ⟨vt "dict", none, .dict (de P "__name__" 165 (vs "law_pq1174_01" 2161) :: e3x13 P).toArray 160, #[]⟩
noncomputable def e12x10 : List Value := e12x9 ++ [(vi 991 0), (vi 0 0), (vr 1251), (vi 1003 0), (vi 0 0), (vr 1280), (vi 1006 0), (vi 0 0), (vr 1288), (vi 1011 0), (vi 0 0), (vr 1295), (vi 1020 0), (vi 0 0), (vr 1302), (vi 1022 0), (vi 0 0), (vr 1309), (vi 1024 0), (vi 0 0), (vr 1316), (vi 1031 0), (vi 0 0), (vr 1323), (vi 1036 0), (vi 0 0), (vr 1330), (vi 1048 0), (vi 0 0), (vr 1337), (vi 1056 0), (vi 0 0), (vr 1344), (vi 1061 0), (vi 0 0), (vr 1349), (vi 1077 0), (vi 0 0), (vr 1356), (vi 1083 0), (vi 0 0), (vr 1363)]
noncomputable def u0 (P : Params) : BT := (N (tu [(vs "self" 211), (vs "message" 212)]) (N ⟨(vt "type"), none, .cls (cd "SizeError" "SizeError" [(vr 38)] [(vr 63), (vr 38), (vt "Exception"), (vt "BaseException"), (vt "object")] 62 true [] [] false false), #[some (vr 54), none, some (vs "SizeError" 241), some (vs "SizeError" 249), some (vu "Exception.__new__"), some (vb true)]⟩ (N fn (N (fz (sA 28) "read_vector") (N (fu (sA 74) "read_tree_tail" nN m6 510) (L (dc 34 [de P "__module__" 1835 (vs "switchloom.mst" 1801), de P "__qualname__" 1837 (vs "MstBridge" 1836), de P "__firstlineno__" 1839 (vi 815 1838), de P "__init__" 1846 (vr 1033), de P "numbers" 1853 (vr 1040), de P "side" 1861 (vr 1047), de P "port_in" 1870 (vr 1054), de P "delay" 1877 (vr 1061), de P "instance_trees" 1883 (vr 1066), de P "all_trees" 1890 (vr 1073), de P "want_to_send" 1898 (vr 1080), de P "role" 1908 (vr 1088), de P "state" 1918 (vr 1096), de P "state_of_vlan" 1927 (vr 1103), de P "told_vector" 1935 (vr 1110), de P "root" 1944 (vr 1118), de P "regional_root" 1951 (vr 1125), de P "root_port" 1960 (vr 1133), de P "link_up" 1969 (vr 1140), de P "link_down" 1977 (vr 1147), de P "receive" 1986 (vr 1154), de P "second" 1994 (vr 1161), de P "second_of" 2004 (vr 1168), de P "second_in" 2013 (vr 1175), de P "settle" 2021 (vr 1182), de P "step" 2032 (vr 1189), de P "sync_instances" 2042 (vr 1196), de P "are_instances_synced" 2053 (vr 1203), de P "tell_change" 2062 (vr 1210), de P "tell_at" 2072 (vr 1217), de P "spread_change" 2082 (vr 1224), de P "take_flushed" 2089 (vr 1231), de P "take_sent" 2097 (vr 1238), de P "__static_attributes__" 2107 (vr 1239)])) E) (N (tu [(vs "bridge" 1408), (vs "number" 1409), (vs "port" 1410), (vs "tree" 1411)]) (L (fz (sA 151) "_law_top")) E)) (N tn (N tn (L tn) E) (L fn))) (N tn (N (fz (sA 43) "block_digest") (N tn (L (cp "role" "MstBridge.role" 1900 863 3 3 1082 true 1083 nN (vr 1084) (vr 1085) (vr 1086) 1906 1907)) E) (N tn (L (fz (sA 161) "_law_old_right")) E)) (N (fl (vt "builtin_function_or_method") [(vu "object.__init_subclass__"), (vr 443)]) (N fn (L (fz (sM 147 26) "MstBridge.tell_at")) E) (L (fu (sM 130 2) "TreeSide.others" nN m10 958))))) (N o95 (N (fz (sM 16 1) "Bpdu.flags") (N (tu [(vi 4 604), (vi 11 605), (vi 16 606), (vi 23 607)]) (N tn (L tn) E) (N fn (L tn) E)) (N tn (N (fz (sA 99) "cist_flags") (L tn) E) (L (cp "told" "TreePort.told" 1632 739 1 3 922 true 923 nN (vr 924) (vr 925) (vr 926) 1637 1638)))) (N tn (N (dc 10 [de P "__module__" 785 (vs "switchloom.regions" 748), de P "__qualname__" 787 (vs "Region" 786), de P "__firstlineno__" 789 (vi 204 788), de P "__init__" 800 (vr 363), de P "instance_of" 808 (vr 370), de P "numbers" 814 (vr 375), de P "vlans_of" 822 (vr 382), de P "digest" 828 (vr 387), de P "octets" 836 (vr 394), de P "__static_attributes__" 841 (vr 395)]) (N (fz (sA 90) "is_beyond") (L tn) E) (L (fz (sM 128 0) "PortSide.__init__"))) (N (tu [(vr 474), (vr 475), (vr 476), (vr 477), (vr 478)]) (N (cq "is_taken" 1356 474 2 3 730 true 731 nN (vr 732) (vr 733) (vr 734) 1361 1362) (L (fl (vt "builtin_function_or_method") [(vu "type.__prepare__"), (vt "type")])) E) (L (fz (sA 136) "made_bpdu"))))))
noncomputable def u1 (P : Params) : BT := (N (cq "FormError" 227 10 0 0 45 false 46 nN nN nN nN 230 231) (N (fl (vt "builtin_function_or_method") [(vu "type.__prepare__"), (vt "type")]) (N tn (N fn (N fn (L (cp "numbers" "MstBridge.numbers" 1847 838 1 3 1034 true 1035 nN (vr 1036) (vr 1037) (vr 1038) 1851 1852)) E) (N (fz (sA 116) "moved_disabled") (L (cq "_law_take" 2183 1011 2 3 1290 true 1291 nN (vr 1292) (vr 1293) (vr 1294) 2189 2190)) E)) (N (fl (vt "getset_descriptor") [(vs "__weakref__" 844), (vr 397), (vu "ExceptionGroup.__weakref__"), nN]) (N (tu [(vs "bpdu" 1252)]) (L (cp "second_of" "MstBridge.second_of" 1995 908 2 3 1162 true 1163 nN (vr 1164) (vr 1165) (vr 1166) 2002 2003)) E) (L tn))) (N (cq "port_octets" 482 82 1 3 202 true 203 nN (vr 204) (vr 205) (vr 206) 488 489) (N (cq "put_number" 735 191 2 3 332 true 333 nN nN nN (vr 334) 738 739) (N (tu [(vs "bridge" 1149), (vs "tree" 1150), (vs "port" 1151)]) (L (fu (sM 147 10) "MstBridge.state_of_vlan" nN m12 1102)) E) (N (tu [(vs "bridge" 1530), (vs "tree" 1531), (vs "port" 1532)]) (L fn) E)) (N fn (N tn (L (fu (sM 147 28) "MstBridge.take_flushed" nN m12 1230)) E) (L tn)))) (N ⟨(vt "frame"), none, .plain, #[some (vr 110), some (vr 3), some (vr 107), none, some (vs "switchloom.bpdus" 300), none, some (vr 0)]⟩ (N (fl (vt "builtin_function_or_method") [(vu "object.__init_subclass__"), (vr 171)]) (N tn (N (cq "behind_port" 1096 337 3 3 554 true 555 nN (vr 556) (vr 557) (vr 558) 1103 1104) (L (fz (sM 147 6) "MstBridge.all_trees")) E) (N (cq "opened" 1473 601 3 3 810 true 811 nN (vr 812) (vr 813) (vr 814) 1479 1480) (L (tu [(vs "is_own" 2235), (vs "cost" 2236), (vs "lack" 2237), (vs "bridge" 2238), (vs "told" 2239), (vs "region" 2240), (vs "due" 2241), (vs "vector" 2242), (vs "made" 2243)])) E)) (N (tu [(vs "self" 915), (vs "mac" 916), (vs "number" 917), (vs "bridge" 918)]) (N (fu (sA 101) "row_telling" nN m8 686) (L (tu [(vs "self" 2046), (vs "tree" 2047), (vs "number" 2048), (vs "other" 2049), (vs "port" 2050)])) E) (L tn))) (N (tu [(vs "octets" 530)]) (N tn (N (fu (sA 92) "take_own" nN m7 622) (L fn) E) (L (fu (sM 128 2) "PortSide.begin" nN m10 878))) (N (cq "row_octets" 1011 290 1 3 492 true 493 nN nN nN (vr 494) 1014 1015) (N tn (L (tu [(vs "self" 2144)])) E) (L (fu (sA 138) "send_waiting" nN m11 1006))))))
noncomputable def u2 (P : Params) : BT := (N (fl (vt "getset_descriptor") [(vs "__weakref__" 218), (vr 38), (vu "ExceptionGroup.__weakref__"), nN]) (N (cq "StateError" 259 14 0 0 69 false 70 nN nN nN nN 262 263) (N ⟨(vt "type"), none, .cls (cd "Times" "Times" [(vt "object")] [(vr 135), (vt "object")] 134 true [] [] false false), #[none, none, some (vs "Times" 334), some (vs "Times" 342), some (vu "object.__new__"), some (vb true)]⟩ (N tn (N tn (L (fz (sM 147 0) "MstBridge.__init__")) E) (N tn (L (fz (sA 153) "_law_pool")) E)) (N tn (N (dc 4 [de P "__module__" 1217 (vs "switchloom.mst_hear" 1204), de P "__firstlineno__" 1221 (vi 413 1220), de P "__init__" 1234 (vr 645), de P "__static_attributes__" 1241 (vr 646), de P "__dict__" 1243 (vr 649), de P "__weakref__" 1245 (vr 650), de P "__doc__" 1246 nN]) (L (fz (sM 147 18) "MstBridge.second")) E) (L (tu [(vs "self" 1613)])))) (N (fz (sA 20) "bridge_octets") (N tn (N fn (L (cp "state" "MstBridge.state" 1910 866 3 3 1090 true 1091 nN (vr 1092) (vr 1093) (vr 1094) 1916 1917)) E) (N fn (L tn) E)) (N tn (N (tu [(vs "bridge" 1327), (vs "tree" 1328), (vs "port" 1329), (vs "told" 1330), (vs "bpdu" 1331)]) (L (cp "spread_change" "MstBridge.spread_change" 2073 978 3 3 1218 true 1219 nN (vr 1220) (vr 1221) (vr 1222) 2080 2081)) E) (L (o967 P))))) (N (tu [(vi 3 323), (vs "rapid" 324)]) (N (cp "told" "Bpdu.told" 425 65 1 3 162 true 163 nN (vr 164) (vr 165) (vr 166) 431 432) (N (fz (sA 39) "turned_left") (N (fz (sA 80) "takes_over") (L fn) E) (N (fz (sA 120) "moved_root") (L fn) E)) (N fn (N (cq "cist_telling" 1271 433 3 3 674 true 675 nN (vr 676) (vr 677) (vr 678) 1279 1280) (L fn) E) (L (fl (vt "builtin_function_or_method") [(vu "object.__init_subclass__"), (vr 931)])))) (N fn (N (tu [(vs "self" 793), (vs "name" 794), (vs "revision" 795), (vs "instances" 796), (vs "kept_digest" 797)]) (N (cq "choose_roles" 1173 386 2 3 610 true 611 nN (vr 612) (vr 613) (vr 614) 1182 1183) (L tn) E) (L (cp "port_id" "PortSide.port_id" 1558 684 1 3 866 true 867 nN (vr 868) (vr 869) (vr 870) 1562 1563))) (N (tu [(vs "row" 1007)]) (N (fu (sA 109) "hear_tree" nN m8 742) (L fn) E) (L (cq "sends_always" 1781 785 2 3 994 true 995 nN (vr 996) (vr 997) (vr 998) 1788 1789))))))
noncomputable def u3 (P : Params) : BT := (N (fl (vt "builtin_function_or_method") [(vu "type.__prepare__"), (vt "type")]) (N fn (N tn (N (tu [(vs "octets" 575), (vs "kind" 576), (vs "version" 577), (vs "flags" 578), (vs "vector" 579), (vs "times" 580), (vs "tail" 581)]) (N (tu [(vs "vector" 1070), (vs "bridge" 1071), (vs "port_id" 1072)]) (L (fu (sM 147 2) "MstBridge.side" nN m12 1046)) E) (N (cq "sync_all" 1443 558 1 3 786 true 787 nN (vr 788) (vr 789) (vr 790) 1448 1449) (L (fu (sA 155) "_law_one" nN m14 1302)) E)) (N tn (N tn (L (fu (sM 147 20) "MstBridge.second_in" nN m12 1174)) E) (L (fz (sM 129 3) "TreePort.block")))) (N (fu (sA 22) "vector_octets" nN m2 214) (N (fu (sA 48) "put16" nN m4 342) (N tn (L (tu [(vi 0 1936)])) E) (L tn)) (N (fl (vt "getset_descriptor") [(vs "__weakref__" 982), (vr 469), (vu "ExceptionGroup.__weakref__"), nN]) (N (fz (sA 107) "hear_worse") (L (tu [(vs "cist" 2098), (vs "hold" 2099), (vs "most_hops" 2100), (vs "region" 2101), (vs "region_octets" 2102), (vs "sent" 2103), (vs "sides" 2104), (vs "times" 2105), (vs "trees" 2106)])) E) (L fn)))) (N tn (N tn (N fn (N (fu (sA 84) "is_candidate" nN m7 566) (L (cp "want_to_send" "MstBridge.want_to_send" 1891 860 2 3 1074 true 1075 nN (vr 1076) (vr 1077) (vr 1078) 1896 1897)) E) (N (fu (sA 122) "opened_by_time" nN m9 822) (L tn) E)) (N (cp "told" "TreeRow.told" 922 268 1 3 436 true 437 nN nN nN (vr 438) 925 926) (N tn (L tn) E) (L tn))) (N tn (N (fu (sM 56 2) "Region.numbers" nN m5 374) (N (tu [(vs "root" 1206), (vs "designated" 1207), (vs "master" 1208)]) (L (tu [(vs "self" 1973), (vs "number" 1974)])) E) (L tn)) (N fn (N fn (L (fl (vt "getset_descriptor") [(vs "__dict__" 2154), (vr 1270), (vu "function.__dict__"), (vu "function.__dict__#set")])) E) (L (fu (sA 145) "check_priority" nN m12 1014))))))
noncomputable def u4 (P : Params) : BT := (N o35 (N (fl (vt "builtin_function_or_method") [(vu "type.__prepare__"), (vt "type")]) (N (cp "with_age" "Times.with_age" 364 40 2 3 126 true 127 nN (vr 128) (vr 129) (vr 130) 369 370) (N fn (N tn (L ⟨(vt "frame"), none, .plain, #[some (vr 1026), some (vr 3), some (vr 1023), none, some (vs "switchloom.mst" 1801), none, some (vr 0)]⟩) E) (N (fu (sA 113) "hear_notice" nN m8 770) (L tn) E)) (N (fu (sM 56 4) "Region.digest" nN m5 386) (N (fz (sM 96 0) "TreeTelling.__init__") (L tn) E) (L (cp "__init__" "TreePort.__init__" 1602 699 2 3 894 true 895 nN (vr 896) (vr 897) (vr 898) 1607 1608)))) (N tn (N fn (N (fz (sA 86) "choose_root") (L fn) E) (N (fz (sA 124) "moved_blocked") (L fn) E)) (N tn (N (cq "keep_told" 1314 450 4 3 702 true 703 nN (vr 704) (vr 705) (vr 706) 1321 1322) (L fn) E) (L (fl (vt "getset_descriptor") [(vs "__dict__" 1713), (vr 962), (vu "function.__dict__"), (vu "function.__dict__#set")]))))) (N (tu [(vs "none" 312), (vs "alternate" 313), (vs "root" 314), (vs "designated" 315)]) (N fn (N tn (N tn (L (fz (sM 147 4) "MstBridge.delay")) E) (N (cq "agreed_onward" 1457 563 3 3 798 true 799 nN (vr 800) (vr 801) (vr 802) 1464 1465) (L (fz (sA 157) "_law_bridge")) E)) (N (fl nN [(vi 254 0), (vi 4 0), (vr 427), (vi 264 0), (vi 4 0), (vr 434), (vi 268 0), (vi 4 0), (vr 439)]) (N fn (L (fz (sM 147 22) "MstBridge.step")) E) (L ⟨(vt "type"), none, .cls (cd "TreePort" "TreePort" [(vt "object")] [(vr 931), (vt "object")] 930 true [] [] false false), #[none, none, some (vs "TreePort" 1590), some (vs "TreePort" 1598), some (vu "object.__new__"), some (vb true)]⟩))) (N (fz (sA 24) "check_bpdu") (N ⟨(vt "frame"), none, .plain, #[some (vr 354), some (vr 3), some (vr 351), none, some (vs "switchloom.regions" 748), none, some (vr 0)]⟩ (N fn (L (fz (sM 147 13) "MstBridge.regional_root")) E) (L fn)) (N (cq "no_flags" 998 283 0 3 480 true 481 nN nN nN (vr 482) 1001 1002) (N (tu [(vs "bridge" 1367), (vs "tree" 1368), (vs "port" 1369), (vs "told" 1370), (vs "bpdu" 1371), (vs "is_held" 1372)]) (L (cq "PortRow" 2119 991 0 0 1249 false 1250 nN nN nN nN 2122 2123)) E) (L fn)))))
noncomputable def u5 (P : Params) : BT := (N o51 (N (cq "SettingError" 275 16 0 0 81 false 82 nN nN nN nN 278 279) (N (tu [nN, nN, (vb false), (vb false), (vb false), (vb false), (vs "none" 396), (vb false), (vb false), (vy [] 397)]) (N (cq "kind_of" 564 126 1 3 270 true 271 nN (vr 272) (vr 273) (vr 274) 569 570) (N (cq "tree_behind" 1059 327 2 3 526 true 527 nN (vr 528) (vr 529) (vr 530) 1064 1065) (L (tu [(vs "self" 1857), (vs "number" 1858)])) E) (N fn (L (tu [(vs "source" 2195), (vs "things" 2196)])) E)) (N fn (N (fu (sA 97) "tail_heard" nN m8 658) (L (tu [(vs "self" 2008), (vs "tree" 2009), (vs "port" 2010)])) E) (L tn))) (N (tu [(vs "vector" 494), (vs "root" 495), (vs "cost" 496), (vs "bridge" 497), (vs "port_id" 498)]) (N (tu [(vs "number" 744)]) (N (fu (sA 88) "role_by_vectors" nN m7 594) (L tn) E) (N (fu (sA 126) "moved_port" nN m9 850) (L (cq "law" 2280 1083 1 3 1358 true 1359 nN (vr 1360) (vr 1361) (vr 1362) 2291 2292)) E)) (N (tu [(vs "bridge" 974), (vs "cost" 975), (vs "hops" 976), (vs "region" 977), (vs "rows" 978)]) (N tn (L tn) E) (L (fz (sA 134) "tree_row"))))) (N tn (N tn (N (fz (sA 41) "block_words") (N (tu [(vs "bridge" 1109), (vs "tree" 1110), (vs "port" 1111)]) (L fn) E) (N (tu [(vs "bridge" 1485), (vs "tree" 1486), (vs "port" 1487), (vs "is_done" 1488)]) (L (fu (sA 159) "_law_costs_right" nN m14 1330)) E)) (N (fu (sM 66 1) "TreeRow.vector" nN m6 434) (N tn (L (fu (sM 147 24) "MstBridge.are_instances_synced" nN m12 1202)) E) (L (fu (sM 130 0) "TreeSide.__init__" nN m10 946)))) (N (fu (sA 26) "read_bridge" nN m2 242) (N tn (N tn (L (cp "link_up" "MstBridge.link_up" 1961 884 2 3 1134 true 1135 nN (vr 1136) (vr 1137) (vr 1138) 1967 1968)) E) (L (fl (vt "getset_descriptor") [(vs "__dict__" 1583), (vr 882), (vu "function.__dict__"), (vu "function.__dict__#set")]))) (N (fz (sA 72) "tail_octets") (N (fz (sA 111) "lose_edge") (L (fu (sM 149 1) "PortRow.port_id" nN m13 1266)) E) (L (tu [(vs "priority" 1818)]))))))
noncomputable def u6 (P : Params) : BT := (N (fl (vt "builtin_function_or_method") [(vu "type.__prepare__"), (vt "type")]) (N ⟨(vt "type"), none, .cls (cd "StateError" "StateError" [(vr 38)] [(vr 75), (vr 38), (vt "Exception"), (vt "BaseException"), (vt "object")] 74 true [] [] false false), #[some (vr 66), none, some (vs "StateError" 257), some (vs "StateError" 265), some (vu "Exception.__new__"), some (vb true)]⟩ (N (fl (vt "builtin_function_or_method") [(vu "object.__init_subclass__"), (vr 135)]) (N (fz (sA 30) "read_tail") (N (fz (sA 76) "cist_behind") (L fn) E) (N tn (L fn) E)) (N (tu [(vs "instances" 837), (vs "kept_digest" 838), (vs "name" 839), (vs "revision" 840)]) (N (fl (vt "super") [(vr 648), (vr 648), (vr 648)]) (L fn) E) (L (fu (sM 129 1) "TreePort.clear" nN m10 906)))) (N fn (N (fu (sA 45) "md5_with_key" nN m3 330) (N (cq "designated_vector" 1135 365 3 3 582 true 583 nN (vr 584) (vr 585) (vr 586) 1143 1144) (L (tu [(vs "self" 1922), (vs "number" 1923), (vs "vlan" 1924)])) E) (N (cq "moved_beyond" 1514 649 3 3 838 true 839 nN (vr 840) (vr 841) (vr 842) 1524 1525) (L (fz (sA 163) "_law_is_refused")) E)) (N (fz (sM 67 0) "TreeTail.__init__") (N (fu (sA 105) "hear_better" nN m8 714) (L (tu [(vs "self" 2086)])) E) (L tn)))) (N (dc 7 [de P "__module__" 341 (vs "switchloom.bpdus" 300), de P "__qualname__" 343 (vs "Times" 342), de P "__firstlineno__" 345 (vi 29 344), de P "__init__" 356 (vr 118), de P "told" 363 (vr 125), de P "with_age" 371 (vr 132), de P "__static_attributes__" 376 (vr 133)]) (N ⟨(vt "type"), none, .cls (cd "Bpdu" "Bpdu" [(vt "object")] [(vr 171), (vt "object")] 170 true [] [] false false), #[none, none, some (vs "Bpdu" 384), some (vs "Bpdu" 392), some (vu "object.__new__"), some (vb true)]⟩ (N fn (N fn (L tn) E) (N fn (L (cq "_law_telling" 2217 1031 6 3 1318 true 1319 nN (vr 1320) (vr 1321) (vr 1322) 2229 2230)) E)) (N (cp "__init__" "TreeRow.__init__" 897 254 9 3 422 true 423 nN (vr 424) (vr 425) (vr 426) 909 910) (N (tu [(vs "bpdu" 1285), (vs "tail" 1286), (vs "row" 1287), (vs "vector" 1288)]) (L (cp "sync_instances" "MstBridge.sync_instances" 2033 947 2 3 1190 true 1191 nN (vr 1192) (vr 1193) (vr 1194) 2040 2041)) E) (L tn))) (N (cq "pack_bpdu" 518 100 1 3 230 true 231 nN (vr 232) (vr 233) (vr 234) 524 525) (N (fu (sM 56 0) "Region.__init__" (vr 356) m5 362) (N (tu [(vs "tree" 1188), (vs "port" 1189)]) (L (fz (sM 147 14) "MstBridge.root_port")) E) (L (tu [(vs "self" 1568)]))) (N (fu (sA 70) "check_row" nN m6 490) (N tn (L (cp "__init__" "PortRow.__init__" 2129 993 6 3 1254 true 1255 nN (vr 1256) (vr 1257) (vr 1258) 2138 2139)) E) (L (tu [(vs "bridge" 1794), (vs "number" 1795), (vs "side" 1796), (vs "made" 1797)]))))))
noncomputable def u7 (P : Params) : BT := (N (cq "SizeError" 243 12 0 0 57 false 58 nN nN nN nN 246 247) (N (cp "__init__" "SettingError.__init__" 286 18 3 3 86 true 87 nN (vr 88) (vr 89) (vr 90) 292 293) (N tn (N (fu (sA 32) "unpack_bpdu" nN m2 282) (N (fu (sA 78) "with_teller" nN m6 538) (L tn) E) (N (fz (sA 118) "are_synced") (L tn) E)) (N (fz (sA 58) "same_region") (N tn (L tn) E) (L fn))) (N tn (N tn (N tn (L tn) E) (L tn)) (N (tu [(vs "proposal" 989), (vi 2 990)]) (N fn (L (fl (vt "getset_descriptor") [(vs "__weakref__" 2110), (vr 1241), (vu "ExceptionGroup.__weakref__"), nN])) E) (L tn)))) (N (fz (sM 15 1) "Times.told") (N (fu (sA 18) "number_octets" nN m2 186) (N (cq "step_parts" 705 164 4 3 310 true 311 nN (vr 312) (vr 313) (vr 314) 712 713) (N tn (L fn) E) (N tn (L tn) E)) (N ⟨(vt "type"), none, .cls (cd "TreeRow" "TreeRow" [(vt "object")] [(vr 443), (vt "object")] 442 true [] [] false false), #[none, none, some (vs "TreeRow" 885), some (vs "TreeRow" 893), some (vu "object.__new__"), some (vb true)]⟩ (N (fz (sA 103) "hear_agreement") (L tn) E) (L tn))) (N tn (N tn (N tn (L (fu (sM 147 16) "MstBridge.link_down" nN m12 1146)) E) (L (fl nN [(vi 699 0), (vi 4 0), (vr 899), (vi 704 0), (vi 4 0), (vr 906), (vi 729 0), (vi 4 0), (vr 913), (vi 734 0), (vi 4 0), (vr 920), (vi 739 0), (vi 4 0), (vr 927)]))) (N tn (N (cq "note_sort" 1397 512 2 3 758 true 759 nN (vr 760) (vr 761) (vr 762) 1402 1403) (L tn) E) (L (cq "check_ports" 1822 810 1 3 1016 true 1017 nN nN nN (vr 1018) 1825 1826))))))
noncomputable def u8 (P : Params) : BT := (N (fz (sM 2 0) "SwitchError.__init__") (N (fl (vt "builtin_function_or_method") [(vu "object.__init_subclass__"), (vr 63)]) (N tn (N (fu (sA 28) "read_vector" nN m2 256) (N fn (L (fl nN [(vi 817 0), (vi 4 0), (vr 1032), (vi 838 0), (vi 4 0), (vr 1039), (vi 841 0), (vi 4 0), (vr 1046), (vi 846 0), (vi 4 0), (vr 1053), (vi 851 0), (vi 4 0), (vr 1060), (vi 854 0), (vi 4 0), (vr 1065), (vi 857 0), (vi 4 0), (vr 1072), (vi 860 0), (vi 4 0), (vr 1079), (vi 863 0), (vi 4 0), (vr 1087), (vi 866 0), (vi 4 0), (vr 1095), (vi 869 0), (vi 4 0), (vr 1102), (vi 872 0), (vi 4 0), (vr 1109), (vi 875 0), (vi 4 0), (vr 1117), (vi 878 0), (vi 4 0), (vr 1124), (vi 881 0), (vi 4 0), (vr 1132), (vi 884 0), (vi 4 0), (vr 1139), (vi 894 0), (vi 4 0), (vr 1146), (vi 897 0), (vi 4 0), (vr 1153), (vi 902 0), (vi 4 0), (vr 1160), (vi 908 0), (vi 4 0), (vr 1167), (vi 918 0), (vi 4 0), (vr 1174), (vi 928 0), (vi 4 0), (vr 1181), (vi 935 0), (vi 4 0), (vr 1188), (vi 947 0), (vi 4 0), (vr 1195), (vi 955 0), (vi 4 0), (vr 1202), (vi 964 0), (vi 4 0), (vr 1209), (vi 970 0), (vi 4 0), (vr 1216), (vi 978 0), (vi 4 0), (vr 1223), (vi 984 0), (vi 4 0), (vr 1230), (vi 987 0), (vi 4 0), (vr 1237)])) E) (N (fz (sA 113) "hear_notice") (L (fu (sA 151) "_law_top" nN m14 1280)) E)) (N (fz (sM 56 4) "Region.digest") (N (tu [(vs "self" 1225), (vs "vector" 1226), (vs "age" 1227), (vs "hops" 1228), (vs "is_internal" 1229), (vs "role" 1230), (vs "flags" 1231)]) (L (cp "receive" "MstBridge.receive" 1978 897 3 3 1148 true 1149 nN (vr 1150) (vr 1151) (vr 1152) 1984 1985)) E) (L tn))) (N (cq "octets_number" 466 75 1 3 188 true 189 nN (vr 190) (vr 191) (vr 192) 472 473) (N (fu (sA 43) "block_digest" nN m3 320) (N (tu [(vs "bridge" 1125), (vs "tree" 1126), (vs "best" 1127), (vs "found" 1128), (vs "number" 1129), (vs "port" 1130), (vs "told" 1131)]) (L (tu [(vi 0 1909)])) E) (N (tu [(vs "bridge" 1508), (vs "tree" 1509), (vs "port" 1510)]) (L (fu (sA 161) "_law_old_right" nN m14 1344)) E)) (N (fl (vt "builtin_function_or_method") [(vu "type.__prepare__"), (vt "type")]) (N tn (L (fu (sM 147 26) "MstBridge.tell_at" nN m12 1216)) E) (L (dc 4 [de P "__module__" 1680 (vs "switchloom.mst_port" 1536), de P "__firstlineno__" 1684 (vi 742 1683), de P "__init__" 1690 (vr 947), de P "ages" 1697 (vr 954), de P "others" 1703 (vr 959), de P "__static_attributes__" 1712 (vr 960), de P "__dict__" 1714 (vr 963), de P "__weakref__" 1716 (vr 964), de P "__doc__" 1717 nN]))))) (N (fl (vt "builtin_function_or_method") [(vu "object.__init_subclass__"), (vr 95)]) (N (fu (sM 16 1) "Bpdu.flags" nN m2 160) (N (tu [(vr 285), (vr 286), (vr 287), (vr 288)]) (N (cq "is_from_same_port" 1076 331 2 3 540 true 541 nN (vr 542) (vr 543) (vr 544) 1081 1082) (L (tu [(vs "self" 1874)])) E) (N tn (L (tu [(vs "cost" 2210), (vs "rows" 2211), (vs "bridge" 2212), (vs "port" 2213)])) E)) (N (dc 7 [de P "__module__" 892 (vs "switchloom.mst_vectors" 863), de P "__qualname__" 894 (vs "TreeRow" 893), de P "__firstlineno__" 896 (vi 252 895), de P "__init__" 911 (vr 428), de P "vector" 921 (vr 435), de P "told" 927 (vr 440), de P "__static_attributes__" 936 (vr 441)]) (N (fu (sA 99) "cist_flags" nN m8 672) (L (tu [(vs "self" 2025), (vs "is_moved" 2026), (vs "tree" 2027), (vs "port" 2028), (vs "number" 2029)])) E) (L (tu [(vs "age" 1640), (vs "agree" 1641), (vs "agreed" 1642), (vs "backup_left" 1643), (vs "change_left" 1644), (vs "designated" 1645), (vs "flushes" 1646), (vs "forward_left" 1647), (vs "forwards" 1648), (vs "hops" 1649), (vs "info" 1650), (vs "learns" 1651), (vs "life_left" 1652), (vs "number" 1653), (vs "proposed" 1654), (vs "proposing" 1655), (vs "re_root" 1656), (vs "role" 1657), (vs "root_left" 1658), (vs "sync" 1659), (vs "synced" 1660), (vs "times" 1661), (vs "told_ages" 1662), (vs "told_inside" 1663), (vs "vector" 1664)])))) (N (tu [(vs "bpdu" 514)]) (N (fl nN [(vi 206 0), (vi 4 0), (vr 362), (vi 215 0), (vi 4 0), (vr 369), (vi 218 0), (vi 4 0), (vr 374), (vi 221 0), (vi 4 0), (vr 381), (vi 224 0), (vi 4 0), (vr 386), (vi 230 0), (vi 4 0), (vr 393)]) (N (fu (sA 90) "is_beyond" nN m7 608) (L (tu [(vs "self" 1948)])) E) (L (fu (sM 128 0) "PortSide.__init__" nN m10 864))) (N fn (N tn (L tn) E) (L (fu (sA 136) "made_bpdu" nN m11 992))))))
noncomputable def u9 (P : Params) : BT := (N tn (N tn (N (cq "Bpdu" 386 42 0 0 143 false 144 nN nN nN nN 389 390) (N tn (N tn (L tn) E) (N (fu (sA 116) "moved_disabled" nN m9 784) (L tn) E)) (N (fl (vt "builtin_function_or_method") [(vu "object.__init_subclass__"), (vr 397)]) (N (fz (sA 97) "tail_heard") (L tn) E) (L (cp "state" "TreePort.state" 1617 729 1 3 908 true 909 nN (vr 910) (vr 911) (vr 912) 1621 1622)))) (N tn (N tn (N (fz (sA 88) "role_by_vectors") (L fn) E) (N (fz (sA 126) "moved_port") (L tn) E)) (N (cp "told" "TreeTail.told" 968 280 1 3 462 true 463 nN nN nN (vr 464) 971 972) (N (cq "hear_again" 1335 464 5 3 716 true 717 nN (vr 718) (vr 719) (vr 720) 1343 1344) (L fn) E) (L (tu [(vs "bridge" 1745), (vs "tree" 1746), (vs "number" 1747), (vs "port" 1748), (vs "vector" 1749), (vs "role" 1750), (vs "priority" 1751)]))))) (N fn (N fn (N (tu [(vs "block" 695), (vs "found" 696), (vs "place" 697), (vs "a" 698), (vs "b" 699), (vs "c" 700), (vs "d" 701)]) (N tn (L (fu (sM 147 6) "MstBridge.all_trees" nN m12 1072)) E) (N tn (L (fz (sA 159) "_law_costs_right")) E)) (N (fz (sM 66 1) "TreeRow.vector") (N fn (L (fz (sM 147 24) "MstBridge.are_instances_synced")) E) (L (fz (sM 130 0) "TreeSide.__init__")))) (N (fz (sA 26) "read_bridge") (N (cp "instance_of" "Region.instance_of" 801 215 2 3 364 true 365 nN (vr 366) (vr 367) (vr 368) 806 807) (N fn (L tn) E) (L (dc 4 [de P "__module__" 1545 (vs "switchloom.mst_port" 1536), de P "__firstlineno__" 1549 (vi 670 1548), de P "__init__" 1557 (vr 865), de P "port_id" 1564 (vr 872), de P "begin" 1571 (vr 879), de P "__static_attributes__" 1582 (vr 880), de P "__dict__" 1584 (vr 883), de P "__weakref__" 1586 (vr 884), de P "__doc__" 1587 nN]))) (N tn (N (tu [(vs "bridge" 1390), (vs "side" 1391), (vs "tree" 1392), (vs "port" 1393)]) (L (fz (sM 149 1) "PortRow.port_id")) E) (L tn)))))
noncomputable def u10 (P : Params) : BT := (N (fl (vt "builtin_function_or_method") [(vu "object.__init_subclass__"), (vr 38)]) (N tn (N (fl (vt "getset_descriptor") [(vs "__weakref__" 379), (vr 135), (vu "ExceptionGroup.__weakref__"), nN]) (N (tu [(vs "octets" 558), (vs "size" 559), (vs "found" 560)]) (N (tu [(vs "vector" 1052), (vs "cost" 1053), (vs "is_internal" 1054), (vs "own" 1055)]) (L (fu (sM 147 0) "MstBridge.__init__" (vr 1028) m12 1032)) E) (N (cq "hear_bpdu" 1415 526 3 3 772 true 773 nN (vr 774) (vr 775) (vr 776) 1429 1430) (L (fu (sA 153) "_law_pool" nN m14 1288)) E)) (N (cp "octets" "Region.octets" 829 230 1 3 388 true 389 nN (vr 390) (vr 391) (vr 392) 834 835) (N (fl (vt "getset_descriptor") [(vs "__dict__" 1242), (vr 648), (vu "function.__dict__"), (vu "function.__dict__#set")]) (L (fu (sM 147 18) "MstBridge.second" nN m12 1160)) E) (L (fz (sM 129 1) "TreePort.clear")))) (N (fu (sA 20) "bridge_octets" nN m2 200) (N (fz (sA 45) "md5_with_key") (N tn (L tn) E) (N tn (L (tu [(vs "own" 2275), (vs "inner" 2276)])) E)) (N (tu [(vs "self" 959), (vs "region" 960), (vs "cost" 961), (vs "bridge" 962), (vs "hops" 963), (vs "rows" 964)]) (N (fz (sA 105) "hear_better") (L tn) E) (L fn)))) (N tn (N (tu [(vs "is_agreement" 434), (vs "is_change" 435), (vs "is_change_ack" 436), (vs "is_forwarding" 437), (vs "is_learning" 438), (vs "is_proposal" 439), (vs "kind" 440), (vs "role" 441), (vs "tail" 442), (vs "times" 443), (vs "vector" 444), (vs "version" 445)]) (N (fu (sA 39) "turned_left" nN m3 296) (N (fu (sA 80) "takes_over" nN m6 552) (L (cp "instance_trees" "MstBridge.instance_trees" 1878 854 1 3 1062 true 1063 nN nN nN (vr 1064) 1881 1882)) E) (N (fu (sA 120) "moved_root" nN m9 808) (L tn) E)) (N tn (N tn (L tn) E) (L (fl (vt "builtin_function_or_method") [(vu "type.__prepare__"), (vt "type")])))) (N tn (N (fz (sM 56 0) "Region.__init__") (N tn (L (tu [(vs "self" 1956), (vs "instance" 1957)])) E) (L tn)) (N (fz (sA 70) "check_row") (N fn (L tn) E) (L tn)))))
noncomputable def u11 (P : Params) : BT := (N tn (N tn (N (cp "__init__" "Bpdu.__init__" 398 44 13 3 148 true 149 nN (vr 150) (vr 151) (vr 152) 414 415) (N (fz (sA 32) "unpack_bpdu") (N (fz (sA 78) "with_teller") (L fn) E) (N tn (L fn) E)) (N (tu [(vs "one" 858), (vs "other" 859)]) (N (cq "is_own_tail" 1256 429 2 3 660 true 661 nN (vr 662) (vr 663) (vr 664) 1261 1262) (L fn) E) (L (fu (sM 129 3) "TreePort.block" nN m10 920)))) (N fn (N (fl (vt "list_iterator") [nN, (vi 16 0)]) (N (cq "role_beside" 1155 381 2 3 596 true 597 nN (vr 598) (vr 599) (vr 600) 1161 1162) (L fn) E) (L (cq "PortSide" 1540 670 0 0 855 false 856 nN nN nN nN 1543 1544))) (N (fl (vt "builtin_function_or_method") [(vu "object.__init_subclass__"), (vr 469)]) (N (fu (sA 107) "hear_worse" nN m8 728) (L ⟨(vt "type"), none, .cls (cd "MstBridge" "MstBridge" [(vt "object")] [(vr 1241), (vt "object")] 1240 true [] [] false false), #[none, none, some (vs "MstBridge" 1828), some (vs "MstBridge" 1836), some (vu "object.__new__"), some (vb true)]⟩) E) (L (cq "tree_tail" 1755 768 2 3 982 true 983 nN nN nN (vr 984) 1758 1759))))) (N (tu [(vs "self" 360)]) (N (fz (sA 18) "number_octets") (N tn (N fn (L (tu [(vi 0 1899)])) E) (N fn (L (cq "_law_held_right" 2247 1048 2 3 1332 true 1333 nN (vr 1334) (vr 1335) (vr 1336) 2255 2256)) E)) (N (tu [(vs "bridge_priority" 928), (vs "cost" 929), (vs "flags" 930), (vs "hops" 931), (vs "instance" 932), (vs "port_priority" 933), (vs "regional" 934), (vs "role" 935)]) (N (tu [(vs "bridge" 1306), (vs "tree" 1307), (vs "port" 1308), (vs "told" 1309), (vs "bpdu" 1310)]) (L (cp "tell_change" "MstBridge.tell_change" 2054 964 3 3 1204 true 1205 nN (vr 1206) (vr 1207) (vr 1208) 2060 2061)) E) (L (cp "ages" "TreeSide.ages" 1691 754 1 3 948 true 949 nN (vr 950) (vr 951) (vr 952) 1695 1696)))) (N (cq "read_port" 534 112 1 3 244 true 245 nN (vr 246) (vr 247) (vr 248) 539 540) (N fn (N (fl (vt "builtin_function_or_method") [(vu "type.__prepare__"), (vt "type")]) (L (fz (sM 147 16) "MstBridge.link_down")) E) (L (dc 9 [de P "__module__" 1597 (vs "switchloom.mst_port" 1536), de P "__qualname__" 1599 (vs "TreePort" 1598), de P "__firstlineno__" 1601 (vi 697 1600), de P "__init__" 1609 (vr 900), de P "clear" 1616 (vr 907), de P "state" 1623 (vr 914), de P "block" 1631 (vr 921), de P "told" 1639 (vr 928), de P "__static_attributes__" 1665 (vr 929)]))) (N (cq "read_row" 1023 300 1 3 502 true 503 nN nN nN (vr 504) 1026 1027) (N tn (L (fl (vt "super") [(vr 1270), (vr 1270), (vr 1270)])) E) (L fn)))))
noncomputable def u12 (P : Params) : BT := (N (dc 3 [de P "__module__" 203 (vs "switchloom.errors" 194), de P "__firstlineno__" 207 (vi 5 206), de P "__init__" 215 (vr 35), de P "__static_attributes__" 217 (vr 36), de P "__weakref__" 219 (vr 39), de P "__doc__" 220 nN]) (N tn (N (tu [(vs "age" 372), (vs "delay" 373), (vs "hello" 374), (vs "max_age" 375)]) (N (cq "read_times" 549 117 1 3 258 true 259 nN nN nN (vr 260) 552 553) (N (cq "cist_told" 1035 317 3 3 512 true 513 nN (vr 514) (vr 515) (vr 516) 1046 1047) (L tn) E) (N fn (L (tu [(vs "script" 2175), (vs "row" 2176), (vs "cell" 2177), (vs "big" 2178), (vs "mixed" 2179)])) E)) (N fn (N (fu (sM 96 0) "TreeTelling.__init__" nN m8 644) (L (tu [(vs "self" 1990), (vs "number" 1991)])) E) (L tn))) (N (tu [(vs "bridge" 478)]) (N (cq "md5_digest" 721 180 1 3 322 true 323 nN nN nN (vr 324) 724 725) (N (fu (sA 86) "choose_root" nN m7 580) (L tn) E) (N (fu (sA 124) "moved_blocked" nN m9 836) (L (cq "_law_tails_right" 2266 1061 1 3 1346 true 1347 nN nN nN (vr 1348) 2269 2270)) E)) (N (cq "TreeTail" 946 271 0 0 451 false 452 nN nN nN nN 949 950) (N tn (L tn) E) (L (fl (vt "super") [(vr 962), (vr 962), (vr 962)]))))) (N (tu [(vi 0 319), (vs "change" 320)]) (N tn (N (tu [(vs "number" 681), (vs "places" 682)]) (N (tu [(vs "told" 1087), (vs "held" 1088)]) (L (fu (sM 147 4) "MstBridge.delay" nN m12 1060)) E) (N tn (L (fu (sA 157) "_law_bridge" nN m14 1316)) E)) (N ⟨(vt "frame"), none, .plain, #[some (vr 420), some (vr 3), some (vr 417), none, some (vs "switchloom.mst_vectors" 863), none, some (vr 0)]⟩ (N tn (L (fu (sM 147 22) "MstBridge.step" nN m12 1188)) E) (L (fl (vt "getset_descriptor") [(vs "__weakref__" 1668), (vr 931), (vu "ExceptionGroup.__weakref__"), nN])))) (N (fu (sA 24) "check_bpdu" nN m2 228) (N tn (N tn (L (fu (sM 147 13) "MstBridge.regional_root" nN m12 1124)) E) (L tn)) (N tn (N (fz (sA 109) "hear_tree") (L (tu [(vb false), (vb true)])) E) (L tn)))))
noncomputable def u13 (P : Params) : BT := (N (fl (vt "builtin_function_or_method") [(vu "object.__init_subclass__"), (vr 51)]) (N o85 (N fn (N tn (N tn (L (fz (sM 147 2) "MstBridge.side")) E) (N tn (L (fz (sA 155) "_law_one")) E)) (N (cq "check_region" 849 233 3 3 402 true 403 nN nN nN (vr 404) 852 853) (N fn (L (fz (sM 147 20) "MstBridge.second_in")) E) (L (tu [(vs "self" 1627), (vs "delay" 1628)])))) (N (fz (sA 22) "vector_octets") (N (fz (sA 48) "put16") (N fn (L (cp "told_vector" "MstBridge.told_vector" 1928 872 2 3 1104 true 1105 nN (vr 1106) (vr 1107) (vr 1108) 1933 1934)) E) (L (fl (vt "builtin_function_or_method") [(vu "type.__prepare__"), (vt "type")]))) (N ⟨(vt "type"), none, .cls (cd "TreeTail" "TreeTail" [(vt "object")] [(vr 469), (vt "object")] 468 true [] [] false false), #[none, none, some (vs "TreeTail" 944), some (vs "TreeTail" 952), some (vu "object.__new__"), some (vb true)]⟩ (N (tu [(vs "bridge" 1349), (vs "tree" 1350), (vs "port" 1351), (vs "told" 1352)]) (L (cp "take_sent" "MstBridge.take_sent" 2090 987 1 3 1232 true 1233 nN (vr 1234) (vr 1235) (vr 1236) 2095 2096)) E) (L (fu (sA 134) "tree_row" nN m11 980))))) (N (cp "__init__" "Times.__init__" 346 31 5 3 112 true 113 nN (vr 114) (vr 115) (vr 116) 354 355) (N (cq "changed_notice" 454 69 0 3 176 true 177 nN (vr 178) (vr 179) (vr 180) 457 458) (N (fu (sA 41) "block_words" nN m3 308) (N (fz (sA 84) "is_candidate") (L tn) E) (N (fz (sA 122) "opened_by_time") (L fn) E)) (N fn (N (cq "may_agree" 1292 440 4 3 688 true 689 nN (vr 690) (vr 691) (vr 692) 1300 1301) (L fn) E) (L fn))) (N fn (N (fz (sM 56 2) "Region.numbers") (N (cq "life_of" 1193 408 4 3 624 true 625 nN (vr 626) (vr 627) (vr 628) 1201 1202) (L tn) E) (L (fl (vt "super") [(vr 882), (vr 882), (vr 882)]))) (N (fu (sA 72) "tail_octets" nN m6 500) (N (fu (sA 111) "lose_edge" nN m8 756) (L (dc 4 [de P "__module__" 2124 (vs "switchloom.rapid_port" 2115), de P "__firstlineno__" 2128 (vi 991 2127), de P "__init__" 2140 (vr 1260), de P "port_id" 2147 (vr 1267), de P "__static_attributes__" 2153 (vr 1268), de P "__dict__" 2155 (vr 1271), de P "__weakref__" 2157 (vr 1272), de P "__doc__" 2158 nN])) E) (L (fz (sA 145) "check_priority"))))))
noncomputable def u14 (P : Params) : BT := (N tn (N (fl (vt "builtin_function_or_method") [(vu "object.__init_subclass__"), (vr 75)]) (N (fl (vt "builtin_function_or_method") [(vu "type.__prepare__"), (vt "type")]) (N (fu (sA 30) "read_tail" nN m2 268) (N (fu (sA 76) "cist_behind" nN m6 524) (L tn) E) (N (tu [(vs "bridge" 1437), (vs "tree" 1438), (vs "port" 1439)]) (L tn) E)) (N ⟨(vt "type"), none, .cls (cd "Region" "Region" [(vt "object")] [(vr 397), (vt "object")] 396 true [] [] false false), #[none, none, some (vs "Region" 778), some (vs "Region" 786), some (vu "object.__new__"), some (vb true)]⟩ (N tn (L tn) E) (L fn))) (N tn (N fn (N tn (L (fz (sM 147 10) "MstBridge.state_of_vlan")) E) (N tn (L (fu (sA 163) "_law_is_refused" nN m14 1356)) E)) (N (fu (sM 67 0) "TreeTail.__init__" nN m6 460) (N fn (L (fz (sM 147 28) "MstBridge.take_flushed")) E) (L (cq "told_flags" 1735 761 1 3 968 true 969 nN (vr 970) (vr 971) (vr 972) 1739 1740))))) (N (fl nN [(vi 31 0), (vi 4 0), (vr 117), (vi 37 0), (vi 4 0), (vr 124), (vi 40 0), (vi 4 0), (vr 131)]) (N (fl (vt "getset_descriptor") [(vs "__weakref__" 449), (vr 171), (vu "ExceptionGroup.__weakref__"), nN]) (N (cq "filled_octets" 686 154 1 3 298 true 299 nN nN nN (vr 300) 689 690) (N tn (L (tu [(vs "self" 1887)])) E) (N tn (L tn) E)) (N tn (N (fz (sA 101) "row_telling") (L tn) E) (L (cq "TreeSide" 1675 742 0 0 939 false 940 nN nN nN nN 1678 1679)))) (N tn (N fn (N (fz (sA 92) "take_own") (L (fu (sM 147 14) "MstBridge.root_port" (vr 1126) m12 1132)) E) (L (fz (sM 128 2) "PortSide.begin"))) (N fn (N (cq "turn_internal" 1376 495 3 3 744 true 745 nN (vr 746) (vr 747) (vr 748) 1384 1385) (L tn) E) (L (fz (sA 138) "send_waiting"))))))
noncomputable def u15 (P : Params) : BT := (N tn (N (tu [(vs "row" 295)]) (N (tu [(vs "self" 420), (vs "found" 421)]) (N (tu [(vi 7 596), (vi 12 597), (vi 17 598), (vi 22 599)]) (N fn (L (cp "port_in" "MstBridge.port_in" 1862 846 3 3 1048 true 1049 nN (vr 1050) (vr 1051) (vr 1052) 1868 1869)) E) (N (fu (sA 118) "are_synced" nN m9 796) (L (cq "_law_region" 2200 1022 1 3 1304 true 1305 nN (vr 1306) (vr 1307) (vr 1308) 2204 2205)) E)) (N (fu (sA 58) "same_region" nN m5 412) (N (tu [(vs "bpdu" 1267)]) (L (cp "settle" "MstBridge.settle" 2014 928 1 3 1176 true 1177 nN (vr 1178) (vr 1179) (vr 1180) 2019 2020)) E) (L tn))) (N (cq "times_octets" 502 90 1 3 216 true 217 nN (vr 218) (vr 219) (vr 220) 508 509) (N tn (N (tu [(vs "bridge" 1167), (vs "tree" 1168), (vs "number" 1169)]) (L (cp "root" "MstBridge.root" 1937 875 2 3 1112 true 1113 nN (vr 1114) (vr 1115) (vr 1116) 1942 1943)) E) (L (tu [(vs "self" 1553), (vs "row" 1554)]))) (N (tu [(vs "forwarding" 993), (vi 32 994)]) (N tn (L (fl (vt "builtin_function_or_method") [(vu "object.__init_subclass__"), (vr 1241)])) E) (L (tu [(vs "bridge" 1764), (vs "number" 1765), (vs "side" 1766), (vs "port" 1767), (vs "root" 1768), (vs "cost" 1769), (vs "regional" 1770), (vs "inner" 1771), (vs "own" 1772), (vs "port_id" 1773), (vs "vector" 1774), (vs "flags" 1775), (vs "rooted" 1776), (vs "times" 1777)]))))) (N (fu (sM 15 1) "Times.told" nN m2 124) (N fn (N tn (N (cq "own_tree_vector" 1115 346 1 3 568 true 569 nN (vr 570) (vr 571) (vr 572) 1119 1120) (L tn) E) (N (cq "moved_designated" 1492 615 3 3 824 true 825 nN (vr 826) (vr 827) (vr 828) 1502 1503) (L (tu [(vs "age" 2261), (vs "bridge" 2262)])) E)) (N (fl (vt "getset_descriptor") [(vs "__weakref__" 939), (vr 443), (vu "ExceptionGroup.__weakref__"), nN]) (N (fu (sA 103) "hear_agreement" nN m8 700) (L (tu [(vs "self" 2066), (vs "port" 2067), (vs "times" 2068), (vs "is_old" 2069)])) E) (L (fz (sM 130 2) "TreeSide.others")))) (N (tu [(vs "octets" 545)]) (N (cp "vlans_of" "Region.vlans_of" 815 221 2 3 376 true 377 nN (vr 378) (vr 379) (vr 380) 820 821) (N (cq "TreeTelling" 1212 413 0 0 635 false 636 nN nN nN nN 1215 1216) (L fn) E) (L ⟨(vt "frame"), none, .plain, #[some (vr 892), some (vr 3), some (vr 889), none, some (vs "switchloom.mst_port" 1536), none, some (vr 0)]⟩)) (N (fz (sA 74) "read_tree_tail") (N tn (L tn) E) (L tn)))))
noncomputable def u16 (P : Params) : BT := (N tn (N (fl (vt "super") [(vr 63), (vr 63), (vr 63)]) (N (tu [(vs "self" 367), (vs "age" 368)]) (N (cq "read_vector" 542 115 1 3 251 true 252 nN (vr 253) (vr 254) (vr 255) 546 547) (N tn (L tn) E) (N tn (L (cq "_law_top" 2163 1003 0 3 1275 true 1276 nN (vr 1277) (vr 1278) (vr 1279) 2166 2167)) E)) (N fn (N fn (L (fz (sM 147 17) "MstBridge.receive")) E) (L (tu [(vs "self" 1605), (vs "number" 1606)])))) (N (fz (sA 19) "octets_number") (N (cq "block_digest" 715 172 2 3 317 true 318 nN nN nN (vr 319) 718 719) (N fn (L (fu (sM 147 8) "MstBridge.role" (vr 1081) m12 1087)) E) (N fn (L (cq "_law_old_right" 2258 1056 1 3 1339 true 1340 nN (vr 1341) (vr 1342) (vr 1343) 2263 2264)) E)) (N tn (N (tu [(vs "bridge" 1317), (vs "port" 1318), (vs "told" 1319), (vs "times" 1320)]) (L (cp "tell_at" "MstBridge.tell_at" 2063 970 2 3 1211 true 1212 nN (vr 1213) (vr 1214) (vr 1215) 2070 2071)) E) (L (tu [(vs "age" 1704), (vs "bridge" 1705), (vs "hops" 1706), (vs "number" 1707), (vs "ports" 1708), (vs "root_port" 1709), (vs "times" 1710), (vs "vector" 1711)]))))) (N (fl (vt "super") [(vr 95), (vr 95), (vr 95)]) (N (cp "flags" "Bpdu.flags" 417 58 1 3 155 true 156 nN (vr 157) (vr 158) (vr 159) 422 423) (N (tu [(vi 6 608), (vi 10 609), (vi 15 610), (vi 21 611)]) (N (fz (sA 79) "is_from_same_port") (L fn) E) (N (tu [(vs "bridge" 1460), (vs "tree" 1461), (vs "port" 1462), (vs "is_inner" 1463)]) (L fn) E)) (N (fl (vt "builtin_function_or_method") [(vu "type.__prepare__"), (vt "type")]) (N (cq "cist_flags" 1264 431 1 3 667 true 668 nN (vr 669) (vr 670) (vr 671) 1268 1269) (L fn) E) (L (fu (sM 129 4) "TreePort.told" nN m10 927)))) (N fn (N tn (N (cq "is_beyond" 1164 384 3 3 603 true 604 nN (vr 605) (vr 606) (vr 607) 1170 1171) (L fn) E) (L (cp "__init__" "PortSide.__init__" 1550 672 2 3 859 true 860 nN (vr 861) (vr 862) (vr 863) 1555 1556))) (N tn (N (fu (sA 108) "is_taken" nN m8 735) (L (dc 6 [de P "__module__" 2124 (vs "switchloom.rapid_port" 2115), de P "__qualname__" 2126 (vs "PortRow" 2125), de P "__firstlineno__" 2128 (vi 991 2127), de P "__init__" 2140 (vr 1260), de P "port_id" 2147 (vr 1267), de P "__static_attributes__" 2153 (vr 1268)])) E) (L (cq "made_bpdu" 1761 772 2 3 987 true 988 nN (vr 989) (vr 990) (vr 991) 1778 1779))))))
noncomputable def u17 (P : Params) : BT := (N ⟨(vt "frame"), none, .plain, #[some (vr 47), some (vr 3), some (vr 44), none, some (vs "switchloom.errors" 194), none, some (vr 0)]⟩ (N (dc 5 [de P "__module__" 280 (vs "switchloom.errors" 194), de P "__qualname__" 282 (vs "SettingError" 281), de P "__firstlineno__" 284 (vi 16 283), de P "__init__" 294 (vr 92), de P "__static_attributes__" 296 (vr 93)]) (N (fl nN [(vi 44 0), (vi 4 0), (vr 153), (vi 58 0), (vi 4 0), (vr 160), (vi 65 0), (vi 4 0), (vr 167)]) (N (tu [(vs "code" 567), (vs "kind" 568)]) (N (tu [(vs "vector" 1062), (vs "cost" 1063)]) (L (fu (sM 147 1) "MstBridge.numbers" nN m12 1039)) E) (N (cq "moved_disabled" 1434 552 3 3 779 true 780 nN (vr 781) (vr 782) (vr 783) 1440 1441) (L (fu (sA 154) "_law_take" nN m14 1295)) E)) (N (fl (vt "super") [(vr 397), (vr 397), (vr 397)]) (N tn (L (fu (sM 147 19) "MstBridge.second_of" nN m12 1167)) E) (L (fz (sM 129 2) "TreePort.state")))) (N (fu (sA 21) "port_octets" nN m2 207) (N (fu (sA 47) "put_number" nN m4 335) (N tn (L tn) E) (N tn (L (tu [(vs "script" 2283), (vs "own" 2284), (vs "inner" 2285), (vs "due" 2286), (vs "source" 2287), (vs "turn" 2288), (vs "way" 2289), (vs "is_right" 2290)])) E)) (N (fz (sM 67 1) "TreeTail.told") (N (fz (sA 106) "hear_again") (L tn) E) (L fn)))) (N tn (N tn (N fn (N (fu (sA 83) "behind_port" nN m7 559) (L (cp "all_trees" "MstBridge.all_trees" 1884 857 1 3 1067 true 1068 nN (vr 1069) (vr 1070) (vr 1071) 1888 1889)) E) (N (fu (sA 121) "opened" nN m9 815) (L tn) E)) (N tn (N tn (L tn) E) (L fn))) (N tn (N (fz (sM 56 1) "Region.instance_of") (N tn (L (tu [(vs "self" 1964), (vs "number" 1965), (vs "tree" 1966)])) E) (L (tu [(vs "hello_left" 1572), (vs "is_edge" 1573), (vs "is_internal" 1574), (vs "is_up" 1575), (vs "many_sent" 1576), (vs "owes_ack" 1577), (vs "row" 1578), (vs "sends" 1579), (vs "settle_left" 1580), (vs "wants_to_send" 1581)]))) (N (fu (sA 71) "row_octets" nN m6 495) (N fn (L tn) E) (L (tu [(vs "root" 1811), (vs "designated" 1812), (vs "master" 1813)]))))))
noncomputable def u18 (P : Params) : BT := (N (fl (vt "super") [(vr 38), (vr 38), (vr 38)]) (N ⟨(vt "frame"), none, .plain, #[some (vr 71), some (vr 3), some (vr 68), none, some (vs "switchloom.errors" 194), none, some (vr 0)]⟩ (N (fl (vt "getset_descriptor") [(vs "__dict__" 377), (vr 135), (vu "function.__dict__"), (vu "function.__dict__#set")]) (N fn (N fn (L (cp "__init__" "MstBridge.__init__" 1841 817 8 3 1029 true 1030 nN nN nN (vr 1031) 1844 1845)) E) (N (fz (sA 114) "hear_bpdu") (L (cq "_law_pool" 2172 1006 2 3 1283 true 1284 nN (vr 1285) (vr 1286) (vr 1287) 2180 2181)) E)) (N (fz (sM 56 5) "Region.octets") (N ⟨(vt "type"), none, .cls (cd "TreeTelling" "TreeTelling" [(vt "object")] [(vr 648), (vt "object")] 647 true [] [] false false), #[none, none, some (vs "TreeTelling" 1210), some (vs "TreeTelling" 1218), some (vu "object.__new__"), some (vb true)]⟩ (L (cp "second" "MstBridge.second" 1987 902 1 3 1155 true 1156 nN (vr 1157) (vr 1158) (vr 1159) 1992 1993)) E) (L tn))) (N (cq "bridge_octets" 475 80 1 3 195 true 196 nN (vr 197) (vr 198) (vr 199) 479 480) (N fn (N (tu [(vs "bridge" 1138), (vs "tree" 1139), (vs "number" 1140), (vs "side" 1141), (vs "found" 1142)]) (L (fu (sM 147 9) "MstBridge.state" (vr 1089) m12 1095)) E) (N (tu [(vs "bridge" 1517), (vs "tree" 1518), (vs "port" 1519), (vs "other" 1520), (vs "is_like" 1521), (vs "begins" 1522), (vs "ends" 1523)]) (L fn) E)) (N fn (N tn (L (fu (sM 147 27) "MstBridge.spread_change" nN m12 1223)) E) (L tn)))) (N (tu [(vr 100), (vr 101), (vr 102), (vr 103)]) (N (fu (sM 16 2) "Bpdu.told" nN m2 167) (N (cq "turned_left" 678 152 2 3 291 true 292 nN (vr 293) (vr 294) (vr 295) 683 684) (N (cq "takes_over" 1084 333 2 3 547 true 548 nN (vr 549) (vr 550) (vr 551) 1089 1090) (L (fz (sM 147 5) "MstBridge.instance_trees")) E) (N (cq "moved_root" 1467 580 3 3 805 true 806 nN nN nN (vr 807) 1470 1471) (L (tu [(vs "region" 2220), (vs "outer" 2221), (vs "inner" 2222), (vs "tree_cost" 2223), (vs "times" 2224), (vs "role" 2225), (vs "row" 2226), (vs "tail" 2227), (vs "vector" 2228)])) E)) (N (tu [(vs "self" 900), (vs "instance" 901), (vs "regional" 902), (vs "cost" 903), (vs "bridge_priority" 904), (vs "port_priority" 905), (vs "hops" 906), (vs "role" 907), (vs "flags" 908)]) (N (fu (sA 100) "cist_telling" nN m8 679) (L (tu [(vs "self" 2036), (vs "number" 2037), (vs "tree" 2038), (vs "port" 2039)])) E) (L tn))) (N (tu [(vs "bpdu" 521), (vs "head" 522), (vs "found" 523)]) (N tn (N (fu (sA 91) "choose_roles" nN m7 615) (L fn) E) (L (fu (sM 128 1) "PortSide.port_id" nN m10 871))) (N tn (N tn (L (tu [(vs "self" 2132), (vs "number" 2133), (vs "priority" 2134), (vs "cost" 2135), (vs "is_edge" 2136), (vs "is_straight" 2137)])) E) (L (fu (sA 137) "sends_always" nN m11 999))))))
noncomputable def u19 (P : Params) : BT := (N (dc 4 [de P "__module__" 248 (vs "switchloom.errors" 194), de P "__qualname__" 250 (vs "SizeError" 249), de P "__firstlineno__" 252 (vi 12 251), de P "__static_attributes__" 253 (vr 61)]) (N (tu [(vs "self" 289), (vs "message" 290), (vs "row" 291)]) (N (fz (sM 16 0) "Bpdu.__init__") (N tn (N tn (L tn) E) (N (fu (sA 117) "sync_all" nN m9 791) (L tn) E)) (N fn (N (fz (sA 98) "is_own_tail") (L tn) E) (L (cp "block" "TreePort.block" 1624 734 2 3 915 true 916 nN (vr 917) (vr 918) (vr 919) 1629 1630)))) (N tn (N ⟨(vt "list"), none, .seq [(vi 19 750), (vi 172 751), (vi 6 752), (vi 166 753), (vi 46 754), (vi 71 755), (vi 253 756), (vi 81 757), (vi 249 758), (vi 93 759), (vi 43 760), (vi 162 761), (vi 67 762), (vi 205 763), (vi 3 764), (vi 70 765)].toArray 0, #[]⟩ (N (fz (sA 89) "role_beside") (L tn) E) (L (fl nN [(vi 672 0), (vi 4 0), (vr 864), (vi 684 0), (vi 4 0), (vr 871), (vi 687 0), (vi 4 0), (vr 878)]))) (N (fl (vt "super") [(vr 469), (vr 469), (vr 469)]) (N (cq "hear_worse" 1346 469 4 3 723 true 724 nN (vr 725) (vr 726) (vr 727) 1353 1354) (L (dc 4 [de P "__module__" 1835 (vs "switchloom.mst" 1801), de P "__firstlineno__" 1839 (vi 815 1838), de P "__init__" 1846 (vr 1033), de P "numbers" 1853 (vr 1040), de P "side" 1861 (vr 1047), de P "port_in" 1870 (vr 1054), de P "delay" 1877 (vr 1061), de P "instance_trees" 1883 (vr 1066), de P "all_trees" 1890 (vr 1073), de P "want_to_send" 1898 (vr 1080), de P "role" 1908 (vr 1088), de P "state" 1918 (vr 1096), de P "state_of_vlan" 1927 (vr 1103), de P "told_vector" 1935 (vr 1110), de P "root" 1944 (vr 1118), de P "regional_root" 1951 (vr 1125), de P "root_port" 1960 (vr 1133), de P "link_up" 1969 (vr 1140), de P "link_down" 1977 (vr 1147), de P "receive" 1986 (vr 1154), de P "second" 1994 (vr 1161), de P "second_of" 2004 (vr 1168), de P "second_in" 2013 (vr 1175), de P "settle" 2021 (vr 1182), de P "step" 2032 (vr 1189), de P "sync_instances" 2042 (vr 1196), de P "are_instances_synced" 2053 (vr 1203), de P "tell_change" 2062 (vr 1210), de P "tell_at" 2072 (vr 1217), de P "spread_change" 2082 (vr 1224), de P "take_flushed" 2089 (vr 1231), de P "take_sent" 2097 (vr 1238), de P "__static_attributes__" 2107 (vr 1239), de P "__dict__" 2109 (vr 1242), de P "__weakref__" 2111 (vr 1243), de P "__doc__" 2112 nN])) E) (L (fz (sA 135) "tree_tail"))))) (N fn (N fn (N (tu [(vs "step" 708), (vs "b" 709), (vs "c" 710), (vs "d" 711)]) (N tn (L (fu (sM 147 7) "MstBridge.want_to_send" nN m12 1079)) E) (N tn (L (fz (sA 160) "_law_held_right")) E)) (N (fu (sM 66 2) "TreeRow.told" nN m6 439) (N fn (L (fz (sM 147 25) "MstBridge.tell_change")) E) (L (fz (sM 130 1) "TreeSide.ages")))) (N (fz (sA 27) "read_port") (N tn (N tn (L tn) E) (L (fl (vt "builtin_function_or_method") [(vu "type.__prepare__"), (vt "type")]))) (N (fz (sA 73) "read_row") (N (tu [(vs "side" 1400), (vs "bpdu" 1401)]) (L (fl (vt "getset_descriptor") [(vs "__weakref__" 2156), (vr 1270), (vu "ExceptionGroup.__weakref__"), nN])) E) (L tn)))))
noncomputable def u20 (P : Params) : BT := (N (tu [(vs "message" 216)]) (N (dc 4 [de P "__module__" 264 (vs "switchloom.errors" 194), de P "__qualname__" 266 (vs "StateError" 265), de P "__firstlineno__" 268 (vi 14 267), de P "__static_attributes__" 269 (vr 73)]) (N (fu (sM 15 2) "Times.with_age" nN m2 131) (N (fz (sA 29) "read_times") (N (fz (sA 75) "cist_told") (L (tu [(vi 6 1840), nN, (vi 20 1805)])) E) (N tn (L fn) E)) (N tn (N (cp "__init__" "TreeTelling.__init__" 1222 415 7 3 639 true 640 nN (vr 641) (vr 642) (vr 643) 1232 1233) (L fn) E) (L (fu (sM 129 0) "TreePort.__init__" nN m10 899)))) (N fn (N (fz (sA 44) "md5_digest") (N (cq "choose_root" 1122 350 2 3 575 true 576 nN (vr 577) (vr 578) (vr 579) 1132 1133) (L (tu [(vs "self" 1913), (vs "number" 1914), (vs "instance" 1915)])) E) (N (cq "moved_blocked" 1505 636 3 3 831 true 832 nN (vr 833) (vr 834) (vr 835) 1511 1512) (L (fz (sA 162) "_law_tails_right")) E)) (N (fl nN [(vi 273 0), (vi 4 0), (vr 460), (vi 280 0), (vi 4 0), (vr 465)]) (N (fu (sA 104) "keep_told" nN m8 707) (L (tu [(vs "self" 2076), (vs "tree" 2077), (vs "number" 2078), (vs "port" 2079)])) E) (L (fl (vt "getset_descriptor") [(vs "__weakref__" 1715), (vr 962), (vu "ExceptionGroup.__weakref__"), nN]))))) (N (tu [(vi 0 317), (vs "config" 318)]) (N (tu [(vs "self" 428), (vs "times" 429), (vs "head" 430)]) (N fn (N fn (L (cp "delay" "MstBridge.delay" 1871 851 1 3 1055 true 1056 nN (vr 1057) (vr 1058) (vr 1059) 1875 1876)) E) (N (fu (sA 119) "agreed_onward" nN m9 803) (L (cq "_law_bridge" 2207 1024 1 3 1311 true 1312 nN (vr 1313) (vr 1314) (vr 1315) 2214 2215)) E)) (N (cq "TreeRow" 887 252 0 0 418 false 419 nN nN nN nN 890 891) (N (tu [(vs "bpdu" 1274), (vs "tail" 1275), (vs "is_internal" 1276), (vs "vector" 1277), (vs "role" 1278)]) (L (cp "step" "MstBridge.step" 2022 935 1 3 1183 true 1184 nN (vr 1185) (vr 1186) (vr 1187) 2030 2031)) E) (L (fl (vt "getset_descriptor") [(vs "__dict__" 1666), (vr 931), (vu "function.__dict__"), (vu "function.__dict__#set")])))) (N (cq "check_bpdu" 511 95 1 3 223 true 224 nN (vr 225) (vr 226) (vr 227) 515 516) (N (tu [nN]) (N (tu [(vs "bridge" 1176), (vs "tree" 1177), (vs "found" 1178), (vs "number" 1179), (vs "port" 1180), (vs "is_told" 1181)]) (L (cp "regional_root" "MstBridge.regional_root" 1945 878 1 3 1119 true 1120 nN (vr 1121) (vr 1122) (vr 1123) 1949 1950)) E) (L (tu [(vs "self" 1561)]))) (N (fu (sA 69) "no_flags" nN m6 483) (N tn (L ⟨(vt "frame"), none, .plain, #[some (vr 1251), some (vr 3), some (vr 1248), none, some (vs "switchloom.rapid_port" 2115), none, some (vr 0)]⟩) E) (L (tu [(vs "bridge" 1784), (vs "number" 1785), (vs "number_of_tree" 1786), (vs "port" 1787)]))))))
noncomputable def u21 (P : Params) : BT := (N (fl (vt "super") [(vr 51), (vr 51), (vr 51)]) (N ⟨(vt "frame"), none, .plain, #[some (vr 83), some (vr 3), some (vr 80), none, some (vs "switchloom.errors" 194), none, some (vr 0)]⟩ (N tn (N (fu (sA 31) "kind_of" nN m2 275) (N (fu (sA 77) "tree_behind" nN m6 531) (L tn) E) (N (tu [(vs "tree" 1446), (vs "number" 1447)]) (L tn) E)) (N (fz (sA 57) "check_region") (N tn (L tn) E) (L fn))) (N tn (N tn (N tn (L (fz (sM 147 11) "MstBridge.told_vector")) E) (N tn (L (fu (sA 164) "law" nN m14 1363)) E)) (N (dc 4 [de P "__module__" 951 (vs "switchloom.mst_vectors" 863), de P "__firstlineno__" 955 (vi 271 954), de P "__init__" 967 (vr 461), de P "told" 973 (vr 466), de P "__static_attributes__" 979 (vr 467), de P "__dict__" 981 (vr 470), de P "__weakref__" 983 (vr 471), de P "__doc__" 984 nN]) (N fn (L (fz (sM 147 29) "MstBridge.take_sent")) E) (L (cq "tree_row" 1742 763 3 3 975 true 976 nN (vr 977) (vr 978) (vr 979) 1752 1753))))) (N (fz (sM 15 0) "Times.__init__") (N (fz (sA 17) "changed_notice") (N (cq "block_words" 692 158 1 3 303 true 304 nN (vr 305) (vr 306) (vr 307) 702 703) (N tn (L (tu [(vs "self" 1894), (vs "number" 1895)])) E) (N tn (L tn) E)) (N tn (N (fz (sA 102) "may_agree") (L tn) E) (L tn))) (N tn (N fn (N (fz (sA 93) "life_of") (L (fu (sM 147 15) "MstBridge.link_up" nN m12 1139)) E) (L (fl (vt "getset_descriptor") [(vs "__weakref__" 1585), (vr 882), (vu "ExceptionGroup.__weakref__"), nN]))) (N (cq "tail_octets" 1017 297 1 3 497 true 498 nN nN nN (vr 499) 1020 1021) (N (cq "lose_edge" 1387 504 2 3 751 true 752 nN (vr 753) (vr 754) (vr 755) 1394 1395) (L (tu [(vs "cost" 2148), (vs "is_edge" 2149), (vs "is_straight" 2150), (vs "number" 2151), (vs "priority" 2152)])) E) (L tn)))))
noncomputable def u22 (P : Params) : BT := (N (dc 4 [de P "__module__" 232 (vs "switchloom.errors" 194), de P "__qualname__" 234 (vs "FormError" 233), de P "__firstlineno__" 236 (vi 10 235), de P "__static_attributes__" 237 (vr 49)]) (N (fl (vt "super") [(vr 75), (vr 75), (vr 75)]) (N tn (N (cq "read_tail" 555 120 1 3 263 true 264 nN (vr 265) (vr 266) (vr 267) 561 562) (N (cq "cist_behind" 1049 323 4 3 519 true 520 nN (vr 521) (vr 522) (vr 523) 1056 1057) (L (tu [(vs "self" 1850)])) E) (N fn (L (tu [(vs "source" 2186), (vs "top" 2187), (vs "drawn" 2188)])) E)) (N (dc 4 [de P "__module__" 785 (vs "switchloom.regions" 748), de P "__firstlineno__" 789 (vi 204 788), de P "__init__" 800 (vr 363), de P "instance_of" 808 (vr 370), de P "numbers" 814 (vr 375), de P "vlans_of" 822 (vr 382), de P "digest" 828 (vr 387), de P "octets" 836 (vr 394), de P "__static_attributes__" 841 (vr 395), de P "__dict__" 843 (vr 398), de P "__weakref__" 845 (vr 399), de P "__doc__" 846 nN]) (N (fl (vt "builtin_function_or_method") [(vu "object.__init_subclass__"), (vr 648)]) (L (tu [(vs "self" 1998), (vs "number" 1999), (vs "side" 2000), (vs "tree" 2001)])) E) (L tn))) (N (tu [(vs "port_id" 485), (vs "priority" 486), (vs "number" 487)]) (N tn (N (fu (sA 87) "designated_vector" nN m7 587) (L tn) E) (N (fu (sA 125) "moved_beyond" nN m9 843) (L (cq "_law_is_refused" 2272 1077 2 3 1351 true 1352 nN (vr 1353) (vr 1354) (vr 1355) 2277 2278)) E)) (N (cp "__init__" "TreeTail.__init__" 956 273 6 3 455 true 456 nN (vr 457) (vr 458) (vr 459) 965 966) (N tn (L tn) E) (L (fz (sA 133) "told_flags"))))) (N tn (N (fl (vt "getset_descriptor") [(vs "__dict__" 447), (vr 171), (vu "function.__dict__"), (vu "function.__dict__#set")]) (N (fz (sA 40) "filled_octets") (N (tu [(vs "bridge" 1099), (vs "tree" 1100), (vs "port" 1101), (vs "side" 1102)]) (L fn) E) (N (tu [(vs "bridge" 1476), (vs "tree" 1477), (vs "port" 1478)]) (L (fu (sA 158) "_law_telling" nN m14 1323)) E)) (N (fu (sM 66 0) "TreeRow.__init__" nN m6 427) (N tn (L (fu (sM 147 23) "MstBridge.sync_instances" nN m12 1195)) E) (L (fl nN [(vi 744 0), (vi 4 0), (vr 946), (vi 754 0), (vi 4 0), (vr 953), (vi 757 0), (vi 4 0), (vr 958)])))) (N (fu (sA 25) "pack_bpdu" nN m2 235) (N tn (N tn (L (cp "root_port" "MstBridge.root_port" 1953 881 2 3 1127 true 1128 nN (vr 1129) (vr 1130) (vr 1131) 1958 1959)) E) (L tn)) (N tn (N (fz (sA 110) "turn_internal") (L (fu (sM 149 0) "PortRow.__init__" (vr 1253) m13 1259)) E) (L tn)))))
noncomputable def u23 (P : Params) : BT := (N ⟨(vt "frame"), none, .plain, #[some (vr 59), some (vr 3), some (vr 56), none, some (vs "switchloom.errors" 194), none, some (vr 0)]⟩ (N o92 (N fn (N (tu [(vi 1732584193 591), (vi 4023233417 592), (vi 2562383102 593), (vi 271733878 594)]) (N tn (L (fz (sM 147 3) "MstBridge.port_in")) E) (N (cq "are_synced" 1451 561 2 3 793 true 794 nN nN nN (vr 795) 1454 1455) (L (fz (sA 156) "_law_region")) E)) (N (cq "same_region" 855 243 2 3 407 true 408 nN (vr 409) (vr 410) (vr 411) 860 861) (N fn (L (fz (sM 147 21) "MstBridge.settle")) E) (L (tu [(vs "self" 1635), (vs "flags" 1636)])))) (N (fz (sA 23) "times_octets") (N (fl (vt "StopIteration") [(vr 347), nN, nN, nN, (vb false), nN]) (N fn (L (fz (sM 147 12) "MstBridge.root")) E) (L fn)) (N (tu [(vs "learning" 991), (vi 16 992)]) (N (tu [(vs "port" 1359), (vs "told" 1360)]) (L (fl (vt "super") [(vr 1241), (vr 1241), (vr 1241)])) E) (L fn)))) (N (cp "told" "Times.told" 357 37 1 3 119 true 120 nN (vr 121) (vr 122) (vr 123) 361 362) (N tn (N (fu (sA 42) "step_parts" nN m3 315) (N (fz (sA 85) "own_tree_vector") (L (tu [(vs "self" 1903), (vs "number" 1904), (vs "instance" 1905)])) E) (N (fz (sA 123) "moved_designated") (L fn) E)) (N (fl (vt "getset_descriptor") [(vs "__dict__" 937), (vr 443), (vu "function.__dict__"), (vu "function.__dict__#set")]) (N (cq "hear_agreement" 1303 445 5 3 695 true 696 nN (vr 697) (vr 698) (vr 699) 1311 1312) (L fn) E) (L fn))) (N fn (N (fz (sM 56 3) "Region.vlans_of") (N (fl nN [(vi 415 0), (vi 4 0), (vr 644)]) (L tn) E) (L (cq "TreePort" 1592 697 0 0 890 false 891 nN nN nN nN 1595 1596))) (N fn (N (fu (sA 112) "note_sort" nN m8 763) (L fn) E) (L (fu (sA 146) "check_ports" nN m12 1019))))))
noncomputable def u24 (P : Params) : BT := (N (cp "__init__" "SwitchError.__init__" 208 7 2 3 29 true 30 nN (vr 31) (vr 32) (vr 33) 213 214) (N (tu [(vr 38)]) (N (fz (sM 15 2) "Times.with_age") (N tn (N (tu [(vs "vector" 1038), (vs "tail" 1039), (vs "is_internal" 1040), (vs "root" 1041), (vs "cost" 1042), (vs "regional" 1043), (vs "port_id" 1044), (vs "teller" 1045)]) (L (cq "MstBridge" 1830 815 0 0 1024 false 1025 nN nN nN nN 1833 1834)) E) (N (cq "hear_notice" 1405 517 2 3 765 true 766 nN (vr 767) (vr 768) (vr 769) 1412 1413) (L (tu [(vi 4096 2169), (vi 50 2170)])) E)) (N (cp "digest" "Region.digest" 823 224 1 3 383 true 384 nN nN nN (vr 385) 826 827) (N tn (L (fu (sM 147 17) "MstBridge.receive" nN m12 1153)) E) (L (fz (sM 129 0) "TreePort.__init__")))) (N (fu (sA 19) "octets_number" nN m2 193) (N tn (N tn (L tn) E) (N tn (L tn) E)) (N (dc 6 [de P "__module__" 951 (vs "switchloom.mst_vectors" 863), de P "__qualname__" 953 (vs "TreeTail" 952), de P "__firstlineno__" 955 (vi 271 954), de P "__init__" 967 (vr 461), de P "told" 973 (vr 466), de P "__static_attributes__" 979 (vr 467)]) (N (fz (sA 104) "keep_told") (L tn) E) (L ⟨(vt "type"), none, .cls (cd "TreeSide" "TreeSide" [(vt "object")] [(vr 962), (vt "object")] 961 true [] [] false false), #[none, none, some (vs "TreeSide" 1673), some (vs "TreeSide" 1681), some (vu "object.__new__"), some (vb true)]⟩)))) (N (o98 P) (N tn (N (tu [(vi 3614090360 613), (vi 3905402710 614), (vi 606105819 615), (vi 3250441966 616), (vi 4118548399 617), (vi 1200080426 618), (vi 2821735955 619), (vi 4249261313 620), (vi 1770035416 621), (vi 2336552879 622), (vi 4294925233 623), (vi 2304563134 624), (vi 1804603682 625), (vi 4254626195 626), (vi 2792965006 627), (vi 1236535329 628), (vi 4129170786 629), (vi 3225465664 630), (vi 643717713 631), (vi 3921069994 632), (vi 3593408605 633), (vi 38016083 634), (vi 3634488961 635), (vi 3889429448 636), (vi 568446438 637), (vi 3275163606 638), (vi 4107603335 639), (vi 1163531501 640), (vi 2850285829 641), (vi 4243563512 642), (vi 1735328473 643), (vi 2368359562 644), (vi 4294588738 645), (vi 2272392833 646), (vi 1839030562 647), (vi 4259657740 648), (vi 2763975236 649), (vi 1272893353 650), (vi 4139469664 651), (vi 3200236656 652), (vi 681279174 653), (vi 3936430074 654), (vi 3572445317 655), (vi 76029189 656), (vi 3654602809 657), (vi 3873151461 658), (vi 530742520 659), (vi 3299628645 660), (vi 4096336452 661), (vi 1126891415 662), (vi 2878612391 663), (vi 4237533241 664), (vi 1700485571 665), (vi 2399980690 666), (vi 4293915773 667), (vi 2240044497 668), (vi 1873313359 669), (vi 4264355552 670), (vi 2734768916 671), (vi 1309151649 672), (vi 4149444226 673), (vi 3174756917 674), (vi 718787259 675), (vi 3951481745 676)]) (N (fu (sA 79) "is_from_same_port" nN m6 545) (L tn) E) (N (fz (sA 119) "agreed_onward") (L tn) E)) (N tn (N tn (L tn) E) (L (dc 4 [de P "__module__" 1597 (vs "switchloom.mst_port" 1536), de P "__firstlineno__" 1601 (vi 697 1600), de P "__init__" 1609 (vr 900), de P "clear" 1616 (vr 907), de P "state" 1623 (vr 914), de P "block" 1631 (vr 921), de P "told" 1639 (vr 928), de P "__static_attributes__" 1665 (vr 929), de P "__dict__" 1667 (vr 932), de P "__weakref__" 1669 (vr 933), de P "__doc__" 1670 nN])))) (N tn (N (cq "Region" 780 204 0 0 352 false 353 nN nN nN nN 783 784) (N tn (L tn) E) (L tn)) (N (fz (sA 69) "no_flags") (N fn (L (fl nN [(vi 993 0), (vi 4 0), (vr 1259), (vi 1000 0), (vi 4 0), (vr 1266)])) E) (L tn)))))
noncomputable def u25 (P : Params) : BT := (N (dc 2 [de P "__module__" 232 (vs "switchloom.errors" 194), de P "__firstlineno__" 236 (vi 10 235), de P "__static_attributes__" 237 (vr 49), de P "__doc__" 238 nN]) (N (fl nN [(vi 18 0), (vi 4 0), (vr 91)]) (N ⟨(vt "frame"), none, .plain, #[some (vr 145), some (vr 3), some (vr 142), none, some (vs "switchloom.bpdus" 300), none, some (vr 0)]⟩ (N (fz (sA 31) "kind_of") (N (fz (sA 77) "tree_behind") (L fn) E) (N tn (L fn) E)) (N tn (N (cq "tail_heard" 1249 422 1 3 653 true 654 nN (vr 655) (vr 656) (vr 657) 1253 1254) (L fn) E) (L (fu (sM 129 2) "TreePort.state" nN m10 913)))) (N fn (N fn (N (cq "role_by_vectors" 1146 371 3 3 589 true 590 nN (vr 591) (vr 592) (vr 593) 1152 1153) (L (tu [(vs "self" 1931), (vs "number" 1932)])) E) (N (cq "moved_port" 1527 661 3 3 845 true 846 nN (vr 847) (vr 848) (vr 849) 1533 1534) (L (fz (sA 164) "law")) E)) (N (fu (sM 67 1) "TreeTail.told" nN m6 465) (N (fu (sA 106) "hear_again" nN m8 721) (L (tu [(vs "self" 2093), (vs "found" 2094)])) E) (L tn)))) (N (tu [(vs "self" 349), (vs "age" 350), (vs "max_age" 351), (vs "hello" 352), (vs "delay" 353)]) (N tn (N tn (N fn (L tn) E) (N fn (L (cq "_law_costs_right" 2232 1036 3 3 1325 true 1326 nN (vr 1327) (vr 1328) (vr 1329) 2244 2245)) E)) (N (cp "vector" "TreeRow.vector" 912 264 3 3 429 true 430 nN (vr 431) (vr 432) (vr 433) 919 920) (N (tu [(vs "bridge" 1295), (vs "tree" 1296), (vs "port" 1297), (vs "bpdu" 1298), (vs "held" 1299)]) (L (cp "are_instances_synced" "MstBridge.are_instances_synced" 2043 955 3 3 1197 true 1198 nN (vr 1199) (vr 1200) (vr 1201) 2051 2052)) E) (L (cp "__init__" "TreeSide.__init__" 1685 744 4 3 943 true 944 nN nN nN (vr 945) 1688 1689)))) (N (cq "read_bridge" 527 110 1 3 237 true 238 nN (vr 239) (vr 240) (vr 241) 531 532) (N (fu (sM 56 1) "Region.instance_of" nN m5 369) (N (tu [(vs "bridge" 1196), (vs "port" 1197), (vs "is_internal" 1198), (vs "times" 1199), (vs "is_fresh" 1200)]) (L (fz (sM 147 15) "MstBridge.link_up")) E) (L ⟨(vt "type"), none, .cls (cd "PortSide" "PortSide" [(vt "object")] [(vr 882), (vt "object")] 881 true [] [] false false), #[none, none, some (vs "PortSide" 1538), some (vs "PortSide" 1546), some (vu "object.__new__"), some (vb true)]⟩)) (N fn (N tn (L (cp "port_id" "PortRow.port_id" 2141 1000 1 3 1261 true 1262 nN (vr 1263) (vr 1264) (vr 1265) 2145 2146)) E) (L fn)))))
noncomputable def u26 (P : Params) : BT := (N (tu [(vr 38)]) (N (dc 2 [de P "__module__" 264 (vs "switchloom.errors" 194), de P "__firstlineno__" 268 (vi 14 267), de P "__static_attributes__" 269 (vr 73), de P "__doc__" 270 nN]) (N (fl (vt "super") [(vr 135), (vr 135), (vr 135)]) (N tn (N tn (L tn) E) (N (fu (sA 114) "hear_bpdu" nN m8 777) (L tn) E)) (N (fu (sM 56 5) "Region.octets" nN m5 393) (N (fl (vt "getset_descriptor") [(vs "__weakref__" 1244), (vr 648), (vu "ExceptionGroup.__weakref__"), nN]) (L tn) E) (L (cp "clear" "TreePort.clear" 1610 704 1 3 901 true 902 nN (vr 903) (vr 904) (vr 905) 1614 1615)))) (N tn (N (cq "md5_with_key" 727 185 2 3 327 true 328 nN nN nN (vr 329) 730 731) (N (fz (sA 87) "designated_vector") (L fn) E) (N (fz (sA 125) "moved_beyond") (L tn) E)) (N tn (N (cq "hear_better" 1324 455 5 3 709 true 710 nN (vr 711) (vr 712) (vr 713) 1332 1333) (L fn) E) (L (tu [(vs "port" 1738)]))))) (N (fl (vt "builtin_function_or_method") [(vu "type.__prepare__"), (vt "type")]) (N (dc 4 [de P "__module__" 391 (vs "switchloom.bpdus" 300), de P "__firstlineno__" 395 (vi 42 394), de P "__init__" 416 (vr 154), de P "flags" 424 (vr 161), de P "told" 433 (vr 168), de P "__static_attributes__" 446 (vr 169), de P "__dict__" 448 (vr 172), de P "__weakref__" 450 (vr 173), de P "__doc__" 451 nN]) (N tn (N tn (L (fu (sM 147 5) "MstBridge.instance_trees" nN m12 1065)) E) (N tn (L (fz (sA 158) "_law_telling")) E)) (N (fz (sM 66 0) "TreeRow.__init__") (N fn (L (fz (sM 147 23) "MstBridge.sync_instances")) E) (L (dc 7 [de P "__module__" 1680 (vs "switchloom.mst_port" 1536), de P "__qualname__" 1682 (vs "TreeSide" 1681), de P "__firstlineno__" 1684 (vi 742 1683), de P "__init__" 1690 (vr 947), de P "ages" 1697 (vr 954), de P "others" 1703 (vr 959), de P "__static_attributes__" 1712 (vr 960)])))) (N (fz (sA 25) "pack_bpdu") (N (cp "__init__" "Region.__init__" 790 206 5 3 357 true 358 nN (vr 359) (vr 360) (vr 361) 798 799) (N fn (L tn) E) (L fn)) (N (cq "check_row" 1004 285 1 3 485 true 486 nN (vr 487) (vr 488) (vr 489) 1008 1009) (N (tu [(vs "bridge" 1379), (vs "number" 1380), (vs "is_internal" 1381), (vs "side" 1382), (vs "tree" 1383)]) (L (fz (sM 149 0) "PortRow.__init__")) E) (L fn)))))
noncomputable def u27 (P : Params) : BT := (N fn (N (fz (sM 6 0) "SettingError.__init__") (N (fu (sM 16 0) "Bpdu.__init__" (vr 147) m2 153) (N (cq "unpack_bpdu" 572 131 1 3 277 true 278 nN (vr 279) (vr 280) (vr 281) 582 583) (N (cq "with_teller" 1067 329 3 3 533 true 534 nN (vr 535) (vr 536) (vr 537) 1073 1074) (L (tu [(vs "self" 1865), (vs "number" 1866), (vs "instance" 1867)])) E) (N fn (L (tu [(vs "name" 2203)])) E)) (N tn (N (fu (sA 98) "is_own_tail" nN m8 665) (L (tu [(vs "self" 2017), (vs "turn" 2018)])) E) (L tn))) (N (tu [(vs "times" 505), (vs "found" 506), (vs "worth" 507)]) (N ⟨(vt "bytearray"), none, .bytearray #[19, 172, 6, 166, 46, 71, 253, 81, 249, 93, 43, 162, 67, 205, 3, 70] 0, #[]⟩ (N (fu (sA 89) "role_beside" nN m7 601) (L (tu [(vs "self" 1940), (vs "instance" 1941)])) E) (L ⟨(vt "frame"), none, .plain, #[some (vr 857), some (vr 3), some (vr 854), none, some (vs "switchloom.mst_port" 1536), none, some (vr 0)]⟩)) (N (tu [(vs "change" 987), (vi 1 988)]) (N tn (L (fl (vt "getset_descriptor") [(vs "__dict__" 2108), (vr 1241), (vu "function.__dict__"), (vu "function.__dict__#set")])) E) (L (fu (sA 135) "tree_tail" nN m11 985))))) (N tn (N (cq "number_octets" 460 71 2 3 183 true 184 nN nN nN (vr 185) 463 464) (N (fz (sA 42) "step_parts") (N (tu [(vs "tree" 1118)]) (L tn) E) (N (tu [(vs "bridge" 1495), (vs "tree" 1496), (vs "port" 1497), (vs "side" 1498), (vs "is_shut" 1499), (vs "must_shut" 1500), (vs "may_open" 1501)]) (L (fu (sA 160) "_law_held_right" nN m14 1337)) E)) (N (dc 4 [de P "__module__" 892 (vs "switchloom.mst_vectors" 863), de P "__firstlineno__" 896 (vi 252 895), de P "__init__" 911 (vr 428), de P "vector" 921 (vr 435), de P "told" 927 (vr 440), de P "__static_attributes__" 936 (vr 441), de P "__dict__" 938 (vr 444), de P "__weakref__" 940 (vr 445), de P "__doc__" 941 nN]) (N tn (L (fu (sM 147 25) "MstBridge.tell_change" nN m12 1209)) E) (L (fu (sM 130 1) "TreeSide.ages" nN m10 953)))) (N (fu (sA 27) "read_port" nN m2 249) (N (tu [(vs "self" 818), (vs "instance" 819)]) (N (dc 5 [de P "__module__" 1217 (vs "switchloom.mst_hear" 1204), de P "__qualname__" 1219 (vs "TreeTelling" 1218), de P "__firstlineno__" 1221 (vi 413 1220), de P "__init__" 1234 (vr 645), de P "__static_attributes__" 1241 (vr 646)]) (L (cp "link_down" "MstBridge.link_down" 1970 894 2 3 1141 true 1142 nN (vr 1143) (vr 1144) (vr 1145) 1975 1976)) E) (L tn)) (N (fu (sA 73) "read_row" nN m6 505) (N (fz (sA 112) "note_sort") (L (fl (vt "builtin_function_or_method") [(vu "object.__init_subclass__"), (vr 1270)])) E) (L (fz (sA 146) "check_ports"))))))
noncomputable def u28 (P : Params) : BT := (N ⟨(vt "type"), none, .cls (cd "SwitchError" "SwitchError" [(vt "Exception")] [(vr 38), (vt "Exception"), (vt "BaseException"), (vt "object")] 37 true [] [(vr 51), (vr 63), (vr 75), (vr 95)] false false), #[some (vr 22), none, some (vs "SwitchError" 196), some (vs "SwitchError" 204), some (vu "Exception.__new__"), some (vb true)]⟩ (N fn (N (dc 4 [de P "__module__" 341 (vs "switchloom.bpdus" 300), de P "__firstlineno__" 345 (vi 29 344), de P "__init__" 356 (vr 118), de P "told" 363 (vr 125), de P "with_age" 371 (vr 132), de P "__static_attributes__" 376 (vr 133), de P "__dict__" 378 (vr 136), de P "__weakref__" 380 (vr 137), de P "__doc__" 381 nN]) (N (fu (sA 29) "read_times" nN m2 261) (N (fu (sA 75) "cist_told" nN m6 517) (L fn) E) (N (tu [(vs "bridge" 1418), (vs "number" 1419), (vs "bpdu" 1420), (vs "side" 1421), (vs "port" 1422), (vs "tail" 1423), (vs "is_own" 1424), (vs "told" 1425), (vs "is_heard" 1426), (vs "row" 1427), (vs "tree" 1428)]) (L tn) E)) (N (tu [(vs "self" 832), (vs "name" 833)]) (N (tu [(vs "age" 1235), (vs "flags" 1236), (vs "hops" 1237), (vs "is_internal" 1238), (vs "role" 1239), (vs "vector" 1240)]) (L tn) E) (L fn))) (N tn (N (fu (sA 44) "md5_digest" nN m3 325) (N tn (L (fz (sM 147 9) "MstBridge.state")) E) (N tn (L (fu (sA 162) "_law_tails_right" nN m14 1349)) E)) (N ⟨(vt "frame"), none, .plain, #[some (vr 453), some (vr 3), some (vr 450), none, some (vs "switchloom.mst_vectors" 863), none, some (vr 0)]⟩ (N fn (L (fz (sM 147 27) "MstBridge.spread_change")) E) (L (fl (vt "builtin_function_or_method") [(vu "object.__init_subclass__"), (vr 962)]))))) (N (tu [(vi 2 321), (vs "rapid" 322)]) (N (fz (sM 16 2) "Bpdu.told") (N tn (N tn (L tn) E) (N fn (L tn) E)) (N tn (N (fz (sA 100) "cist_telling") (L tn) E) (L (fl (vt "super") [(vr 931), (vr 931), (vr 931)])))) (N tn (N fn (N (fz (sA 91) "choose_roles") (L (tu [(vi 0 1952)])) E) (L (fz (sM 128 1) "PortSide.port_id"))) (N fn (N (cq "hear_tree" 1364 478 5 3 737 true 738 nN (vr 739) (vr 740) (vr 741) 1373 1374) (L tn) E) (L (fz (sA 137) "sends_always"))))))
noncomputable def u29 (P : Params) : BT := (N (tu [(vr 38)]) (N tn (N (tu [(vs "self" 401), (vs "version" 402), (vs "kind" 403), (vs "vector" 404), (vs "times" 405), (vs "is_change" 406), (vs "is_change_ack" 407), (vs "is_proposal" 408), (vs "is_agreement" 409), (vs "role" 410), (vs "is_learning" 411), (vs "is_forwarding" 412), (vs "tail" 413)]) (N fn (N fn (L (cp "side" "MstBridge.side" 1854 841 2 3 1041 true 1042 nN (vr 1043) (vr 1044) (vr 1045) 1859 1860)) E) (N (fz (sA 117) "sync_all") (L (cq "_law_one" 2192 1020 2 3 1297 true 1298 nN (vr 1299) (vr 1300) (vr 1301) 2197 2198)) E)) (N (fu (sA 57) "check_region" nN m5 405) (N (tu [(vs "bridge" 1259), (vs "tail" 1260)]) (L (cp "second_in" "MstBridge.second_in" 2005 918 3 3 1169 true 1170 nN (vr 1171) (vr 1172) (vr 1173) 2011 2012)) E) (L tn))) (N (cq "vector_octets" 491 87 1 3 209 true 210 nN (vr 211) (vr 212) (vr 213) 499 500) (N (cq "put16" 741 195 1 3 337 true 338 nN (vr 339) (vr 340) (vr 341) 745 746) (N (tu [(vs "bridge" 1158), (vs "number" 1159), (vs "role" 1160)]) (L (fu (sM 147 11) "MstBridge.told_vector" nN m12 1109)) E) (L (dc 7 [de P "__module__" 1545 (vs "switchloom.mst_port" 1536), de P "__qualname__" 1547 (vs "PortSide" 1546), de P "__firstlineno__" 1549 (vi 670 1548), de P "__init__" 1557 (vr 865), de P "port_id" 1564 (vr 872), de P "begin" 1571 (vr 879), de P "__static_attributes__" 1582 (vr 880)]))) (N (fl (vt "getset_descriptor") [(vs "__dict__" 980), (vr 469), (vu "function.__dict__"), (vu "function.__dict__#set")]) (N tn (L (fu (sM 147 29) "MstBridge.take_sent" nN m12 1237)) E) (L tn)))) (N (fu (sM 15 0) "Times.__init__" nN m2 117) (N (fu (sA 17) "changed_notice" nN m2 181) (N tn (N (cq "is_candidate" 1106 342 3 3 561 true 562 nN (vr 563) (vr 564) (vr 565) 1112 1113) (L (fz (sM 147 7) "MstBridge.want_to_send")) E) (N (cq "opened_by_time" 1482 610 3 3 817 true 818 nN (vr 819) (vr 820) (vr 821) 1489 1490) (L (tu [(vs "hello" 2250), (vs "role" 2251), (vs "bridge" 2252), (vs "lasts" 2253), (vs "turn" 2254)])) E)) (N (fz (sM 66 2) "TreeRow.told") (N (fu (sA 102) "may_agree" nN m8 693) (L (tu [(vs "self" 2057), (vs "tree" 2058), (vs "port" 2059)])) E) (L (tu [(vs "self" 1694)])))) (N (tu [(vs "octets" 537), (vs "worth" 538)]) (N (cp "numbers" "Region.numbers" 809 218 1 3 371 true 372 nN nN nN (vr 373) 812 813) (N (fu (sA 93) "life_of" nN m7 629) (L fn) E) (L (fl (vt "builtin_function_or_method") [(vu "object.__init_subclass__"), (vr 882)]))) (N tn (N tn (L ⟨(vt "type"), none, .cls (cd "PortRow" "PortRow" [(vt "object")] [(vr 1270), (vt "object")] 1269 true [] [] false false), #[none, none, some (vs "PortRow" 2117), some (vs "PortRow" 2125), some (vu "object.__new__"), some (vb true)]⟩) E) (L (cq "check_priority" 1815 807 1 3 1009 true 1010 nN (vr 1011) (vr 1012) (vr 1013) 1819 1820))))))
noncomputable def u30 (P : Params) : BT := (N fn (N (tu [(vr 38)]) (N (dc 7 [de P "__module__" 391 (vs "switchloom.bpdus" 300), de P "__qualname__" 393 (vs "Bpdu" 392), de P "__firstlineno__" 395 (vi 42 394), de P "__init__" 416 (vr 154), de P "flags" 424 (vr 161), de P "told" 433 (vr 168), de P "__static_attributes__" 446 (vr 169)]) (N tn (N tn (L (fz (sM 147 1) "MstBridge.numbers")) E) (N tn (L (fz (sA 154) "_law_take")) E)) (N (fl (vt "getset_descriptor") [(vs "__dict__" 842), (vr 397), (vu "function.__dict__"), (vu "function.__dict__#set")]) (N fn (L (fz (sM 147 19) "MstBridge.second_of")) E) (L (tu [(vs "self" 1620)])))) (N (fz (sA 21) "port_octets") (N (fz (sA 47) "put_number") (N fn (L (cp "state_of_vlan" "MstBridge.state_of_vlan" 1919 869 3 3 1097 true 1098 nN (vr 1099) (vr 1100) (vr 1101) 1925 1926)) E) (N fn (L tn) E)) (N tn (N (tu [(vs "bridge" 1338), (vs "tree" 1339), (vs "port" 1340), (vs "told" 1341), (vs "bpdu" 1342)]) (L (cp "take_flushed" "MstBridge.take_flushed" 2083 984 1 3 1225 true 1226 nN (vr 1227) (vr 1228) (vr 1229) 2087 2088)) E) (L (fu (sA 133) "told_flags" nN m11 973))))) (N (cq "Times" 336 29 0 0 108 false 109 nN nN nN nN 339 340) (N (fl (vt "super") [(vr 171), (vr 171), (vr 171)]) (N (fu (sA 40) "filled_octets" nN m3 301) (N (fz (sA 83) "behind_port") (L tn) E) (N (fz (sA 121) "opened") (L fn) E)) (N fn (N (cq "row_telling" 1282 437 3 3 681 true 682 nN (vr 683) (vr 684) (vr 685) 1289 1290) (L fn) E) (L ⟨(vt "frame"), none, .plain, #[some (vr 941), some (vr 3), some (vr 938), none, some (vs "switchloom.mst_port" 1536), none, some (vr 0)]⟩))) (N fn (N (tu [(vs "self" 804), (vs "vlan" 805)]) (N (cq "take_own" 1185 400 2 3 617 true 618 nN (vr 619) (vr 620) (vr 621) 1190 1191) (L tn) E) (L (cp "begin" "PortSide.begin" 1565 687 1 3 873 true 874 nN (vr 875) (vr 876) (vr 877) 1569 1570))) (N (fz (sA 71) "row_octets") (N (fu (sA 110) "turn_internal" nN m8 749) (L fn) E) (L (cq "send_waiting" 1791 791 1 3 1001 true 1002 nN (vr 1003) (vr 1004) (vr 1005) 1798 1799))))))
noncomputable def u31 (P : Params) : BT := (N (dc 2 [de P "__module__" 248 (vs "switchloom.errors" 194), de P "__firstlineno__" 252 (vi 12 251), de P "__static_attributes__" 253 (vr 61), de P "__doc__" 254 nN]) (N (dc 2 [de P "__module__" 280 (vs "switchloom.errors" 194), de P "__firstlineno__" 284 (vi 16 283), de P "__init__" 294 (vr 92), de P "__static_attributes__" 296 (vr 93), de P "__doc__" 297 nN]) (N tn (N (tu [(vi 5 600), (vi 9 601), (vi 14 602), (vi 20 603)]) (N (tu [(vs "one" 1079), (vs "other" 1080)]) (L (fu (sM 147 3) "MstBridge.port_in" nN m12 1053)) E) (N tn (L (fu (sA 156) "_law_region" nN m14 1309)) E)) (N (tu [(vs "master" 880), (vs "alternate" 881), (vs "root" 882), (vs "designated" 883)]) (N tn (L (fu (sM 147 21) "MstBridge.settle" nN m12 1181)) E) (L (fz (sM 129 4) "TreePort.told")))) (N (fu (sA 23) "times_octets" nN m2 221) (N (fl (vt "builtin_function_or_method") [(vu "type.__prepare__"), (vt "type")]) (N tn (L (fu (sM 147 12) "MstBridge.root" (vr 1111) m12 1117)) E) (L tn)) (N (tu [(vs "agreement" 995), (vi 64 996)]) (N (fz (sA 108) "is_taken") (L tn) E) (L tn)))) (N tn (N (tu [(vs "octets" 469), (vs "found" 470), (vs "octet" 471)]) (N fn (N (fu (sA 85) "own_tree_vector" nN m7 573) (L (fz (sM 147 8) "MstBridge.role")) E) (N (fu (sA 123) "moved_designated" nN m9 829) (L tn) E)) (N (fl (vt "super") [(vr 443), (vr 443), (vr 443)]) (N tn (L tn) E) (L (cp "others" "TreeSide.others" 1698 757 2 3 955 true 956 nN nN nN (vr 957) 1701 1702)))) (N tn (N (fu (sM 56 3) "Region.vlans_of" nN m5 381) (N ⟨(vt "frame"), none, .plain, #[some (vr 637), some (vr 3), some (vr 634), none, some (vs "switchloom.mst_hear" 1204), none, some (vr 0)]⟩ (L (tu [(vs "self" 1981), (vs "number" 1982), (vs "bpdu" 1983)])) E) (L tn)) (N (cq "read_tree_tail" 1029 306 1 3 507 true 508 nN nN nN (vr 509) 1032 1033) (N fn (L tn) E) (L (fl (vt "builtin_function_or_method") [(vu "type.__prepare__"), (vt "type")]))))))
noncomputable def cutT (n : Nat) : BT → Nat → Nat → BT
 | .nil, _, _ => .nil
 | .node o l r, a, b => match Nat.blt b n with | true => .node o (cutT n l (2 * a) (a + b)) (cutT n r (2 * a) (2 * a + b)) | false => .nil
noncomputable def putT (t : BT) (a : Nat) (o : Obj) : BT := t.set a fun V => o
noncomputable def t13 (P : Params) : BT := (N (boot_o_0 P) (N (boot_o_1 P) (N (o3x13 P) (N (boot_o_7 P) (N tn (u0 P) (u1 P)) (N (fl (vt "builtin_function_or_method") [(vu "type.__prepare__"), (vt "type")]) (u2 P) (u3 P))) (N tn (N (fz (sA 0) "_wall") (u4 P) (u5 P)) (N (cq "SwitchError" 198 5 0 0 25 false 26 nN nN nN nN 201 202) (u6 P) (u7 P)))) (N (boot_o_5 P) (N (boot_o_9 P) (N (tu [(vs "k" 190)]) (u8 P) (u9 P)) (N tn (u10 P) (u11 P))) (N (cq "<module>" 182 1 0 0 11 false 12 nN nN nN nN 185 186) (N (fu (sA 0) "_wall" nN m0 20) (u12 P) (u13 P)) (N tn (u14 P) (u15 P))))) (N (o2x1 P) (N (boot_o_4 P) (N (boot_o_8 P) (N fn (u16 P) (u17 P)) (N (dc 5 [de P "__module__" 203 (vs "switchloom.errors" 194), de P "__qualname__" 205 (vs "SwitchError" 204), de P "__firstlineno__" 207 (vi 5 206), de P "__init__" 215 (vr 35), de P "__static_attributes__" 217 (vr 36)]) (u18 P) (u19 P))) (N (fl nN e12x10) (N (cq "_wall" 187 1 1 3 15 true 16 nN (vr 17) (vr 18) (vr 19) 191 192) (u20 P) (u21 P)) (N ⟨(vt "frame"), none, .plain, #[some (vr 27), some (vr 3), some (vr 24), none, some (vs "switchloom.errors" 194), none, some (vr 0)]⟩ (u22 P) (u23 P)))) (N (boot_o_6 P) (N (boot_o_10 P) (N tn (u24 P) (u25 P)) (N (fl nN [(vi 7 0), (vi 4 0), (vr 34)]) (u26 P) (u27 P))) (N ⟨(vt "frame"), none, .plain, #[some (vr 13), some (vr 3), some (vr 3), none, some (vs "__main__" 164), none, some (vr 0)]⟩ (N (tu [(vt "Exception")]) (u28 P) (u29 P)) (N fn (u30 P) (u31 P))))))
noncomputable def t0 (P : Params) : BT := putT (putT (putT (cutT 15 (t13 P) 1 0) 2 (boot_o_2 P)) 3 (boot_o_3 P)) 12 o12
noncomputable def t1 (P : Params) : BT := putT (putT (cutT 98 (t13 P) 1 0) 3 (o3x1 P)) 12 o12x1
noncomputable def t2 (P : Params) : BT := putT (putT (cutT 99 (t13 P) 1 0) 3 (o3x2 P)) 12 o12x1
noncomputable def t3 (P : Params) : BT := putT (putT (cutT 290 (t13 P) 1 0) 3 (o3x3 P)) 12 o12x2
noncomputable def t4 (P : Params) : BT := putT (putT (cutT 344 (t13 P) 1 0) 3 (o3x4 P)) 12 o12x3
noncomputable def t5 (P : Params) : BT := putT (putT (cutT 349 (t13 P) 1 0) 3 (o3x5 P)) 12 o12x3
noncomputable def t6 (P : Params) : BT := putT (putT (cutT 507 (t13 P) 1 0) 3 (o3x6 P)) 12 o12x4
noncomputable def t7 (P : Params) : BT := putT (putT (cutT 751 (t13 P) 1 0) 3 (o3x7 P)) 12 o12x5
noncomputable def t8 (P : Params) : BT := putT (putT (cutT 936 (t13 P) 1 0) 3 (o3x8 P)) 12 o12x6
noncomputable def t9 (P : Params) : BT := putT (putT (cutT 967 (t13 P) 1 0) 3 (o3x9 P)) 12 o12x7
noncomputable def t10 (P : Params) : BT := putT (putT (cutT 968 (t13 P) 1 0) 3 (o3x10 P)) 12 o12x7
noncomputable def t11 (P : Params) : BT := putT (putT (cutT 1021 (t13 P) 1 0) 3 (o3x11 P)) 12 o12x8
noncomputable def t12 (P : Params) : BT := putT (putT (cutT 1246 (t13 P) 1 0) 3 (o3x12 P)) 12 o12x9
noncomputable def env0 : Env := { scope := pw.main.scope, locals := mainNs, globals := mainNs, cells := [], code := .ref 13, frame := some 14 }
noncomputable abbrev B0 : List Stmt := behindTheImports pw
noncomputable abbrev p0 : Pos := ⟨0, 0, 0, 0⟩
noncomputable abbrev fr0 : List Frame := [topFrame p0]
noncomputable abbrev cB : Code := .body B0 env0
noncomputable abbrev sT (t : Params → BT) (n k : Nat) (w : World) (os : OsState) : SharedT := ⟨t w.params, n, {}, #[], {}, k, os⟩
noncomputable def R0 : List Stmt := B0.drop 0
noncomputable def R1 : List Stmt := B0.drop 8
noncomputable def R2 : List Stmt := B0.drop 9
noncomputable def R3 : List Stmt := B0.drop 38
noncomputable def R4 : List Stmt := B0.drop 50
noncomputable def R5 : List Stmt := B0.drop 51
noncomputable def R6 : List Stmt := B0.drop 74
noncomputable def R7 : List Stmt := B0.drop 111
noncomputable def R8 : List Stmt := B0.drop 130
noncomputable def R9 : List Stmt := B0.drop 132
noncomputable def R10 : List Stmt := B0.drop 133
noncomputable def R11 : List Stmt := B0.drop 147
noncomputable def R12 : List Stmt := B0.drop 149
noncomputable def R13 : List Stmt := B0.drop 165
end Mst
end
section
namespace Mst
open PySem PySem.W PyProof.Rows
theorem run0 (w : World) : ∀ os, segRunT treeTable pw w 11 (some (.ref 6)) 1 1163 (sT t0 15 187 w os) (piecesOf (R0.take 8) env0 cB ⟨0, 0, 0, 0⟩ fr0) = some (.next, sT t1 98 302 w os, cB, ⟨21, 0, 21, 8⟩) := by
 intro os; rw [PySem.W.Fast.te10110043849684766642, PySem.W.Fast.te14364793385576792824]; kernel_rfl
theorem run1f (w : World) : ∀ os, segRunT treeTable pw (w.withFollow "special-get-raises" false) 11 (some (.ref 6)) 1 56 (sT t1 98 302 (w.withFollow "special-get-raises" false) os) (piecesOf (R1.take 1) env0 cB ⟨21, 0, 21, 8⟩ fr0) = some (.next, sT t2 99 312 (w.withFollow "special-get-raises" false) os, cB, ⟨22, 0, 22, 5⟩) := by
 intro os; rw [PySem.W.Fast.te10110043849684766642, PySem.W.Fast.te14364793385576792824]; kernel_rfl
theorem run1t (w : World) : ∀ os, segRunT treeTable pw (w.withFollow "special-get-raises" true) 11 (some (.ref 6)) 1 56 (sT t1 98 302 (w.withFollow "special-get-raises" true) os) (piecesOf (R1.take 1) env0 cB ⟨21, 0, 21, 8⟩ fr0) = some (.next, sT t2 99 312 (w.withFollow "special-get-raises" true) os, cB, ⟨22, 0, 22, 5⟩) := by
 intro os; rw [PySem.W.Fast.te10110043849684766642, PySem.W.Fast.te14364793385576792824]; kernel_rfl
theorem run1 (w : World) : ∀ os, segRunT treeTable pw w 11 (some (.ref 6)) 1 56 (sT t1 98 302 w os) (piecesOf (R1.take 1) env0 cB ⟨21, 0, 21, 8⟩ fr0) = some (.next, sT t2 99 312 w os, cB, ⟨22, 0, 22, 5⟩) := byRow2 "special-get-raises" (P := fun w => ∀ os, segRunT treeTable pw w 11 (some (.ref 6)) 1 56 (sT t1 98 302 w os) (piecesOf (R1.take 1) env0 cB ⟨21, 0, 21, 8⟩ fr0) = some (.next, sT t2 99 312 w os, cB, ⟨22, 0, 22, 5⟩)) run1f run1t w
theorem run2 (w : World) : ∀ os, segRunT treeTable pw w 11 (some (.ref 6)) 1 1234 (sT t2 99 312 w os) (piecesOf (R2.take 29) env0 cB ⟨22, 0, 22, 5⟩ fr0) = some (.next, sT t3 290 613 w os, cB, ⟨150, 0, 150, 11⟩) := by
 intro os; rw [PySem.W.Fast.te10110043849684766642, PySem.W.Fast.te14364793385576792824]; kernel_rfl
theorem run3 (w : World) : ∀ os, segRunT treeTable pw w 11 (some (.ref 6)) 1 349 (sT t3 290 613 w os) (piecesOf (R3.take 12) env0 cB ⟨150, 0, 150, 11⟩ fr0) = some (.next, sT t4 344 750 w os, cB, ⟨197, 0, 197, 8⟩) := by
 intro os; rw [PySem.W.Fast.te10110043849684766642, PySem.W.Fast.te14364793385576792824]; kernel_rfl
theorem run4f (w : World) : ∀ os, segRunT treeTable pw (w.withFollow "special-get-raises" false) 11 (some (.ref 6)) 1 316 (sT t4 344 750 (w.withFollow "special-get-raises" false) os) (piecesOf (R4.take 1) env0 cB ⟨197, 0, 197, 8⟩ fr0) = some (.next, sT t5 349 768 (w.withFollow "special-get-raises" false) os, cB, ⟨198, 0, 198, 10⟩) := by
 intro os; rw [PySem.W.Fast.te10110043849684766642, PySem.W.Fast.te14364793385576792824]; kernel_rfl
theorem run4t (w : World) : ∀ os, segRunT treeTable pw (w.withFollow "special-get-raises" true) 11 (some (.ref 6)) 1 316 (sT t4 344 750 (w.withFollow "special-get-raises" true) os) (piecesOf (R4.take 1) env0 cB ⟨197, 0, 197, 8⟩ fr0) = some (.next, sT t5 349 768 (w.withFollow "special-get-raises" true) os, cB, ⟨198, 0, 198, 10⟩) := by
 intro os; rw [PySem.W.Fast.te10110043849684766642, PySem.W.Fast.te14364793385576792824]; kernel_rfl
theorem run4 (w : World) : ∀ os, segRunT treeTable pw w 11 (some (.ref 6)) 1 316 (sT t4 344 750 w os) (piecesOf (R4.take 1) env0 cB ⟨197, 0, 197, 8⟩ fr0) = some (.next, sT t5 349 768 w os, cB, ⟨198, 0, 198, 10⟩) := byRow2 "special-get-raises" (P := fun w => ∀ os, segRunT treeTable pw w 11 (some (.ref 6)) 1 316 (sT t4 344 750 w os) (piecesOf (R4.take 1) env0 cB ⟨197, 0, 197, 8⟩ fr0) = some (.next, sT t5 349 768 w os, cB, ⟨198, 0, 198, 10⟩)) run4f run4t w
theorem run5 (w : World) : ∀ os, segRunT treeTable pw w 11 (some (.ref 6)) 1 1289 (sT t5 349 768 w os) (piecesOf (R5.take 23) env0 cB ⟨198, 0, 198, 10⟩ fr0) = some (.next, sT t6 507 1029 w os, cB, ⟨300, 0, 305, 104⟩) := by
 intro os; rw [PySem.W.Fast.te10110043849684766642, PySem.W.Fast.te14364793385576792824]; kernel_rfl
theorem run6 (w : World) : ∀ os, segRunT treeTable pw w 11 (some (.ref 6)) 1 1284 (sT t6 507 1029 w os) (piecesOf (R6.take 37) env0 cB ⟨300, 0, 305, 104⟩ fr0) = some (.next, sT t7 751 1387 w os, cB, ⟨495, 0, 503, 56⟩) := by
 intro os; rw [PySem.W.Fast.te10110043849684766642, PySem.W.Fast.te14364793385576792824]; kernel_rfl
theorem run7 (w : World) : ∀ os, segRunT treeTable pw w 11 (some (.ref 6)) 1 1157 (sT t7 751 1387 w os) (piecesOf (R7.take 19) env0 cB ⟨495, 0, 503, 56⟩ fr0) = some (.next, sT t8 936 1673 w os, cB, ⟨697, 0, 741, 71⟩) := by
 intro os; rw [PySem.W.Fast.te10110043849684766642, PySem.W.Fast.te14364793385576792824]; kernel_rfl
theorem run8 (w : World) : ∀ os, segRunT treeTable pw w 11 (some (.ref 6)) 1 294 (sT t8 936 1673 w os) (piecesOf (R8.take 2) env0 cB ⟨697, 0, 741, 71⟩ fr0) = some (.next, sT t9 967 1722 w os, cB, ⟨759, 0, 759, 8⟩) := by
 intro os; rw [PySem.W.Fast.te10110043849684766642, PySem.W.Fast.te14364793385576792824]; kernel_rfl
theorem run9f (w : World) : ∀ os, segRunT treeTable pw (w.withFollow "special-get-raises" false) 11 (some (.ref 6)) 1 71 (sT t9 967 1722 (w.withFollow "special-get-raises" false) os) (piecesOf (R9.take 1) env0 cB ⟨759, 0, 759, 8⟩ fr0) = some (.next, sT t10 968 1735 (w.withFollow "special-get-raises" false) os, cB, ⟨760, 0, 760, 10⟩) := by
 intro os; rw [PySem.W.Fast.te10110043849684766642, PySem.W.Fast.te14364793385576792824]; kernel_rfl
theorem run9t (w : World) : ∀ os, segRunT treeTable pw (w.withFollow "special-get-raises" true) 11 (some (.ref 6)) 1 71 (sT t9 967 1722 (w.withFollow "special-get-raises" true) os) (piecesOf (R9.take 1) env0 cB ⟨759, 0, 759, 8⟩ fr0) = some (.next, sT t10 968 1735 (w.withFollow "special-get-raises" true) os, cB, ⟨760, 0, 760, 10⟩) := by
 intro os; rw [PySem.W.Fast.te10110043849684766642, PySem.W.Fast.te14364793385576792824]; kernel_rfl
theorem run9 (w : World) : ∀ os, segRunT treeTable pw w 11 (some (.ref 6)) 1 71 (sT t9 967 1722 w os) (piecesOf (R9.take 1) env0 cB ⟨759, 0, 759, 8⟩ fr0) = some (.next, sT t10 968 1735 w os, cB, ⟨760, 0, 760, 10⟩) := byRow2 "special-get-raises" (P := fun w => ∀ os, segRunT treeTable pw w 11 (some (.ref 6)) 1 71 (sT t9 967 1722 w os) (piecesOf (R9.take 1) env0 cB ⟨759, 0, 759, 8⟩ fr0) = some (.next, sT t10 968 1735 w os, cB, ⟨760, 0, 760, 10⟩)) run9f run9t w
theorem run10 (w : World) : ∀ os, segRunT treeTable pw w 11 (some (.ref 6)) 1 310 (sT t10 968 1735 w os) (piecesOf (R10.take 14) env0 cB ⟨760, 0, 760, 10⟩ fr0) = some (.next, sT t11 1021 1828 w os, cB, ⟨810, 0, 814, 69⟩) := by
 intro os; rw [PySem.W.Fast.te10110043849684766642, PySem.W.Fast.te14364793385576792824]; kernel_rfl
theorem run11 (w : World) : ∀ os, segRunT treeTable pw w 11 (some (.ref 6)) 1 1191 (sT t11 1021 1828 w os) (piecesOf (R11.take 2) env0 cB ⟨810, 0, 814, 69⟩ fr0) = some (.next, sT t12 1246 2117 w os, cB, ⟨990, 0, 990, 8⟩) := by
 intro os; rw [PySem.W.Fast.te10110043849684766642, PySem.W.Fast.te14364793385576792824]; kernel_rfl
theorem run12 (w : World) : ∀ os, segRunT treeTable pw w 11 (some (.ref 6)) 1 696 (sT t12 1246 2117 w os) (piecesOf (R12.take 16) env0 cB ⟨990, 0, 990, 8⟩ fr0) = some (.next, sT t13 1365 2294 w os, cB, ⟨1083, 0, 1102, 15⟩) := by
 intro os; rw [PySem.W.Fast.te10110043849684766642, PySem.W.Fast.te14364793385576792824]; kernel_rfl
end Mst
end
section
namespace Mst
open PySem PySem.W PyProof.Rows
theorem drop_take (a b : Nat) (l : List Stmt) : l.drop a = (l.drop a).take b ++ l.drop (a + b) := by
 rw [← List.drop_drop, List.take_append_drop]
noncomputable def hF (P : Params) : Heap := absHeap (t13 P) 1365 {}
noncomputable abbrev sF (w : World) (os : OsState) : Shared := ⟨hF w.params, #[], {}, 2294, os⟩
theorem last_nil : R13 = [] := by kernel_rfl
theorem fin0 (w : World) : ∀ os, topRun treeTable pw w 11 (some (.ref 6)) 2 (sF w os) ⟨doneF .next, cB, ⟨1083, 0, 1102, 15⟩, fr0⟩ = some (sF w os) := by
 intro os; rw [PySem.W.Fast.te14082659384304107361, PySem.W.Fast.te14364793385576792824]; kernel_rfl
theorem rest13 (w : World) (os : OsState) : topRun treeTable pw w 11 (some (.ref 6)) 2 (sT t13 1365 2294 w os).abs (restOf R13 env0 cB ⟨1083, 0, 1102, 15⟩ fr0) = some (sF w os) := by
 rw [last_nil]; exact piece_nil (fin0 w os)
theorem cut12 : R12 = R12.take 16 ++ R13 := drop_take 149 16 B0
theorem rest12 (w : World) (os : OsState) : topRun treeTable pw w 11 (some (.ref 6)) 698 (sT t12 1246 2117 w os).abs (restOf R12 env0 cB ⟨990, 0, 990, 8⟩ fr0) = some (sF w os) := by
 rw [cut12]; exact piece_app (n := 696) (N := 2) (segRun_of (run12 w os)) (rest13 w os)
theorem cut11 : R11 = R11.take 2 ++ R12 := drop_take 147 2 B0
theorem rest11 (w : World) (os : OsState) : topRun treeTable pw w 11 (some (.ref 6)) 1889 (sT t11 1021 1828 w os).abs (restOf R11 env0 cB ⟨810, 0, 814, 69⟩ fr0) = some (sF w os) := by
 rw [cut11]; exact piece_app (n := 1191) (N := 698) (segRun_of (run11 w os)) (rest12 w os)
theorem cut10 : R10 = R10.take 14 ++ R11 := drop_take 133 14 B0
theorem rest10 (w : World) (os : OsState) : topRun treeTable pw w 11 (some (.ref 6)) 2199 (sT t10 968 1735 w os).abs (restOf R10 env0 cB ⟨760, 0, 760, 10⟩ fr0) = some (sF w os) := by
 rw [cut10]; exact piece_app (n := 310) (N := 1889) (segRun_of (run10 w os)) (rest11 w os)
theorem cut9 : R9 = R9.take 1 ++ R10 := drop_take 132 1 B0
theorem rest9 (w : World) (os : OsState) : topRun treeTable pw w 11 (some (.ref 6)) 2270 (sT t9 967 1722 w os).abs (restOf R9 env0 cB ⟨759, 0, 759, 8⟩ fr0) = some (sF w os) := by
 rw [cut9]; exact piece_app (n := 71) (N := 2199) (segRun_of (run9 w os)) (rest10 w os)
theorem cut8 : R8 = R8.take 2 ++ R9 := drop_take 130 2 B0
theorem rest8 (w : World) (os : OsState) : topRun treeTable pw w 11 (some (.ref 6)) 2564 (sT t8 936 1673 w os).abs (restOf R8 env0 cB ⟨697, 0, 741, 71⟩ fr0) = some (sF w os) := by
 rw [cut8]; exact piece_app (n := 294) (N := 2270) (segRun_of (run8 w os)) (rest9 w os)
theorem cut7 : R7 = R7.take 19 ++ R8 := drop_take 111 19 B0
theorem rest7 (w : World) (os : OsState) : topRun treeTable pw w 11 (some (.ref 6)) 3721 (sT t7 751 1387 w os).abs (restOf R7 env0 cB ⟨495, 0, 503, 56⟩ fr0) = some (sF w os) := by
 rw [cut7]; exact piece_app (n := 1157) (N := 2564) (segRun_of (run7 w os)) (rest8 w os)
theorem cut6 : R6 = R6.take 37 ++ R7 := drop_take 74 37 B0
theorem rest6 (w : World) (os : OsState) : topRun treeTable pw w 11 (some (.ref 6)) 5005 (sT t6 507 1029 w os).abs (restOf R6 env0 cB ⟨300, 0, 305, 104⟩ fr0) = some (sF w os) := by
 rw [cut6]; exact piece_app (n := 1284) (N := 3721) (segRun_of (run6 w os)) (rest7 w os)
theorem cut5 : R5 = R5.take 23 ++ R6 := drop_take 51 23 B0
theorem rest5 (w : World) (os : OsState) : topRun treeTable pw w 11 (some (.ref 6)) 6294 (sT t5 349 768 w os).abs (restOf R5 env0 cB ⟨198, 0, 198, 10⟩ fr0) = some (sF w os) := by
 rw [cut5]; exact piece_app (n := 1289) (N := 5005) (segRun_of (run5 w os)) (rest6 w os)
theorem cut4 : R4 = R4.take 1 ++ R5 := drop_take 50 1 B0
theorem rest4 (w : World) (os : OsState) : topRun treeTable pw w 11 (some (.ref 6)) 6610 (sT t4 344 750 w os).abs (restOf R4 env0 cB ⟨197, 0, 197, 8⟩ fr0) = some (sF w os) := by
 rw [cut4]; exact piece_app (n := 316) (N := 6294) (segRun_of (run4 w os)) (rest5 w os)
theorem cut3 : R3 = R3.take 12 ++ R4 := drop_take 38 12 B0
theorem rest3 (w : World) (os : OsState) : topRun treeTable pw w 11 (some (.ref 6)) 6959 (sT t3 290 613 w os).abs (restOf R3 env0 cB ⟨150, 0, 150, 11⟩ fr0) = some (sF w os) := by
 rw [cut3]; exact piece_app (n := 349) (N := 6610) (segRun_of (run3 w os)) (rest4 w os)
theorem cut2 : R2 = R2.take 29 ++ R3 := drop_take 9 29 B0
theorem rest2 (w : World) (os : OsState) : topRun treeTable pw w 11 (some (.ref 6)) 8193 (sT t2 99 312 w os).abs (restOf R2 env0 cB ⟨22, 0, 22, 5⟩ fr0) = some (sF w os) := by
 rw [cut2]; exact piece_app (n := 1234) (N := 6959) (segRun_of (run2 w os)) (rest3 w os)
theorem cut1 : R1 = R1.take 1 ++ R2 := drop_take 8 1 B0
theorem rest1 (w : World) (os : OsState) : topRun treeTable pw w 11 (some (.ref 6)) 8249 (sT t1 98 302 w os).abs (restOf R1 env0 cB ⟨21, 0, 21, 8⟩ fr0) = some (sF w os) := by
 rw [cut1]; exact piece_app (n := 56) (N := 8193) (segRun_of (run1 w os)) (rest2 w os)
theorem cut0 : R0 = R0.take 8 ++ R1 := drop_take 0 8 B0
theorem rest0 (w : World) (os : OsState) : topRun treeTable pw w 11 (some (.ref 6)) 9412 (sT t0 15 187 w os).abs (restOf R0 env0 cB ⟨0, 0, 0, 0⟩ fr0) = some (sF w os) := by
 rw [cut0]; exact piece_app (n := 1163) (N := 8249) (segRun_of (run0 w os)) (rest1 w os)
theorem blk (w : World) : ∀ os, segRun treeTable pw w 11 (some (.ref 6)) 1 1 (sT t0 15 187 w os).abs (blockOf B0 env0 cB p0 fr0) = some (.next, (sT t0 15 187 w os).abs, cB, p0) := by
 intro os; rw [PySem.W.Fast.te14374325043358763698, PySem.W.Fast.te14364793385576792824]; kernel_rfl
noncomputable abbrev s0 (w : World) (os : OsState) : Shared := ⟨boot_heap w.params, Array.mk [], boot_drawn, boot_toks, os⟩
theorem pre0 (w : World) : ∀ os, topGo treeTable pw w 11 (some (.ref 6)) 12 (s0 w os) (topStub pw) = some ((sT t0 15 187 w os).abs, ⟨denote treeTable cB, cB, p0, fr0⟩) := by
 intro os; rw [PySem.W.Fast.te15667345088766844465, PySem.W.Fast.te14364793385576792824, PySem.W.Fast.te11892475500146522536]; kernel_rfl
theorem runAll (w : World) (os : OsState) : topRun treeTable pw w 11 (some (.ref 6)) (12 + (1 + 9412)) (s0 w os) (topStub pw) = some (sF w os) :=
 go_top (pre0 w os) (piece_block (blk w os) (rest0 w os))
end Mst
end
section
namespace Mst
open PySem PySem.W PyProof.Rows PySem.Calls
noncomputable def qv : Program := { pw with main := { pw.main with body := [sA 164] } }
noncomputable def lse : List Str := [so "_wall", so "SwitchError", so "FormError", so "SizeError", so "StateError", so "SettingError", so "KINDS", so "ROLES", so "PACKED", so "KNOWN", so "CONFIG_SIZE", so "RAPID_SIZE", so "CHANGE_SIZE", so "Times", so "Bpdu", so "changed_notice", so "number_octets", so "octets_number", so "bridge_octets", so "port_octets", so "vector_octets", so "times_octets", so "check_bpdu", so "pack_bpdu", so "read_bridge", so "read_port", so "read_vector", so "read_times", so "read_tail", so "kind_of", so "unpack_bpdu", so "BLOCK_SIZE", so "LOW_BITS", so "START_WORDS", so "ROUND_TURNS", so "SINE_PARTS", so "turned_left", so "filled_octets", so "block_words", so "step_parts", so "block_digest", so "md5_digest", so "md5_with_key", so "put_number", so "put16", so "REGION_KEY", so "NAME_SIZE", so "REGION_SIZE", so "MOST_INSTANCE_regions", so "MOST_TOLD_regions", so "DIGEST_SIZE", so "Region", so "check_region", so "same_region", so "MOST_COST", so "MOST_INSTANCE_mst_vectors", so "MOST_ROWS", so "HEAD_SIZE", so "ROW_SIZE", so "TREE_ROLES", so "TreeRow", so "TreeTail", so "FLAG_BITS", so "no_flags", so "check_row", so "row_octets", so "tail_octets", so "read_row", so "read_tree_tail", so "cist_told", so "cist_behind", so "tree_behind", so "with_teller", so "is_from_same_port", so "takes_over", so "HELLOS_KEPT", so "behind_port", so "is_candidate", so "own_tree_vector", so "choose_root", so "designated_vector", so "role_by_vectors", so "role_beside", so "is_beyond", so "choose_roles", so "take_own", so "life_of", so "CHANGE_ROLES", so "TreeTelling", so "tail_heard", so "is_own_tail", so "cist_flags", so "cist_telling", so "row_telling", so "may_agree", so "hear_agreement", so "keep_told", so "hear_better", so "hear_again", so "hear_worse", so "is_taken", so "hear_tree", so "turn_internal", so "lose_edge", so "note_sort", so "hear_notice", so "hear_bpdu", so "moved_disabled", so "sync_all", so "are_synced", so "agreed_onward", so "moved_root", so "opened", so "opened_by_time", so "moved_designated", so "moved_blocked", so "moved_beyond", so "moved_port", so "PortSide", so "TreePort", so "TreeSide", so "TOLD_ROLES", so "told_flags", so "tree_row", so "tree_tail", so "made_bpdu", so "sends_always", so "send_waiting", so "MOST_TURNS", so "MOST_HOPS", so "MOST_PRIORITY", so "MOST_TOLD_mst", so "SPREADING_ROLES", so "check_priority", so "check_ports", so "MstBridge", so "PortRow", so "_law_top", so "_law_better", so "_law_pool", so "_law_take", so "_law_one", so "_law_region", so "_law_bridge", so "_law_telling", so "_law_costs_right", so "_law_held_right", so "_law_old_right", so "_law_tails_right", so "_law_is_refused"]
abbrev rowL : OpenRow := PySem.Challenge.rw_pq1174_01.row
theorem size0 : ∀ w : World, ((boot_heap w.params).isNs mainGlobals && (Array.mk [] : Array GenState).size == 0, (boot_heap w.params).objs.size, (boot_heap w.params).nsMap mainGlobals "__annotations__") = (true, 11, some (.ref 6)) := by
 intro w; kernel_rfl
theorem open0 : ∀ w : World, (fencedOpening treeTable pw w 20000).map (fun s => (s.heap, s.gens, s.drawn, s.toks)) = some (boot_heap w.params, Array.mk [], boot_drawn, boot_toks) :=
 boot_open (by kernel_rfl) (by kernel_rfl) (fun s => by kernel_rfl)
noncomputable abbrev Xt0 : Shared → Bool := fun s => xlAt qv [] s && recOk (RowW.records rowL.toRowW) s
theorem looks1 : ∀ (w : World) (os : OsState), (staticsOk (importedModules pw.main.body) (boot_heap w.params) (hF w.params) && namesBound pw (hF w.params) && gensDone (sF w os) && laidKept (boot_heap w.params) (hF w.params)) = true := by
 intro w os; kernel_rfl
end Mst
end
section
namespace Mst
open PySem PySem.W PyProof.Rows PySem.Calls
theorem looks2 : ∀ (w : World), (fun os => openSeen qv lse (importedModules pw.main.body) Xt0 true (sF w os)) = fun V => openGood qv lse := by
 intro w; rw [PySem.W.Fast.te4187177175401517315]; kernel_rfl
end Mst
end
section
namespace Mst
open PySem PySem.W PyProof.Rows PySem.Calls
theorem left0 : LeftO pw qv lse Xt0 (fun s => s.heap) (fun w => hF w.params) 20000 :=
 LeftO.of_pieces (H₀ := boot_heap) (H₁ := hF) (gs₀ := Array.mk []) (gs₁ := #[]) (d₀ := boot_drawn) (d₁ := {}) (k₀ := boot_toks) (m₀ := 11) (ann := some (.ref 6)) open0 size0 runAll (by kernel_rfl)
  (fun w => funext fun os => Prod.ext (looks1 w os) (Prod.ext (congrFun (looks2 w) os) rfl))
abbrev YPh (w : World) (h : Heap) : Prop := ∀ b o, (hF w.params).get? b = some o → h.get? b = some o
theorem wit : rowL.toRowW.promised := by
 show rowL.toRowW.promised
 w_witness2
end Mst
end
section
namespace Mst
open PySem PySem.W PyProof.Rows PySem.Calls
theorem said : PySem.Challenge.rw_pq1174_01.wellSaid = true := by
 unfold OpenLaw.wellSaid OpenRow.wellSaid OpenRow.partSaid
 repeat' (with_reducible apply look_both)
 all_goals (try unfold looksOpen)
 all_goals (repeat' (with_reducible apply look_both))
 all_goals as_aux_lemma => (
 (try rw [PySem.W.Fast.te8326940854005059898]); (try rw [PySem.W.Fast.te17119622794617984870]); (try rw [PySem.W.Fast.te8377067652309620493]); (try rw [PySem.W.Fast.te8179353310426384613]); (try rw [PySem.W.Fast.te12862048085361865435]);
 (try rw [PySem.W.Fast.te11788848310118352699]); (try rw [PySem.W.Fast.te18344453789297297638]); (try rw [PySem.W.Fast.te16286561074155671207]); (try rw [PySem.W.Fast.te10792542408131684335]); (try rw [PySem.W.Fast.te6984425678791042302]);
 (try rw [PySem.W.Fast.te797321630700447069]); (try rw [PySem.W.Fast.te9572597257264208301]); (try rw [PySem.W.Fast.te13582783067957832011]); (try rw [PySem.W.Fast.te5318747976498570220]); (try rw [PySem.W.Fast.te17868728402115742887]);
 (try rw [PySem.W.Fast.te9558739934217749035]); (try rw [PySem.W.Fast.te10501279942588096481]); (try rw [PySem.W.Fast.te13343964577679436407]); (try rw [PySem.W.Fast.te482687673346738481]); (try rw [PySem.W.Fast.te12879404354523853263]);
 (try rw [PySem.W.Fast.te5923862056798008813]); (try rw [PySem.W.Fast.te9807087744658564304]); (try rw [PySem.W.Fast.te12749700546528644094]); (try rw [PySem.W.Fast.te14412699480532031325]); (try rw [PySem.W.Fast.te2357444279172408678]); (try rw [PySem.W.Fast.te17691160309236699985]);
 (try rw [PySem.W.Fast.te3471404346716756564]); (try rw [PySem.W.Fast.te17095254045102204799]); (try rw [PySem.W.Fast.te4857012375875476094]); (try rw [PySem.W.Fast.named_eq]); (try rw [PySem.W.Fast.sDec_eq]); kernel_rfl)
end Mst
end
section
namespace Mst
open PySem PySem.W PyProof.Rows PySem.Calls
noncomputable def sPos (s : Stmt) : Pos := match s with | .FunctionDef _ _ _ _ _ _ _ _ _ p => p | _ => default
noncomputable def dL : DefRec := { name := sName (sA 164), params := sParams (sA 164), body := sBody (sA 164), scope := sScope (sA 164), pos := sPos (sA 164) }
theorem def0 : defOf qv rowL.name = some (dL, []) := by
 kernel_rfl
theorem defP : rowL.prog.theDef rowL.name = some (dL.params, dL.body, dL.scope) := by
 kernel_rfl
theorem defK : kwWritten? dL.params.kwonlyargs dL.params.kw_defaults = some [] := by kernel_rfl
theorem ok1 : chainsOk qv = true := by kernel_rfl
theorem ok3 : (frees rowL.toRowW && rowL.within.isEmpty) = true := by kernel_rfl
theorem bare5 : pw.tablesWhole = true := by decide +kernel
theorem ok2 : opensWell pw = true := by
 unfold opensWell
 kernel_rfl
theorem bare0 : rowL.prog.bare := ⟨rfl, rfl, rfl, rfl, rfl, bare5⟩
theorem head (call : WalkO qv lse (XL qv []) YPh rowL.toRowW dL [] fun f vs => PySem.call f vs) : PySem.Challenge.rw_pq1174_01.Holds :=
 holds_law said fun sd => holds_open (r := rowL) (q := qv) (loose := lse) (Xt := Xt0) (XP := XL qv []) (Yf := fun s => s.heap) (Ya := fun w => hF w.params) (YP := YPh) (d := dL) (kwd := []) (N := 20000) left0
  (fun w s e b o h => by have e' : s.heap = hF w.params := e; rw [e']; exact h)
  (fun w h h' y k b o e => k b o (y b o e))
  (fun s e => xl_of s (Bool.and_eq_true_iff.mp e).1) XL.keeps def0 defP defK
  (fun s e => recFacts_of (Bool.and_eq_true_iff.mp e).2) rfl sd
  (by rw [ok1, ok3, show opensWell rowL.prog = true from ok2]; rfl) bare0 wit call
end Mst
end
set_option tactic.hygienic false
section
set_option genSizeOf false
set_option genInjectivity false
namespace Mst
inductive Pth | e | l (p : Pth) | r (p : Pth)
noncomputable def Pth.succ : Pth → Pth
 | .e => .l .e
 | .l p => .r p
 | .r p => .l p.succ
inductive AI | lit (i : Int) | sym (k : Nat)
inductive AV
 | none | bool (b : Bool) | int (i : AI) | str (n : Nat) | byt (l : AV) | ref (i : Pth) | kd (k : Nat) | tup (l : AV) | nil | cons (a l : AV) | frl (l : AV)
inductive FT | nil | node (v : AV) (l r : FT)
inductive AO | list (l : AV) | dict (l : AV) | inst (c : Nat) (f : FT) | range (a b s : Int)
inductive HT | nil | hole (l r : HT) | node (o : AO) (l r : HT)
abbrev B := Bool
noncomputable def ifB (b : B) (t f : B) : B := Bool.rec (motive := fun V => B) f t b
noncomputable def nnK (v : AV) (e : B) : B := AV.rec (motive := fun V => B) e (fun V => e) (fun V => e) (fun V => e) (fun V V => e) (fun V => e) (fun V => e) (fun V V => e) false (fun V V V V => e) (fun V V => e) v
noncomputable def FT.getK (t : FT) : Pth → (AV → B) → B := FT.rec (motive := fun V => Pth → (AV → B) → B) (fun V V => false)
 (fun v V V l r p k => Pth.rec (motive := fun V => B) (nnK v (k v)) (fun p V => l p k) (fun p V => r p k) p) t
noncomputable def FT.setK (p : Pth) : FT → AV → (FT → B) → B := Pth.rec (motive := fun V => FT → AV → (FT → B) → B)
 (fun t v k => FT.rec (motive := fun V => B) (k (.node v .nil .nil)) (fun V l r V V => k (.node v l r)) t)
 (fun V s t v k => FT.rec (motive := fun V => B) (s .nil v fun l => k (.node .nil l .nil)) (fun w l r V V => s l v fun l => k (.node w l r)) t)
 (fun V s t v k => FT.rec (motive := fun V => B) (s .nil v fun r => k (.node .nil .nil r)) (fun w l r V V => s r v fun r => k (.node w l r)) t) p
noncomputable def HT.getK (t : HT) : Pth → (AO → B) → B := HT.rec (motive := fun V => Pth → (AO → B) → B) (fun V V => false)
 (fun V V l r p k => Pth.rec (motive := fun V => B) false (fun p V => l p k) (fun p V => r p k) p)
 (fun v V V l r p k => Pth.rec (motive := fun V => B) (k v) (fun p V => l p k) (fun p V => r p k) p) t
noncomputable def HT.setK (p : Pth) : HT → AO → (HT → B) → B := Pth.rec (motive := fun V => HT → AO → (HT → B) → B)
 (fun t v k => HT.rec (motive := fun V => B) (k (.node v .nil .nil)) (fun l r V V => k (.node v l r)) (fun V l r V V => k (.node v l r)) t)
 (fun V s t v k => HT.rec (motive := fun V => B) (s .nil v fun l => k (.hole l .nil)) (fun l r V V => s l v fun l => k (.hole l r)) (fun w l r V V => s l v fun l => k (.node w l r)) t)
 (fun V s t v k => HT.rec (motive := fun V => B) (s .nil v fun r => k (.hole .nil r)) (fun l r V V => s r v fun r => k (.hole l r)) (fun w l r V V => s r v fun r => k (.node w l r)) t) p
structure St where
 n : Pth
 h : HT
inductive X
 | bad
 | nil | cons (a b : X)
 | cst (v : AV)
 | loc (n : Nat)
 | glo (n : Nat) (v : AV)
 | attr (e : X) (a : Pth)
 | sub (e i : X)
 | slc (e lo hi : X)
 | cF (f : Nat) (args kws : X)
 | cM (e : X) (m : Pth) (args : X)
 | cC (c : Nat) (args kws : X)
 | cB (b : Nat) (args : X)
 | cS (m : Nat) (e : X) (args : X)
 | bin (o : Nat) (a b : X)
 | neg (a : X)
 | cmp (o : Nat) (a b : X)
 | cmp2 (o p : Nat) (a b c : X)
 | and (a b : X) | or (a b : X) | not (a : X)
 | ife (c a b : X)
 | tup (l : X) | lst (l : X) | dct (ks vs : X)
 | lc (elt tgt src ifs : X)
 | dc (k v tgt src ifs : X)
 | vals (e : X)
 | ex (e : X) | ret (e : X) | retN
 | asn (t : X) (e : X)
 | iff (c a b : X)
 | for_ (t src body : X)
 | cont | pass | try_ (b : X) (c : Nat) (h : X) | raise_ (c : Nat)
 | kw (n : Nat) (e : X)
 | tName (n : Nat) | tAttr (e : X) (a : Pth) | tSub (e i : X) | tTup (l : X)
end Mst
end
section
namespace Mst
noncomputable def Pth.succK (p : Pth) : (Pth → B) → B := Pth.rec (motive := fun V => (Pth → B) → B) (fun k => k (.l .e)) (fun p V k => k (.r p)) (fun V s k => s fun q => k (.l q)) p
inductive Loc | nil | cons (n : Nat) (v : AV) (r : Loc)
noncomputable def Loc.getK (l : Loc) (n : Nat) (k : AV → B) : B := Loc.rec (motive := fun V => B) false (fun m v V g => ifB (Nat.beq m n) (k v) g) l
noncomputable def Loc.setK (l : Loc) (n : Nat) (v : AV) : (Loc → B) → B := Loc.rec (motive := fun V => (Loc → B) → B) (fun k => k (.cons n v .nil))
 (fun m w r s k => ifB (Nat.beq m n) (k (.cons m v r)) (s fun r => k (.cons m w r))) l
noncomputable def noneK (v : AV) (k : B) : B := AV.rec (motive := fun V => B) k (fun V => false) (fun V => false) (fun V => false) (fun V V => false) (fun V => false) (fun V => false) (fun V V => false) false (fun V V V V => false) (fun V V => false) v
noncomputable def boolK (v : AV) (k : Bool → B) : B := AV.rec (motive := fun V => B) false k (fun V => false) (fun V => false) (fun V V => false) (fun V => false) (fun V => false) (fun V V => false) false (fun V V V V => false) (fun V V => false) v
noncomputable def intK (v : AV) (k : AI → B) : B := AV.rec (motive := fun V => B) false (fun V => false) k (fun V => false) (fun V V => false) (fun V => false) (fun V => false) (fun V V => false) false (fun V V V V => false) (fun V V => false) v
noncomputable def strK (v : AV) (k : Nat → B) : B := AV.rec (motive := fun V => B) false (fun V => false) (fun V => false) k (fun V V => false) (fun V => false) (fun V => false) (fun V V => false) false (fun V V V V => false) (fun V V => false) v
noncomputable def bytK (v : AV) (k : AV → B) : B := AV.rec (motive := fun V => B) false (fun V => false) (fun V => false) (fun V => false) (fun l V => k l) (fun V => false) (fun V => false) (fun V V => false) false (fun V V V V => false) (fun V V => false) v
noncomputable def refK (v : AV) (k : Pth → B) : B := AV.rec (motive := fun V => B) false (fun V => false) (fun V => false) (fun V => false) (fun V V => false) k (fun V => false) (fun V V => false) false (fun V V V V => false) (fun V V => false) v
noncomputable def tupK (v : AV) (k : AV → B) : B := AV.rec (motive := fun V => B) false (fun V => false) (fun V => false) (fun V => false) (fun V V => false) (fun V => false) (fun V => false) (fun l V => k l) false (fun V V V V => false) (fun V V => false) v
noncomputable def nilK (v : AV) (k : B) : B := AV.rec (motive := fun V => B) false (fun V => false) (fun V => false) (fun V => false) (fun V V => false) (fun V => false) (fun V => false) (fun V V => false) k (fun V V V V => false) (fun V V => false) v
noncomputable def consK (v : AV) (k : AV → AV → B) : B := AV.rec (motive := fun V => B) false (fun V => false) (fun V => false) (fun V => false) (fun V V => false) (fun V => false) (fun V => false) (fun V V => false) false (fun a l V V => k a l) (fun V V => false) v
noncomputable def litK (v : AV) (k : Int → B) : B := intK v fun i => AI.rec (motive := fun V => B) k (fun V => false) i
noncomputable def natK (v : AV) (k : Nat → B) : B := litK v fun i => Int.rec (motive := fun V => B) k (fun V => false) i
noncomputable def oneK (v : AV) (k : AV → B) : B := consK v fun a r => nilK r (k a)
noncomputable def twoK (v : AV) (k : AV → AV → B) : B := consK v fun a r => oneK r (k a)
noncomputable def lsO (o : AO) (k : AV → B) : B := AO.rec (motive := fun V => B) k (fun V => false) (fun V V => false) (fun V V V => false) o
noncomputable def dcO (o : AO) (k : AV → B) : B := AO.rec (motive := fun V => B) (fun V => false) k (fun V V => false) (fun V V V => false) o
noncomputable def inO (o : AO) (k : Nat → FT → B) : B := AO.rec (motive := fun V => B) (fun V => false) (fun V => false) k (fun V V V => false) o
noncomputable def lsP (h : HT) (v : AV) (k : Pth → AV → B) : B := refK v fun p => h.getK p fun o => lsO o (k p)
noncomputable def dcP (h : HT) (v : AV) (k : Pth → AV → B) : B := refK v fun p => h.getK p fun o => dcO o (k p)
noncomputable def inP (h : HT) (v : AV) (k : Pth → Nat → FT → B) : B := refK v fun p => h.getK p fun o => inO o (k p)
noncomputable def ltI (a b : Int) : B := match a, b with
 | .ofNat m, .ofNat n => Nat.blt m n
 | .ofNat _, .negSucc _ => false
 | .negSucc _, .ofNat _ => true
 | .negSucc m, .negSucc n => Nat.blt n m
noncomputable def leI (a b : Int) : B := match a, b with
 | .ofNat m, .ofNat n => Nat.ble m n
 | .ofNat _, .negSucc _ => false
 | .negSucc _, .ofNat _ => true
 | .negSucc m, .negSucc n => Nat.ble n m
noncomputable def eqI (a b : Int) : B := match a, b with
 | .ofNat m, .ofNat n => Nat.beq m n
 | .ofNat _, .negSucc _ => false
 | .negSucc _, .ofNat _ => false
 | .negSucc m, .negSucc n => Nat.beq m n
noncomputable def AI.eq (a b : AI) : B := match a, b with
 | .lit x, .lit y => eqI x y
 | .sym m, .sym n => Nat.beq m n
 | _, _ => false
inductive Orc | nil | cons (o : Nat) (a b : AI) (v : AV) (r : Orc)
noncomputable def Orc.lookK (R : Orc) (o : Nat) (a b : AI) (k : AV → B) : B := Orc.rec (motive := fun V => B) false (fun o' a' b' v V g => ifB (Nat.beq o o') (ifB (AI.eq a a') (ifB (AI.eq b b') (k v) g) g) g) R
abbrev kI (k : AV → B) (i : Int) : B := k (.int (.lit i))
noncomputable def sml (x : Int) (k : B) : B := Int.rec (motive := fun V => B) (fun m => ifB (Nat.ble m 18446744073709551615) k false) (fun m => ifB (Nat.ble m 18446744073709551614) k false) x
noncomputable def opL (o : Nat) (x y : Int) (k : AV → B) : B := match o with
 | 0 => kI k (x + y)
 | 1 => kI k (x - y)
 | 2 => (match sml x true with | true => kI k (x * y) | false => sml y (kI k (x * y)))
 | 3 => (match y with | .ofNat 0 => false | _ => kI k (Int.fmod x y))
 | 4 => (match y with | .ofNat 0 => false | _ => sml y (kI k (Int.fdiv x y)))
 | 5 => (match x, y with | .ofNat m, .ofNat n => sml (.ofNat m) (ifB (Nat.ble n 1024) (kI k (.ofNat (Nat.shiftLeft m n))) false) | _, _ => false)
 | 6 => (match x, y with | .ofNat m, .ofNat n => kI k (.ofNat (Nat.shiftRight m n)) | _, _ => false)
 | 7 => (match x, y with | .ofNat m, .ofNat n => kI k (.ofNat (Nat.land m n)) | _, _ => false)
 | 8 => (match x, y with | .ofNat m, .ofNat n => kI k (.ofNat (Nat.lor m n)) | _, _ => false)
 | 9 => (match x, y with | .ofNat m, .ofNat n => sml (.ofNat m) (ifB (Nat.ble n 1024) (kI k (.ofNat (Nat.pow m n))) false) | _, _ => false)
 | 10 => k (.bool (ltI x y))
 | 11 => k (.bool (leI x y))
 | 12 => k (.bool (eqI x y))
 | _ => false
section
variable (R : Orc)
noncomputable def opI (o : Nat) (a b : AI) (k : AV → B) : B := AI.rec (motive := fun V => B) (fun x => AI.rec (motive := fun V => B) (fun y => opL o x y k) (fun V => R.lookK o a b k) b)
 (fun V => ifB (Nat.beq o 12) (ifB (AI.eq a b) (k (.bool true)) (R.lookK o a b k)) (R.lookK o a b k)) a
noncomputable def tstK (v : AV) (t f : B) : B := boolK v fun b => ifB b t f
noncomputable def eqV (a : AV) : Nat → AV → (t f : B) → B := AV.rec (motive := fun V => Nat → AV → B → B → B) (fun V b t V => noneK b t) (fun a V b t f => boolK b fun c => ifB (a == c) t f) (fun a V b t f => intK b fun c => opI R 12 a c fun v => tstK v t f) (fun a V b t f => strK b fun c => ifB (Nat.beq a c) t f) (fun V e d b t f => bytK b fun c => e d c t f) (fun V V V V V => false) (fun V V V V V => false) (fun V e d b t f => Nat.rec (motive := fun V => B) false (fun d V => tupK b fun c => e d c t f) d) (fun V b t V => nilK b t) (fun V V e g d b t f => consK b fun c m => e d c (g d m t f) f) (fun V V V V V V => false) a
noncomputable def ltV (o : Nat) (a : AV) : Nat → AV → (t f : B) → B := AV.rec (motive := fun V => Nat → AV → B → B → B) (fun V V V V => false) (fun V V V V V => false) (fun a V b t f => intK b fun c => opI R o a c fun v => tstK v t f) (fun V V V V V => false) (fun V V V V V V => false) (fun V V V V V => false) (fun V V V V V => false) (fun V e d b t f => Nat.rec (motive := fun V => B) false (fun d V => tupK b fun c => e d c t f) d) (fun V b t f => nilK b (ifB (Nat.beq o 11) t f)) (fun a V e g d b t f => consK b fun c m => eqV R a d c (g d m t f) (e d c t f)) (fun V V V V V V => false) a
end
noncomputable def appV (l b : AV) : (AV → B) → B := AV.rec (motive := fun V => (AV → B) → B) (fun V => false) (fun V V => false) (fun V V => false) (fun V V => false) (fun V V V => false) (fun V V => false) (fun V V => false) (fun V V V => false) (fun k => k b) (fun a V V g k => g fun m => k (.cons a m)) (fun V V V => false) l
noncomputable def dropK (l : AV) (i : Nat) (e : B) (k : AV → B) : B := AV.rec (motive := fun V => Nat → B) (fun V => false) (fun V V => false) (fun V V => false) (fun V V => false) (fun V V V => false) (fun V V => false) (fun V V => false) (fun V V V => false) (fun V => e) (fun a V V g i => Nat.rec (motive := fun V => B) (k a) (fun i V => g i) i) (fun V V V => false) l i
noncomputable def lenV (l : AV) (n : Nat) (k : Nat → B) : B := AV.rec (motive := fun V => Nat → B) (fun V => false) (fun V V => false) (fun V V => false) (fun V V => false) (fun V V V => false) (fun V V => false) (fun V V => false) (fun V V V => false) (fun n => k n) (fun V V V g n => g (Nat.succ n)) (fun V V V => false) l n
noncomputable def is0 (o : Nat) (k : B) : B := match o with | 0 => k | _ => false
noncomputable def capK (l : AV) (k : B) : B := lenV l 0 fun n => ifB (Nat.ble n 65536) k false
noncomputable def takeV (l : AV) : Nat → (AV → B) → B := AV.rec (motive := fun V => Nat → (AV → B) → B) (fun V V => false) (fun V V V => false) (fun V V V => false) (fun V V V => false) (fun V V V V => false) (fun V V V => false) (fun V V V => false) (fun V V V V => false) (fun V k => k .nil) (fun a V V g i k => Nat.rec (motive := fun V => B) (k .nil) (fun i V => g i fun r => k (.cons a r)) i) (fun V V V V => false) l
noncomputable def skipV (l : AV) (i : Nat) (k : AV → B) : B := AV.rec (motive := fun V => Nat → B) (fun V => false) (fun V V => false) (fun V V => false) (fun V V => false) (fun V V V => false) (fun V V => false) (fun V V => false) (fun V V V => false) (fun V => k .nil) (fun a m V g i => Nat.rec (motive := fun V => B) (k (.cons a m)) (fun i V => g i) i) (fun V V V => false) l i
noncomputable def placeK (i : Int) (n : Nat) (k : Nat → B) : B := Int.rec (motive := fun V => B) (fun m => ifB (Nat.blt m n) (k m) false) (fun m => ifB (Nat.blt m n) (k (n - (m + 1))) false) i
noncomputable def boundK (i : Int) (n : Nat) (k : Nat → B) : B := Int.rec (motive := fun V => B) (fun m => ifB (Nat.ble m n) (k m) (k n)) (fun m => ifB (Nat.blt m n) (k (n - (m + 1))) (k 0)) i
noncomputable def zerosV (n : Nat) : (AV → B) → B := Nat.rec (motive := fun V => (AV → B) → B) (fun k => k .nil) (fun V g k => g fun m => k (.cons (.int (.lit 0)) m)) n
noncomputable def setN (l : AV) : Nat → AV → (AV → B) → B := AV.rec (motive := fun V => Nat → AV → (AV → B) → B) (fun V V V => false) (fun V V V V => false) (fun V V V V => false) (fun V V V V => false) (fun V V V V V => false) (fun V V V V => false) (fun V V V V => false) (fun V V V V V => false) (fun V V V => false) (fun a m V g n v k => Nat.rec (motive := fun V => B) (k (.cons v m)) (fun n V => g n v fun m => k (.cons a m)) n) (fun V V V V V => false) l
structure Tabs where
 kd : Nat → AV
 strLen : Nat → Nat
 strByt : Nat → AV
 meth : Nat → Pth → Nat
 init : Nat → Nat
 fld : Nat → Pth → Bool
noncomputable def allocK (s : St) (o : AO) (k : AV → St → B) : B := St.rec (motive := fun V => B) (fun n h => HT.setK n h o fun h => n.succK fun m => k (.ref n) ⟨m, h⟩) s
noncomputable def newL (s : St) (l : AV) (k : AV → St → B) : B := capK l (allocK s (.list l) k)
section
variable (T : Tabs) (R : Orc)
noncomputable def keyEq (a b : AV) (t f : B) : B := AV.rec (motive := fun V => B) false (fun V => false) (fun x => intK b fun y => opI R 12 x y fun v => tstK v t f) (fun m => strK b fun n => ifB (Nat.beq m n) t f) (fun V V => false) (fun V => false) (fun V => false) (fun V V => false) false (fun V V V V => false) (fun V V => false) a
noncomputable def keyish (q : AV) (e : B) : B := AV.rec (motive := fun V => B) false (fun V => false) (fun V => e) (fun V => e) (fun V V => false) (fun V => false) (fun V => false) (fun V V => false) false (fun V V V V => false) (fun V V => false) q
noncomputable def dGet (l q : AV) (e : B) (k : AV → B) : B := AV.rec (motive := fun V => B) false (fun V => false) (fun V => false) (fun V => false) (fun V V => false) (fun V => false) (fun V => false) (fun V V => false) (keyish q e) (fun p V V g => consK p fun a v => keyEq R a q (k v) g) (fun V V => false) l
noncomputable def keyLit (q : AV) (e : B) : B := AV.rec (motive := fun V => B) false (fun V => false) (fun i => AI.rec (motive := fun V => B) (fun V => e) (fun V => false) i) (fun V => e) (fun V V => false) (fun V => false) (fun V => false) (fun V V => false) false (fun V V V V => false) (fun V V => false) q
noncomputable def dSet (l q v : AV) : (AV → B) → B := AV.rec (motive := fun V => (AV → B) → B) (fun V => false) (fun V V => false) (fun V V => false) (fun V V => false) (fun V V V => false) (fun V V => false) (fun V V => false) (fun V V V => false) (fun k => keyLit q (k (.cons (.cons q v) .nil))) (fun p m V g k => consK p fun a w => keyEq R a q (k (.cons (.cons a v) m)) (g fun m => k (.cons (.cons a w) m))) (fun V V V => false) l
noncomputable def zipS : AV → AV → (AV → B) → B
 | .nil, acc, k => k acc
 | .cons a b, acc, k => (match b with | .cons c m => dSet R acc a c fun acc => zipS m acc k | _ => false)
 | _, _, _ => false
noncomputable def memV (l q : AV) (t f : B) : B := AV.rec (motive := fun V => B) false (fun V => false) (fun V => false) (fun V => false) (fun V V => false) (fun V => false) (fun V => false) (fun V V => false) f (fun a V V g => eqV R a 8 q t g) (fun V V => false) l
noncomputable def keysV (l : AV) : (AV → B) → B := AV.rec (motive := fun V => (AV → B) → B) (fun V => false) (fun V V => false) (fun V V => false) (fun V V => false) (fun V V V => false) (fun V V => false) (fun V V => false) (fun V V V => false) (fun k => k .nil) (fun p V V g k => consK p fun a V => litK a fun i => g fun r => k (.cons (.int (.lit i)) r)) (fun V V V => false) l
noncomputable def insV (x l : AV) : (AV → B) → B := AV.rec (motive := fun V => (AV → B) → B) (fun V => false) (fun V V => false) (fun V V => false) (fun V V => false) (fun V V V => false) (fun V V => false) (fun V V => false) (fun V V V => false) (fun k => k (.cons x .nil)) (fun a m V g k => ltV R 10 x 0 a (k (.cons x (.cons a m))) (g fun r => k (.cons a r))) (fun V V V => false) l
noncomputable def sortV (l : AV) : (AV → B) → B := AV.rec (motive := fun V => (AV → B) → B) (fun V => false) (fun V V => false) (fun V V => false) (fun V V => false) (fun V V V => false) (fun V V => false) (fun V V => false) (fun V V V => false) (fun k => k .nil) (fun a V V g k => g fun r => insV R a r k) (fun V V V => false) l
noncomputable def nz (x : Int) (k : B) : B := Int.rec (motive := fun V => B) (fun n => Nat.rec (motive := fun V => B) false (fun V V => k) n) (fun V => k) x
noncomputable def sm2 (x : Int) (k : B) : B := Int.rec (motive := fun V => B) (fun m => ifB (Nat.ble m 4611686018427387903) k false) (fun m => ifB (Nat.ble m 4611686018427387902) k false) x
noncomputable def sumV (l : AV) (n : Int) (k : AV → B) : B := AV.rec (motive := fun V => Int → B) (fun V => false) (fun V V => false) (fun V V => false) (fun V V => false) (fun V V V => false) (fun V V => false) (fun V V => false) (fun V V V => false) (fun n => k (.int (.lit n))) (fun a V V g n => litK a fun i => sm2 i (sm2 (n + i) (g (n + i)))) (fun V V V => false) l n
noncomputable def byteK (l : AV) (k : B) : B := AV.rec (motive := fun V => B) false (fun V => false) (fun V => false) (fun V => false) (fun V V => false) (fun V => false) (fun V => false) (fun V V => false) k (fun a V V g => intK a fun i => opI R 11 (.lit 0) i fun u => opI R 11 i (.lit 255) fun v => tstK u (tstK v g false) false) (fun V V => false) l
noncomputable def idxV (l q : AV) (n : Nat) (k : AV → B) : B := AV.rec (motive := fun V => Nat → B) (fun V => false) (fun V V => false) (fun V V => false) (fun V V => false) (fun V V V => false) (fun V V => false) (fun V V => false) (fun V V V => false) (fun V => false) (fun a V V g n => eqV R a 8 q (k (.int (.lit (.ofNat n)))) (g (Nat.succ n))) (fun V V V => false) l n
noncomputable def joinV (h : HT) (l : AV) : (AV → B) → B := AV.rec (motive := fun V => (AV → B) → B) (fun V => false) (fun V V => false) (fun V V => false) (fun V V => false) (fun V V V => false) (fun V V => false) (fun V V => false) (fun V V V => false) (fun k => k .nil) (fun a V V g k => bytK a fun l => g fun r => appV l r k) (fun V V V => false) l
noncomputable def nxtD (l r : AV) (i : Nat) (e : B) (k : AV → B) : B := consK r fun n r => natK n fun n => lenV l 0 fun m => ifB (Nat.beq m n) (dropK l i e fun kv => consK kv fun a b =>
 k (AV.rec (motive := fun V => AV) b (fun V => b) (fun V => b) (fun V => b) (fun V V => b) (fun V => b) (fun V => b) (fun V V => b) a (fun V V V V => b) (fun V V => b) r)) false
noncomputable def nxtR (a b s : Int) (i : Nat) (e : B) (k : AV → B) : B := ifB (ltI 0 s) (ifB (ltI (a + s * i) b) (kI k (a + s * i)) e) (ifB (ltI b (a + s * i)) (kI k (a + s * i)) e)
noncomputable def nxtK (h : HT) (src : AV) (i : Nat) (e : B) (k : AV → B) : B := AV.rec (motive := fun V => B) false (fun V => false) (fun V => false) (fun V => false)
 (fun l V => dropK l i e k) (fun p => h.getK p fun o => lsO o fun l => dropK l i e k) (fun n => dropK (T.kd n) i e fun kv => consK kv fun a V => k a) (fun l V => dropK l i e k) false
 (fun a r V V => AV.rec (motive := fun V => B) false (fun V => false) (fun a => AI.rec (motive := fun V => B) (fun a => consK r fun b r => consK r fun s V => litK b fun b => litK s fun s => nxtR a b s i e k) (fun V => false) a) (fun V => false) (fun V V => false)
  (fun p => h.getK p fun o => dcO o fun l => nxtD l r i e k) (fun V => false) (fun V V => false) false (fun V V V V => false) (fun V V => false) a)
 (fun V V => false) src
noncomputable def srcK (h : HT) (src : AV) (k : AV → B) : B := AV.rec (motive := fun V => B) false (fun V => false) (fun V => false) (fun V => false) (fun l V => k (.byt l))
 (fun p => h.getK p fun o => AO.rec (motive := fun V => B) (fun V => k (.ref p)) (fun l => lenV l 0 fun n => k (.cons (.ref p) (.cons (.int (.lit (.ofNat n))) .nil))) (fun V V => false)
  (fun a b s => nz s (sm2 a (sm2 b (sm2 s (k (.cons (.int (.lit a)) (.cons (.int (.lit b)) (.cons (.int (.lit s)) .nil)))))))) o)
 (fun n => consK (T.kd n) fun V V => k (.kd n)) (fun l V => k (.tup l)) false
 (fun a V V V => refK a fun p => h.getK p fun o => dcO o fun l => lenV l 0 fun n => k (.cons (.ref p) (.cons (.int (.lit (.ofNat n))) (.cons .none .nil)))) (fun V V => false) src
noncomputable def bitsV (n m : Nat) : AV → (AV → B) → B := Nat.rec (motive := fun V => Nat → AV → (AV → B) → B) (fun V acc k => k acc)
 (fun V g n acc k => g (Nat.shiftRight n 8) (.cons (.int (.lit (.ofNat (Nat.land n 255)))) acc) k) m n
noncomputable def nilB (v : AV) (t f : B) : B := AV.rec (motive := fun V => B) false (fun V => false) (fun V => false) (fun V => false) (fun V V => false) (fun V => false) (fun V => false) (fun V V => false) t (fun V V V V => f) (fun V V => false) v
noncomputable def lsEq (l m : AV) (t f : B) : B := nilB l (nilB m t f) (nilB m f (oneK l fun a => oneK m fun b => eqV R a 8 b t f))
noncomputable def frK (s : St) (l b : AV) (t f : B) : B := lsP s.h b fun V m => nilK m (nilB l t f)
noncomputable def eqK (s : St) (a b : AV) (t f : B) : B := AV.rec (motive := fun V => B) (eqV R a 8 b t f) (fun V => eqV R a 8 b t f) (fun V => eqV R a 8 b t f) (fun V => eqV R a 8 b t f) (fun V V => eqV R a 8 b t f)
 (fun V => lsP s.h a fun V l => lsP s.h b fun V m => lsEq R l m t f) (fun V => false) (fun V V => eqV R a 8 b t f) (eqV R a 8 b t f) (fun V V V V => eqV R a 8 b t f) (fun l V => frK s l b t f) a
noncomputable def bytB (a : AV) (k : B) : B := AV.rec (motive := fun V => B) k (fun V => k) (fun V => k) (fun V => k) (fun V V => false) (fun V => k) (fun V => k) (fun V V => k) k (fun V V V V => k) (fun V V => k) a
noncomputable def inK (s : St) (a b : AV) (t f : B) : B := AV.rec (motive := fun V => B) false (fun V => false) (fun V => false) (fun V => false) (fun V V => false)
 (fun V => dcP s.h b fun V l => dGet R l a f fun V => t) (fun V => false) (fun l V => memV R l a t f) false (fun V V V V => false) (fun V V => false) b
noncomputable def isNo (a : AV) (t f : B) : B := AV.rec (motive := fun V => B) t (fun V => f) (fun V => f) (fun V => f) (fun V V => f) (fun V => f) (fun V => f) (fun V V => f) f (fun V V V V => f) (fun V V => f) a
noncomputable def cmpK (s : St) (o : Nat) (a b : AV) (t f : B) : B := match o with
 | 0 => eqK R s a b t f
 | 1 => bytB a (eqK R s a b f t)
 | 2 => ltV R 10 a 8 b t f
 | 3 => ltV R 11 a 8 b t f
 | 4 => ltV R 10 b 0 a t f
 | 5 => ltV R 11 b 0 a t f
 | 6 => AV.rec (motive := fun V => B) (inK R s a b t f) (fun V => inK R s a b t f) (fun V => inK R s a b t f) (fun n => strK a fun m => ifB (Nat.beq m 8) (ifB (Nat.beq n 21) f (ifB (Nat.beq n 22) f false)) false) (fun V V => inK R s a b t f) (fun V => inK R s a b t f) (fun V => inK R s a b t f)
  (fun V V => inK R s a b t f) (inK R s a b t f) (fun V V V V => inK R s a b t f) (fun V V => inK R s a b t f) b
 | 7 => inK R s a b f t
 | 8 => noneK b (isNo a t f)
 | 9 => noneK b (isNo a f t)
 | _ => false
noncomputable def binK (s : St) (o : Nat) (a b : AV) (k : AV → St → B) : B := AV.rec (motive := fun V => B) false (fun V => false) (fun x => intK b fun y => opI R o x y fun v => k v s) (fun V => false)
 (fun l V => bytK b fun m => is0 o (appV l m fun r => capK r (k (.byt r) s)))
 (fun V => lsP s.h a fun V l => lsP s.h b fun V m => is0 o (appV l m fun r => newL s r k)) (fun V => false)
 (fun l V => tupK b fun m => is0 o (appV l m fun r => capK r (k (.tup r) s))) false (fun V V V V => false) (fun V V => false) a
noncomputable def itmK (l i : AV) (k : AV → B) : B := litK i fun i => lenV l 0 fun n => placeK i n fun j => dropK l j false k
noncomputable def subK (s : St) (a i : AV) (k : AV → B) : B := AV.rec (motive := fun V => B) false (fun V => false) (fun V => false) (fun V => false) (fun l V => itmK l i k)
 (fun p => s.h.getK p fun o => AO.rec (motive := fun V => B) (fun l => itmK l i k) (fun l => dGet R l i false k) (fun V V => false) (fun V V V => false) o) (fun n => dGet R (T.kd n) i false k)
 (fun l V => itmK l i k) false (fun V V V V => false) (fun l V => itmK l i k) a
noncomputable def goHi (n : Nat) (l hi : AV) (k : AV → B) (j : Nat) : B := AV.rec (motive := fun V => B) (skipV l j k) (fun V => false) (fun i => AI.rec (motive := fun V => B) (fun i => boundK i n fun m => takeV l m fun r => skipV r j k) (fun V => false) i)
 (fun V => false) (fun V V => false) (fun V => false) (fun V => false) (fun V V => false) false (fun V V V V => false) (fun V V => false) hi
noncomputable def slcL (l lo hi : AV) (k : AV → B) : B := lenV l 0 fun n => AV.rec (motive := fun V => B) (goHi n l hi k 0) (fun V => false) (fun i => AI.rec (motive := fun V => B) (fun i => boundK i n (goHi n l hi k)) (fun V => false) i)
 (fun V => false) (fun V V => false) (fun V => false) (fun V => false) (fun V V => false) false (fun V V V V => false) (fun V V => false) lo
noncomputable def slcK (a lo hi : AV) (k : AV → B) : B := AV.rec (motive := fun V => B) false (fun V => false) (fun V => false) (fun V => false) (fun l V => slcL l lo hi fun r => k (.byt r)) (fun V => false) (fun V => false) (fun l V => slcL l lo hi fun r => k (.tup r)) false (fun V V V V => false) (fun V V => false) a
noncomputable def lenK (s : St) (a : AV) (k : Nat → B) : B := AV.rec (motive := fun V => B) false (fun V => false) (fun V => false) (fun n => Nat.rec (motive := fun V => B) false (fun m V => k (m + 1)) (T.strLen n)) (fun l V => lenV l 0 k)
 (fun p => s.h.getK p fun o => AO.rec (motive := fun V => B) (fun l => lenV l 0 k) (fun l => lenV l 0 k) (fun V V => false) (fun V V V => false) o) (fun V => false) (fun l V => lenV l 0 k) false (fun V V V V => false) (fun V V => false) a
noncomputable def bytesK (s : St) (a : AV) (k : AV → B) : B := AV.rec (motive := fun V => B) false (fun V => false) (fun V => natK a fun n => zerosV n fun l => capK l (k l)) (fun V => false) (fun l V => k l)
 (fun V => lsP s.h a fun V l => capK l (byteK R l (k l))) (fun V => false) (fun V V => false) false (fun V V V V => false) (fun V V => false) a
noncomputable def bltK (s : St) (b : Nat) (as : AV) (k : AV → St → B) : B := match b with
 | 0 => oneK as fun a => lenK T s a fun n => k (.int (.lit (.ofNat n))) s
 | 1 => twoK as fun a c => ltV R 10 c 0 a (k c s) (k a s)
 | 2 => twoK as fun a c => ltV R 10 a 0 c (k c s) (k a s)
 | 3 => oneK as fun a => dcP s.h a fun V l => lenV l 0 fun n => ifB (Nat.ble n 63) (keysV l fun r => sortV R r fun r => newL s r k) false
 | 4 => oneK as fun a => lsP s.h a fun V l => sumV l 0 fun v => k v s
 | 5 => twoK as fun a c => intK a fun x => intK c fun y => opI R 4 x y fun u => opI R 3 x y fun v => k (.tup (.cons u (.cons v .nil))) s
 | 6 => oneK as fun a => boolK a fun b => ifB b (k (.int (.lit 1)) s) (k (.int (.lit 0)) s)
 | 7 => oneK as fun a => bytesK R s a fun l => k (.byt l) s
 | 8 => consK as fun a r => litK a fun i => AV.rec (motive := fun V => B) false (fun V => false) (fun V => false) (fun V => false) (fun V V => false) (fun V => false) (fun V => false) (fun V V => false) (allocK s (.range 0 i 1) k)
  (fun c r V V => litK c fun j => AV.rec (motive := fun V => B) false (fun V => false) (fun V => false) (fun V => false) (fun V V => false) (fun V => false) (fun V => false) (fun V V => false) (allocK s (.range i j 1) k)
   (fun d r V V => nilK r (litK d fun st => nz st (sml st (allocK s (.range i j st) k)))) (fun V V => false) r) (fun V V => false) r
 | 9 => oneK as fun a => lsP s.h a fun V l => capK l (k (.tup l) s)
 | 10 => oneK as fun a => dcP s.h a fun V l => allocK s (.dict l) k
 | _ => false
noncomputable def rsK (n : Nat) (k : B) : B := ifB (Nat.beq n 21) k (ifB (Nat.beq n 22) k false)
noncomputable def mthK (s : St) (m : Nat) (e as : AV) (k : AV → St → B) : B := match m with
 | 0 => oneK as fun a => lsP s.h e fun p l => appV l (.cons a .nil) fun r => capK r <| HT.setK p s.h (.list r) fun h => k .none ⟨s.n, h⟩
 | 1 => oneK as fun z => intK z fun z => ifB (AI.eq z (.lit (.ofNat 0))) (lsP s.h e fun p l => consK l fun a l => HT.setK p s.h (.list l) fun h => k a ⟨s.n, h⟩) false
 | 2 => twoK as fun a d => dcP s.h e fun V l => dGet R l a (k d s) fun v => k v s
 | 3 => oneK as fun c => strK c fun c => strK e fun n => ifB (Nat.beq c 7) (rsK n (k (.byt (T.strByt n)) s)) false
 | 4 => nilK as (strK e fun n => rsK n (k (.bool true) s))
 | 5 => oneK as fun a => bytK e fun b => nilK b (lsP s.h a fun V l => joinV s.h l fun r => capK r (k (.byt r) s))
 | 6 => twoK as fun m c => natK m fun m => strK c fun c => natK e fun n => ifB (Nat.beq c 23) (ifB (Nat.beq m 2) (ifB (Nat.blt n 65536) (bitsV n 2 .nil fun r => k (.byt r) s) false) false) false
 | 7 => oneK as fun a => tupK e fun l => idxV R l a 0 fun v => k v s
 | _ => false
noncomputable def preK (s : St) (m : Nat) (e : AV) (k : B) : B := match m with
 | 0 => lsP s.h e fun V V => k
 | 1 => lsP s.h e fun V V => k
 | 2 => dcP s.h e fun V V => k
 | 3 => strK e fun n => rsK n k
 | 4 => strK e fun n => rsK n k
 | 5 => bytK e fun b => nilK b k
 | 6 => intK e fun V => k
 | 7 => tupK e fun V => k
 | _ => false
variable (H : Nat → AV → AV → St → (AV → St → B) → B) (E0 : X → Loc → St → (AV → St → B) → B)
noncomputable def compG (tests : Loc → St → (St → B) → (St → B) → B) (step : Loc → St → AV → (AV → St → B) → B) (tgt : AV → Loc → (Loc → B) → B) (src : AV) (f : Nat) :
 Nat → Loc → AV → St → (AV → St → B) → B := Nat.rec (motive := fun V => Nat → Loc → AV → St → (AV → St → B) → B) (fun V V V V V => false)
 (fun V g i l acc s k => nxtK T s.h src i (k acc s) fun v => tgt v l fun l' => tests l' s (fun s => step l' s acc fun acc s => g (Nat.succ i) l acc s k) (fun s => g (Nat.succ i) l acc s k)) f
noncomputable def lenX (x : X) : Nat := X.rec (motive := fun V => Nat) 0 0 (fun V V V n => n + 1) (fun V => 0) (fun V => 0) (fun V V => 0) (fun V V V => 0) (fun V V V V => 0) (fun V V V V V V => 0) (fun V V V V V => 0) (fun V V V V V => 0) (fun V V V V V => 0) (fun V V V => 0) (fun V V V V V => 0) (fun V V V V V => 0) (fun V V => 0) (fun V V V V V => 0) (fun V V V V V V V V => 0) (fun V V V V => 0) (fun V V V V => 0) (fun V V => 0) (fun V V V V V V => 0) (fun V V => 0) (fun V V => 0) (fun V V V V => 0) (fun V V V V V V V V => 0) (fun V V V V V V V V V V => 0) (fun V V => 0) (fun V V => 0) (fun V V => 0) 0 (fun V V V V => 0) (fun V V V V V V => 0) (fun V V V V V V => 0) 0 0 (fun V V V V V => 0) (fun V => 0) (fun V V V => 0) (fun V => 0) (fun V V V => 0) (fun V V V V => 0) (fun V V => 0) x
noncomputable def lenEq (t : X) (v : AV) (k : B) : B := lenV v 0 fun n => ifB (Nat.beq n (lenX t)) k false
noncomputable def tgtK (x : X) : AV → Loc → (Loc → B) → B := X.rec (motive := fun V => AV → Loc → (Loc → B) → B) (fun V V V => false) (fun v l k => nilK v (k l)) (fun V V g h v l k => consK v fun x m => g x l fun l => h m l k) (fun V V V V => false) (fun V V V V => false) (fun V V V V V => false) (fun V V V V V V => false) (fun V V V V V V V => false) (fun V V V V V V V V V => false) (fun V V V V V V V V => false) (fun V V V V V V V V => false) (fun V V V V V V V V => false) (fun V V V V V V => false) (fun V V V V V V V V => false) (fun V V V V V V V V => false) (fun V V V V V => false) (fun V V V V V V V V => false) (fun V V V V V V V V V V V => false) (fun V V V V V V V => false) (fun V V V V V V V => false) (fun V V V V V => false) (fun V V V V V V V V V => false) (fun V V V V V => false) (fun V V V V V => false) (fun V V V V V V V => false) (fun V V V V V V V V V V V => false) (fun V V V V V V V V V V V V V => false) (fun V V V V V => false) (fun V V V V V => false) (fun V V V V V => false) (fun V V V => false) (fun V V V V V V V => false) (fun V V V V V V V V V => false) (fun V V V V V V V V V => false) (fun V V V => false) (fun V V V => false) (fun V V V V V V V V => false) (fun V V V V => false) (fun V V V V V V => false) (fun n v l k => l.setK n v k) (fun V V V V V V => false) (fun V V V V V V V => false) (fun t g v l k => tupK v fun m => lenEq t m (g m l k)) x
abbrev EVT := Loc → St → (AV → St → B) → B
noncomputable def evNil : EVT := fun V s k => k .nil s
noncomputable def evCons (a b : EVT) : EVT := fun l s k => a l s fun v s => b l s fun m s => k (.cons v m) s
noncomputable def evCst (v : AV) : EVT := fun V s k => k v s
noncomputable def evLoc (n : Nat) : EVT := fun l s k => l.getK n fun v => k v s
noncomputable def evAttr (e : EVT) (a : Pth) : EVT := fun l s k => e l s fun v s => inP s.h v fun V V f => f.getK a fun v => k v s
noncomputable def evSub (e i : EVT) : EVT := fun l s k => e l s fun a s => i l s fun i s => subK T R s a i fun v => k v s
noncomputable def evSlc (e lo hi : EVT) : EVT := fun l s k => e l s fun a s => lo l s fun lo s => hi l s fun hi s => slcK a lo hi fun r => k r s
noncomputable def evF (f : Nat) (as ks : EVT) : EVT := fun l s k => as l s fun as s => ks l s fun ks s => H f as ks s k
noncomputable def evM (e : EVT) (m : Pth) (as : EVT) : EVT := fun l s k => e l s fun v s => inP s.h v fun p c V => ifB (Nat.beq (T.meth c m) 9999) false (as l s fun as s => H (T.meth c m) (.cons (.ref p) as) .nil s k)
noncomputable def evC (c : Nat) (as ks : EVT) : EVT := fun l s k => as l s fun as s => ks l s fun ks s => allocK s (.inst c .nil) fun r s => H (T.init c) (.cons r as) ks s fun v s => noneK v (k r s)
noncomputable def evB (b : Nat) (as : EVT) : EVT := fun l s k => as l s fun as s => bltK T R s b as k
noncomputable def evS (m : Nat) (e as : EVT) : EVT := fun l s k => e l s fun e s => preK s m e (as l s fun as s => mthK T R s m e as k)
noncomputable def evBin (o : Nat) (a b : EVT) : EVT := fun l s k => a l s fun a s => b l s fun b s => binK R s o a b k
noncomputable def evNeg (a : EVT) : EVT := fun l s k => a l s fun a s => litK a fun i => kI (fun v => k v s) (-i)
noncomputable def evCmp (o : Nat) (a b : EVT) : EVT := fun l s k => a l s fun a s => b l s fun b s => cmpK R s o a b (k (.bool true) s) (k (.bool false) s)
noncomputable def evCmp2 (o p : Nat) (a b c : EVT) : EVT := fun l s k => a l s fun a s => b l s fun b s => cmpK R s o a b (c l s fun c s => cmpK R s p b c (k (.bool true) s) (k (.bool false) s)) (k (.bool false) s)
noncomputable def evAnd (a b : EVT) : EVT := fun l s k => a l s fun v s => tstK v (b l s k) (k v s)
noncomputable def evOr (a b : EVT) : EVT := fun l s k => a l s fun v s => tstK v (k v s) (b l s k)
noncomputable def evNot (a : EVT) : EVT := fun l s k => a l s fun v s => tstK v (k (.bool false) s) (k (.bool true) s)
noncomputable def evIfe (c a b : EVT) : EVT := fun l s k => c l s fun v s => tstK v (a l s k) (b l s k)
noncomputable def evTup (x : EVT) : EVT := fun l s k => x l s fun v s => capK v (k (.tup v) s)
noncomputable def evLst (x : EVT) : EVT := fun l s k => x l s fun v s => newL s v k
noncomputable def evDct (x : EVT) : EVT := fun l s k => x l s fun m s => zipS R m .nil fun d => allocK s (.dict d) k
noncomputable def evVals (e : EVT) : EVT := fun l s k => e l s fun v s => dcP s.h v fun p V => k (.cons (.ref p) .nil) s
noncomputable def evKw (n : Nat) (e : EVT) : EVT := fun l s k => e l s fun v s => k (.cons (.int (.lit (.ofNat n))) v) s
noncomputable def evLc (elt : X) (tgt : X) (src : EVT) (ifs : X) : EVT := fun l s k => src l s fun src s => srcK T s.h src fun src =>
 compG T (fun l s t f => E0 ifs l s fun v s => tstK v (t s) (f s)) (fun l s acc k => E0 elt l s fun v s => appV acc (.cons v .nil) fun acc => k acc s) (tgtK tgt) src 600 0 l .nil s fun r s => newL s r k
noncomputable def evDc (ky vl : X) (tgt : X) (src : EVT) (ifs : X) : EVT := fun l s k => src l s fun src s => srcK T s.h src fun src =>
 compG T (fun l s t f => E0 ifs l s fun v s => tstK v (t s) (f s)) (fun l s acc k => E0 ky l s fun q s => E0 vl l s fun v s => dSet R acc q v fun acc => k acc s) (tgtK tgt) src 600 0 l .nil s fun r s => capK r (allocK s (.dict r) k)
noncomputable def evBad : EVT := fun V V V => false
noncomputable def ev : X → EVT := fun x => X.rec (motive := fun V => EVT)
 (evBad) (evNil) (fun V V i0 i1 => evCons i0 i1) (fun x0 => evCst x0) (fun x0 => evLoc x0) (fun V x1 => evCst x1) (fun V x1 i0 => evAttr i0 x1) 
 (fun V V i0 i1 => evSub T R i0 i1) (fun V V V i0 i1 i2 => evSlc i0 i1 i2) (fun x0 V V i1 i2 => evF H x0 i1 i2) (fun V x1 V i0 i2 => evM T H i0 x1 i2) 
 (fun x0 V V i1 i2 => evC T H x0 i1 i2) (fun x0 V i1 => evB T R x0 i1) (fun x0 V V i1 i2 => evS T R x0 i1 i2) (fun x0 V V i1 i2 => evBin R x0 i1 i2) 
 (fun V i0 => evNeg i0) (fun x0 V V i1 i2 => evCmp R x0 i1 i2) (fun x0 x1 V V V i2 i3 i4 => evCmp2 R x0 x1 i2 i3 i4) (fun V V i0 i1 => evAnd i0 i1) 
 (fun V V i0 i1 => evOr i0 i1) (fun V i0 => evNot i0) (fun V V V i0 i1 i2 => evIfe i0 i1 i2) (fun V i0 => evTup i0) (fun V i0 => evLst i0) 
 (fun V V i0 V => evDct R i0) (fun x0 x1 V x3 V V i2 V => evLc T E0 x0 x1 i2 x3) (fun x0 x1 x2 V x4 V V V i3 V => evDc T R E0 x0 x1 x2 i3 x4) (fun V i0 => evVals i0) 
 (fun V V => evBad) (fun V V => evBad) (evBad) (fun V V V V => evBad) (fun V V V V V V => evBad) (fun V V V V V V => evBad) (evBad) (evBad) (fun V V V V V => evBad) 
 (fun V => evBad) (fun x0 V i1 => evKw x0 i1) (fun V => evBad) (fun V V V => evBad) (fun V V V V => evBad) (fun V V => evBad) x
abbrev AST := AV → Loc → St → (Loc → St → B) → B
noncomputable def asName (n : Nat) : AST := fun v l s k => l.setK n v fun l => k l s
noncomputable def asAttr (e : X) (a : Pth) : AST := fun v l s k => ev T R H E0 e l s fun x s => inP s.h x fun p c f => ifB (T.fld c a) (FT.setK a f v fun f => HT.setK p s.h (.inst c f) fun h => k l ⟨s.n, h⟩) false
noncomputable def subW (s : St) (x i v : AV) (k : St → B) : B := refK x fun p => s.h.getK p fun o => AO.rec (motive := fun V => B) (fun m => natK i fun z => setN m z v fun r => HT.setK p s.h (.list r) fun h => k ⟨s.n, h⟩)
 (fun m => dSet R m i v fun r => capK r <| HT.setK p s.h (.dict r) fun h => k ⟨s.n, h⟩) (fun V V => false) (fun V V V => false) o
noncomputable def asSub (e i : X) : AST := fun v l s k => ev T R H E0 e l s fun x s => ev T R H E0 i l s fun i s => subW R s x i v (k l)
noncomputable def seqK (h : HT) (v : AV) (k : AV → B) : B := AV.rec (motive := fun V => B) false (fun V => false) (fun V => false) (fun V => false) (fun V V => false) (fun V => lsP h v fun V m => k m) (fun V => false) (fun m V => k m) false (fun V V V V => false) (fun V V => false) v
noncomputable def asTup (t : X) (g : AST) : AST := fun v l s k => seqK s.h v fun m => lenEq t m (g m l s k)
noncomputable def asCons (a b : AST) : AST := fun v l s k => consK v fun x m => a x l s fun l s => b m l s k
noncomputable def asNil : AST := fun v l s k => nilK v (k l s)
noncomputable def asBad : AST := fun V V V V => false
noncomputable def asg : X → AST := fun x => X.rec (motive := fun V => AST)
 (asBad) (asNil) (fun V V i0 i1 => asCons i0 i1) (fun V => asBad) (fun V => asBad) (fun V V => asBad) (fun V V V => asBad) (fun V V V V => asBad) 
 (fun V V V V V V => asBad) (fun V V V V V => asBad) (fun V V V V V => asBad) (fun V V V V V => asBad) (fun V V V => asBad) (fun V V V V V => asBad) 
 (fun V V V V V => asBad) (fun V V => asBad) (fun V V V V V => asBad) (fun V V V V V V V V => asBad) (fun V V V V => asBad) (fun V V V V => asBad) (fun V V => asBad) 
 (fun V V V V V V => asBad) (fun V V => asBad) (fun V V => asBad) (fun V V V V => asBad) (fun V V V V V V V V => asBad) (fun V V V V V V V V V V => asBad) 
 (fun V V => asBad) (fun V V => asBad) (fun V V => asBad) (asBad) (fun V V V V => asBad) (fun V V V V V V => asBad) (fun V V V V V V => asBad) (asBad) (asBad) 
 (fun V V V V V => asBad) (fun V => asBad) (fun V V V => asBad) (fun x0 => asName x0) (fun x0 x1 V => asAttr T R H E0 x0 x1) (fun x0 x1 V V => asSub T R H E0 x0 x1) 
 (fun x0 i0 => asTup x0 i0) x
noncomputable def forK (body : Loc → St → (Loc → St → B) → (AV → St → B) → (Loc → St → B) → B) (tgt : AV → Loc → (Loc → B) → B) (src : AV) (f : Nat) :
 Nat → Loc → St → (Loc → St → B) → (AV → St → B) → B := Nat.rec (motive := fun V => Nat → Loc → St → (Loc → St → B) → (AV → St → B) → B) (fun V V V V V => false)
 (fun V g i l s kn kr => nxtK T s.h src i (kn l s) fun v => tgt v l fun l => body l s (fun l s => g (Nat.succ i) l s kn kr) kr (fun l s => g (Nat.succ i) l s kn kr)) f
abbrev Kx := Nat → St → B
abbrev noK : Kx := fun V V => false
variable (Hk : Kx → Nat → AV → AV → St → (AV → St → B) → B)
abbrev EXT := Kx → Loc → St → (Loc → St → B) → (AV → St → B) → (Loc → St → B) → B
noncomputable def exNil : EXT := fun V l s kn V V => kn l s
noncomputable def exCons (a b : EXT) : EXT := fun kx l s kn kr kc => a kx l s (fun l s => b kx l s kn kr kc) kr kc
noncomputable def exEx (e : X) : EXT := fun kx l s kn V V => ev T R (Hk kx) E0 e l s fun V s => kn l s
noncomputable def exRet (e : X) : EXT := fun kx l s V kr V => ev T R (Hk kx) E0 e l s kr
noncomputable def exRetN : EXT := fun V V s V kr V => kr .none s
noncomputable def exAsn (t e : X) : EXT := fun kx l s kn V V => ev T R (Hk kx) E0 e l s fun v s => asg T R (Hk kx) E0 t v l s kn
noncomputable def exIf (c : X) (a b : EXT) : EXT := fun kx l s kn kr kc => ev T R (Hk kx) E0 c l s fun v s => tstK v (a kx l s kn kr kc) (b kx l s kn kr kc)
noncomputable def exFor (t src : X) (body : EXT) : EXT := fun kx l s kn kr V => ev T R (Hk kx) E0 src l s fun src s => srcK T s.h src fun src => forK T (fun l s kn kr kc => body kx l s kn kr kc) (tgtK t) src 600 0 l s kn kr
noncomputable def exCont : EXT := fun V l s V V kc => kc l s
noncomputable def exRaise (c : Nat) : EXT := fun kx V s V V V => kx c s
noncomputable def exTry (b : EXT) (c : Nat) (h : EXT) : EXT := fun kx l s kn kr kc => b (fun c' s => ifB (Nat.beq c' c) (h kx l s kn kr kc) false) l s kn kr kc
noncomputable def exBad : EXT := fun V V V V V V => false
noncomputable def exc : X → EXT := fun x => X.rec (motive := fun V => EXT)
 (exBad) (exNil) (fun V V i0 i1 => exCons i0 i1) (fun V => exBad) (fun V => exBad) (fun V V => exBad) (fun V V V => exBad) (fun V V V V => exBad) 
 (fun V V V V V V => exBad) (fun V V V V V => exBad) (fun V V V V V => exBad) (fun V V V V V => exBad) (fun V V V => exBad) (fun V V V V V => exBad) 
 (fun V V V V V => exBad) (fun V V => exBad) (fun V V V V V => exBad) (fun V V V V V V V V => exBad) (fun V V V V => exBad) (fun V V V V => exBad) (fun V V => exBad) 
 (fun V V V V V V => exBad) (fun V V => exBad) (fun V V => exBad) (fun V V V V => exBad) (fun V V V V V V V V => exBad) (fun V V V V V V V V V V => exBad) 
 (fun V V => exBad) (fun x0 V => exEx T R E0 Hk x0) (fun x0 V => exRet T R E0 Hk x0) (exRetN) (fun x0 x1 V V => exAsn T R E0 Hk x0 x1) 
 (fun x0 V V V i1 i2 => exIf T R E0 Hk x0 i1 i2) (fun x0 x1 V V V i2 => exFor T R E0 Hk x0 x1 i2) (exCont) (exNil) (fun V x1 V i0 i2 => exTry i0 x1 i2) 
 (fun x0 => exRaise x0) (fun V V V => exBad) (fun V => exBad) (fun V V V => exBad) (fun V V V V => exBad) (fun V V => exBad) x
structure FDef where
 ps : List Nat
 ds : AV
 body : X
noncomputable def kwK (l : AV) (n : Nat) (e : B) (k : AV → B) : B := AV.rec (motive := fun V => B) false (fun V => false) (fun V => false) (fun V => false) (fun V V => false) (fun V => false) (fun V => false) (fun V V => false) e (fun p V V g => consK p fun q v => natK q fun q => ifB (Nat.beq q n) (k v) g) (fun V V => false) l
noncomputable def bindK (ps : List Nat) (as ks ds : AV) : (Loc → B) → B := List.rec (motive := fun V => AV → (Loc → B) → B) (fun as k => nilK as (k .nil))
 (fun p V g as k => AV.rec (motive := fun V => B) false (fun V => false) (fun V => false) (fun V => false) (fun V V => false) (fun V => false) (fun V => false) (fun V V => false) (kwK ks p (kwK ds p false fun v => g .nil fun l => k (.cons p v l)) fun v => g .nil fun l => k (.cons p v l)) (fun a as V V => g as fun l => k (.cons p a l)) (fun V V => false) as) ps as
end
noncomputable def callN (T : Tabs) (R : Orc) (F : Nat → FDef) (d : Nat) : Kx → Nat → AV → AV → St → (AV → St → B) → B := Nat.rec (motive := fun V => Kx → Nat → AV → AV → St → (AV → St → B) → B) (fun V V V V V V => false)
 (fun V H kx f as ks s k => FDef.rec (motive := fun V => B) (fun ps ds body => bindK ps as ks ds fun l => exc T R (ev T R (H noK) fun V V V V => false) H body kx l s (fun V s => k .none s) k (fun V V => false)) (F f)) d
end Mst
end
section
namespace Mst
theorem and2 {a b : Bool} (h : (a && b) = true) : a = true ∧ b = true := Bool.and_eq_true_iff.mp h
theorem ff {α : Prop} (h : false = true) : α := by cases h
inductive Ex {α : Type} (P : α → Prop) (k : α → B) : Prop
 | mk (v : α) : P v → k v = true → Ex P k
inductive SetR {τ κ ν : Type} (get : τ → κ → Option ν) (t : τ) (p : κ) (v : ν) (k : τ → B) : Prop
 | mk (t' : τ) : k t' = true → get t' p = some v → (∀ q, q ≠ p → get t' q = get t q) → SetR get t p v k
noncomputable def nnO (v : AV) : Option AV := AV.rec (motive := fun V => Option AV) (some v) (fun V => some v) (fun V => some v) (fun V => some v) (fun V V => some v) (fun V => some v) (fun V => some v) (fun V V => some v) none (fun V V V V => some v) (fun V V => some v) v
theorem nnK_e {v : AV} {e : B} (h : nnK v e = true) : nnO v = some v ∧ e = true := by
 cases v <;> first | exact ff h | exact ⟨rfl, h⟩
theorem nnO_of {v : AV} (h : v ≠ .nil) : nnO v = some v := by
 cases v <;> first | exact absurd rfl h | rfl
theorem nnO_ne {v w : AV} (h : nnO w = some v) : v ≠ .nil := by
 intro e
 subst e
 cases w <;> first | exact nomatch h | cases Option.some.inj h
noncomputable def FT.get (t : FT) : Pth → Option AV := FT.rec (motive := fun V => Pth → Option AV) (fun V => none) (fun v V V l r p => Pth.rec (motive := fun V => Option AV) (nnO v) (fun p V => l p) (fun p V => r p) p) t
theorem FT.getK_some {t : FT} : ∀ {p : Pth} {k : AV → B}, t.getK p k = true → Ex (fun v => t.get p = some v) k := by
 induction t with
 | nil => exact fun h => ff h
 | node v l r g1 g2 =>
  intro p k h
  cases p with
  | e => exact let ⟨a, b⟩ := nnK_e h; ⟨v, a, b⟩
  | l p => exact g1 h
  | r p => exact g2 h
theorem FT.get_ne_nil {t : FT} : ∀ {p : Pth} {v : AV}, t.get p = some v → v ≠ .nil := by
 induction t with
 | nil => exact fun h => nomatch h
 | node v l r g1 g2 =>
  intro p w h
  cases p with
  | e => exact nnO_ne h
  | l p => exact g1 h
  | r p => exact g2 h
theorem FT.get_nil (p : Pth) : FT.nil.get p = none := rfl
theorem FT.setK_some (p : Pth) : ∀ {t : FT} {v : AV} {k : FT → B}, FT.setK p t v k = true → v ≠ .nil → SetR FT.get t p v k := by
 induction p with
 | e =>
  intro t v k h hv
  cases t with
  | nil => exact ⟨_, h, nnO_of hv, fun q hq => by cases q <;> first | exact absurd rfl hq | rfl⟩
  | node => exact ⟨_, h, nnO_of hv, fun q hq => by cases q <;> first | exact absurd rfl hq | rfl⟩
 | l p ih =>
  intro t v k h hv
  cases t with
  | nil =>
   obtain ⟨t', h1, h2, h3⟩ := ih h hv
   exact ⟨_, h1, h2, fun q hq => by cases q with
    | l q => exact h3 q fun e => hq (congrArg _ e)
    | _ => rfl⟩
  | node =>
   obtain ⟨t', h1, h2, h3⟩ := ih h hv
   exact ⟨_, h1, h2, fun q hq => by cases q with
    | l q => exact h3 q fun e => hq (congrArg _ e)
    | _ => rfl⟩
 | r p ih =>
  intro t v k h hv
  cases t with
  | nil =>
   obtain ⟨t', h1, h2, h3⟩ := ih h hv
   exact ⟨_, h1, h2, fun q hq => by cases q with
    | r q => exact h3 q fun e => hq (congrArg _ e)
    | _ => rfl⟩
  | node =>
   obtain ⟨t', h1, h2, h3⟩ := ih h hv
   exact ⟨_, h1, h2, fun q hq => by cases q with
    | r q => exact h3 q fun e => hq (congrArg _ e)
    | _ => rfl⟩
noncomputable def HT.get (t : HT) : Pth → Option AO := HT.rec (motive := fun V => Pth → Option AO) (fun V => none) (fun V V l r p => Pth.rec (motive := fun V => Option AO) none (fun p V => l p) (fun p V => r p) p)
 (fun v V V l r p => Pth.rec (motive := fun V => Option AO) (some v) (fun p V => l p) (fun p V => r p) p) t
theorem HT.getK_some {t : HT} : ∀ {p : Pth} {k : AO → B}, t.getK p k = true → Ex (fun v => t.get p = some v) k := by
 induction t with
 | nil => exact fun h => ff h
 | hole l r g1 g2 =>
  intro p k h
  cases p with
  | e => exact ff h
  | l p => exact g1 h
  | r p => exact g2 h
 | node v l r g1 g2 =>
  intro p k h
  cases p with
  | e => exact ⟨v, rfl, h⟩
  | l p => exact g1 h
  | r p => exact g2 h
theorem HT.get_nil (p : Pth) : HT.nil.get p = none := rfl
theorem HT.setK_eq (o : AO) (p : Pth) : ∀ {t : HT}, ∃ t', (∀ k, HT.setK p t o k = k t') ∧ t'.get p = some o ∧ ∀ q, q ≠ p → t'.get q = t.get q := by
 induction p with
 | e =>
  intro t
  cases t <;> exact ⟨_, fun V => rfl, rfl, fun q hq => by cases q <;> first | exact absurd rfl hq | rfl⟩
 | l p ih =>
  intro t
  cases t with
  | nil => exact let ⟨t', h1, h2, h3⟩ := ih (t := .nil); ⟨_, fun k => h1 _, h2, fun q hq => by cases q with
   | l q => exact h3 q fun e => hq (congrArg _ e)
   | _ => rfl⟩
  | hole l r => exact let ⟨t', h1, h2, h3⟩ := ih (t := l); ⟨_, fun k => h1 _, h2, fun q hq => by cases q with
   | l q => exact h3 q fun e => hq (congrArg _ e)
   | _ => rfl⟩
  | node v l r => exact let ⟨t', h1, h2, h3⟩ := ih (t := l); ⟨_, fun k => h1 _, h2, fun q hq => by cases q with
   | l q => exact h3 q fun e => hq (congrArg _ e)
   | _ => rfl⟩
 | r p ih =>
  intro t
  cases t with
  | nil => exact let ⟨t', h1, h2, h3⟩ := ih (t := .nil); ⟨_, fun k => h1 _, h2, fun q hq => by cases q with
   | r q => exact h3 q fun e => hq (congrArg _ e)
   | _ => rfl⟩
  | hole l r => exact let ⟨t', h1, h2, h3⟩ := ih (t := r); ⟨_, fun k => h1 _, h2, fun q hq => by cases q with
   | r q => exact h3 q fun e => hq (congrArg _ e)
   | _ => rfl⟩
  | node v l r => exact let ⟨t', h1, h2, h3⟩ := ih (t := r); ⟨_, fun k => h1 _, h2, fun q hq => by cases q with
   | r q => exact h3 q fun e => hq (congrArg _ e)
   | _ => rfl⟩
theorem HT.setK_some (p : Pth) {t : HT} {v : AO} {k : HT → B} (h : HT.setK p t v k = true) : SetR HT.get t p v k :=
 let ⟨t', h1, h2, h3⟩ := HT.setK_eq v p (t := t); ⟨t', (h1 k).symm.trans h, h2, h3⟩
theorem Pth.succK_some {p : Pth} : ∀ {k : Pth → B}, p.succK k = true → k p.succ = true := by
 induction p with
 | e => exact fun h => h
 | l => exact fun h => h
 | r p ih => exact fun h => ih h
noncomputable def pIdx : Pth → Nat
 | .e => 0
 | .l p => Nat.succ (Nat.mul 2 (pIdx p))
 | .r p => Nat.succ (Nat.succ (Nat.mul 2 (pIdx p)))
theorem pIdx_inj : ∀ {p q : Pth}, pIdx p = pIdx q → p = q
 | .e, .e, _ => rfl
 | .e, .l q, h => by simp only [pIdx] at h; omega
 | .e, .r q, h => by simp only [pIdx] at h; omega
 | .l p, .e, h => by simp only [pIdx] at h; omega
 | .r p, .e, h => by simp only [pIdx] at h; omega
 | .l p, .l q, h => by
  simp only [pIdx, Nat.mul_eq] at h
  rw [pIdx_inj (p := p) (q := q) (by omega)]
 | .r p, .r q, h => by
  simp only [pIdx, Nat.mul_eq] at h
  rw [pIdx_inj (p := p) (q := q) (by omega)]
 | .l p, .r q, h => by simp only [pIdx, Nat.mul_eq] at h; omega
 | .r p, .l q, h => by simp only [pIdx, Nat.mul_eq] at h; omega
theorem pIdx_succ : ∀ p : Pth, pIdx p.succ = pIdx p + 1
 | .e => rfl
 | .l p => rfl
 | .r p => by simp only [Pth.succ, pIdx, Nat.mul_eq, pIdx_succ p]; omega
theorem ifB_e {b t f : B} (h : ifB b t f = true) : (b = true ∧ t = true) ∨ (b = false ∧ f = true) := by
 cases b with
 | true => exact .inl ⟨rfl, h⟩
 | false => exact .inr ⟨rfl, h⟩
noncomputable def Loc.get (l : Loc) (n : Nat) : Option AV := Loc.rec (motive := fun V => Option AV) none (fun m v V g => Bool.rec (motive := fun V => Option AV) g (some v) (Nat.beq m n)) l
theorem Loc.get_same {m : Nat} {v : AV} {r : Loc} : (Loc.cons m v r).get m = some v := by
 show Bool.rec (motive := fun V => Option AV) (r.get m) (some v) (Nat.beq m m) = some v
 rw [Nat.beq_refl]
theorem Loc.get_other {m n : Nat} {v : AV} {r : Loc} (h : n ≠ m) : (Loc.cons m v r).get n = r.get n := by
 show Bool.rec (motive := fun V => Option AV) (r.get n) (some v) (Nat.beq m n) = r.get n
 cases e : Nat.beq m n with
 | true => exact absurd (Nat.eq_of_beq_eq_true e).symm h
 | false => rfl
theorem Loc.getK_some {l : Loc} {n : Nat} {k : AV → B} (h : l.getK n k = true) : Ex (fun v => l.get n = some v) k := by
 induction l with
 | nil => exact ff h
 | cons m v r ih =>
  rcases ifB_e h with ⟨e, g⟩ | ⟨e, g⟩
  · cases Nat.eq_of_beq_eq_true e
    exact ⟨v, Loc.get_same, g⟩
  · obtain ⟨w, h1, h2⟩ := ih g
    exact ⟨w, (Loc.get_other (Ne.symm (Nat.ne_of_beq_eq_false e))).trans h1, h2⟩
theorem Loc.setK_some {l : Loc} {n : Nat} {v : AV} : ∀ {k : Loc → B}, l.setK n v k = true → SetR Loc.get l n v k := by
 induction l with
 | nil => exact fun h => ⟨_, h, Loc.get_same, fun m hm => Loc.get_other hm⟩
 | cons m' v' r ih =>
  intro k h
  rcases ifB_e h with ⟨e, g⟩ | ⟨e, g⟩
  · cases Nat.eq_of_beq_eq_true e
    exact ⟨_, g, Loc.get_same, fun m hm => (Loc.get_other hm).trans (Loc.get_other hm).symm⟩
  · obtain ⟨l', h1, h2, h3⟩ := ih g
    refine ⟨_, h1, (Loc.get_other (Ne.symm (Nat.ne_of_beq_eq_false e))).trans h2, fun m hm => ?_⟩
    by_cases q : m = m'
    · subst q; exact Loc.get_same.trans Loc.get_same.symm
    · exact (Loc.get_other q).trans ((h3 m hm).trans (Loc.get_other q).symm)
end Mst
end
section
namespace Mst
open PySem PySem.W PyProof.Rows PySem.Calls
structure Gl where
 prog : Program
 w : World
 H0 : Heap
 K : Frag
 nC : Nat
 nmV : Nat → Str
 nmA : Nat → Str
 nmS : Nat → Str
 ν : Nat → Int
 kdA : Nat → Addr
 T : Tabs
 clA : Nat → Addr
 fnA : Nat → Addr
noncomputable def AI.val (ν : Nat → Int) : AI → Int
 | .lit i => i
 | .sym k => ν k
abbrev Rh := Pth → Option (Addr × Addr)
inductive BRel (ν : Nat → Int) : AV → List UInt8 → Prop
 | nil : BRel ν .nil []
 | cons {i : AI} {u : UInt8} {l : AV} {us : List UInt8} : i.val ν = (u.toNat : Int) → BRel ν l us → BRel ν (.cons (.int i) l) (u :: us)
inductive IRel (ν : Nat → Int) : AV → List Value → Prop
 | nil : IRel ν .nil []
 | cons {i : AI} {t : Tok} {l : AV} {vs : List Value} : IRel ν l vs → IRel ν (.cons (.int i) l) (.int (i.val ν) t :: vs)
abbrev tupO (vs : List Value) : Obj := { cls := .type "tuple", data := .seq vs.toArray }
inductive VR (G : Gl) (ρ : Rh) (h : Heap) : AV → Value ⊕ List Value → Prop
 | none : VR G ρ h .none (.inl .none)
 | bool {b : Bool} : VR G ρ h (.bool b) (.inl (.bool b))
 | int {i : AI} {t : Tok} : VR G ρ h (.int i) (.inl (.int (i.val G.ν) t))
 | str {n : Nat} {t : Tok} : VR G ρ h (.str n) (.inl (.str (G.nmS n) t))
 | byt {l : AV} {b : Array UInt8} {t : Tok} : BRel G.ν l b.toList → b.size ≤ 65536 → VR G ρ h (.byt l) (.inl (.bytes b t))
 | ref {p : Pth} {a d : Addr} : ρ p = some (a, d) → VR G ρ h (.ref p) (.inl (.ref a))
 | kd {k : Nat} : VR G ρ h (.kd k) (.inl (.ref (G.kdA k)))
 | tup {l : AV} {a : Addr} {vs : List Value} : h.get? a = some (tupO vs) → VR G ρ h l (.inr vs) → vs.length ≤ 65536 → VR G ρ h (.tup l) (.inl (.ref a))
 | frl {l : AV} {a : Addr} {vs : List Value} {n : Nat} : G.H0.get? a = some (listOf vs.toArray n) → IRel G.ν l vs → vs.length ≤ 65536 → VR G ρ h (.frl l) (.inl (.ref a))
 | nil : VR G ρ h .nil (.inr [])
 | cons {a l : AV} {v : Value} {vs : List Value} : VR G ρ h a (.inl v) → VR G ρ h l (.inr vs) → VR G ρ h (.cons a l) (.inr (v :: vs))
abbrev V1 (G : Gl) (ρ : Rh) (h : Heap) (a : AV) (v : Value) : Prop := VR G ρ h a (.inl v)
abbrev V2 (G : Gl) (ρ : Rh) (h : Heap) (a : AV) (v : List Value) : Prop := VR G ρ h a (.inr v)
inductive RefI (ρ : Rh) (p : Pth) (v : Value) : Prop
 | mk (a d : Addr) : v = .ref a → ρ p = some (a, d) → RefI ρ p v
inductive TupI (G : Gl) (ρ : Rh) (h : Heap) (l : AV) (v : Value) : Prop
 | mk (a : Addr) (vs : List Value) : v = .ref a → h.get? a = some (tupO vs) → V2 G ρ h l vs → vs.length ≤ 65536 → TupI G ρ h l v
inductive BytI (G : Gl) (l : AV) (v : Value) : Prop
 | mk (b : Array UInt8) (t : Tok) : v = .bytes b t → BRel G.ν l b.toList → b.size ≤ 65536 → BytI G l v
inductive FrlI (G : Gl) (l : AV) (v : Value) : Prop
 | mk (a : Addr) (vs : List Value) (n : Nat) : v = .ref a → G.H0.get? a = some (listOf vs.toArray n) → IRel G.ν l vs → vs.length ≤ 65536 → FrlI G l v
inductive OneI (G : Gl) (ρ : Rh) (h : Heap) (a l : AV) (vs : List Value) : Prop
 | mk (v : Value) (r : List Value) : vs = v :: r → V1 G ρ h a v → V2 G ρ h l r → OneI G ρ h a l vs
inductive LstI (G : Gl) (ρ : Rh) (h : Heap) (a d : Addr) (l : AV) : Prop
 | mk (vs : List Value) (n : Nat) : d = a → h.get? a = some (listOf vs.toArray n) → V2 G ρ h l vs → vs.length ≤ 65536 → LstI G ρ h a d l
theorem IRel.v2 {G : Gl} {ρ : Rh} {h : Heap} {l : AV} {vs : List Value} (x : IRel G.ν l vs) : V2 G ρ h l vs := by
 induction x with
 | nil => exact .nil
 | cons _ ih => exact .cons .int ih
noncomputable def V1I (G : Gl) (ρ : Rh) (h : Heap) (a : AV) (v : Value) : Prop := AV.rec (motive := fun V => Prop) (v = .none) (fun b => v = .bool b) (fun i => ∃ t, v = .int (i.val G.ν) t) (fun n => ∃ t, v = .str (G.nmS n) t)
 (fun l V => BytI G l v) (fun p => RefI ρ p v) (fun k => v = .ref (G.kdA k)) (fun l V => TupI G ρ h l v) False (fun V V V V => False) (fun l V => FrlI G l v) a
noncomputable def V2I (G : Gl) (ρ : Rh) (h : Heap) (a : AV) (vs : List Value) : Prop := AV.rec (motive := fun V => Prop) False (fun V => False) (fun V => False) (fun V => False) (fun V V => False) (fun V => False) (fun V => False) (fun V V => False)
 (vs = []) (fun a l V V => OneI G ρ h a l vs) (fun V V => False) a
theorem VR.inv {G : Gl} {ρ : Rh} {h : Heap} {a : AV} {x : Value ⊕ List Value} (y : VR G ρ h a x) : Sum.rec (motive := fun V => Prop) (V1I G ρ h a) (V2I G ρ h a) x := by
 cases y with
 | none => exact rfl
 | bool => exact rfl
 | int => exact ⟨_, rfl⟩
 | str => exact ⟨_, rfl⟩
 | byt a b => exact ⟨_, _, rfl, a, b⟩
 | ref a => exact ⟨_, _, rfl, a⟩
 | kd => exact rfl
 | tup a b c => exact ⟨_, _, rfl, a, b, c⟩
 | frl a b c => exact ⟨_, _, _, rfl, a, b, c⟩
 | nil => exact rfl
 | cons a b => exact ⟨_, _, rfl, a, b⟩
section
variable {G : Gl} {ρ : Rh} {h : Heap} {v : Value}
theorem V1.inv {a : AV} (x : V1 G ρ h a v) : V1I G ρ h a v := VR.inv x
theorem V2.inv {a : AV} {vs : List Value} (x : V2 G ρ h a vs) : V2I G ρ h a vs := VR.inv x
theorem V1.frl_inv {l : AV} (x : V1 G ρ h (.frl l) v) : FrlI G l v := x.inv
theorem V1.int_inv {i : AI} (x : V1 G ρ h (.int i) v) : ∃ t, v = .int (i.val G.ν) t := x.inv
theorem V1.none_inv (x : V1 G ρ h .none v) : v = .none := x.inv
theorem V1.bool_inv {b : Bool} (x : V1 G ρ h (.bool b) v) : v = .bool b := x.inv
theorem V1.str_inv {n : Nat} (x : V1 G ρ h (.str n) v) : ∃ t, v = .str (G.nmS n) t := x.inv
theorem V1.kd_inv {n : Nat} (x : V1 G ρ h (.kd n) v) : v = .ref (G.kdA n) := x.inv
theorem V1.tup_inv {l : AV} (x : V1 G ρ h (.tup l) v) : TupI G ρ h l v := x.inv
theorem V1.byt_inv {l : AV} (x : V1 G ρ h (.byt l) v) : BytI G l v := x.inv
theorem V1.ref_inv {p : Pth} (x : V1 G ρ h (.ref p) v) : RefI ρ p v := x.inv
end
noncomputable def Mut (ρ : Rh) (b : Addr) : Prop := ∃ p a, ρ p = some (a, b)
noncomputable def Rle (ρ ρ' : Rh) : Prop := ∀ p x, ρ p = some x → ρ' p = some x
theorem Rle.refl (ρ : Rh) : Rle ρ ρ := fun V V h => h
theorem Rle.trans {a b c : Rh} (x : Rle a b) (y : Rle b c) : Rle a c := fun p v h => y p v (x p v h)
noncomputable def Tups (h h' : Heap) : Prop := ∀ a vs, h.get? a = some (tupO vs) → h'.get? a = some (tupO vs)
theorem VR.mono {G : Gl} {ρ ρ' : Rh} {h h' : Heap} (r : Rle ρ ρ') (t : Tups h h') {a : AV} {x : Value ⊕ List Value} (v : VR G ρ h a x) : VR G ρ' h' a x := by
 induction v with
 | none => exact .none
 | bool => exact .bool
 | int => exact .int
 | str => exact .str
 | byt b z => exact .byt b z
 | ref e => exact .ref (r _ _ e)
 | kd => exact .kd
 | tup e _ z ih => exact .tup (t _ _ e) ih z
 | frl e i z => exact .frl e i z
 | nil => exact .nil
 | cons _ _ i1 i2 => exact .cons i1 i2
inductive DI (G : Gl) (ρ : Rh) (h : Heap) : AV → List (Int × Value) → Prop
 | nil : DI G ρ h .nil []
 | cons {i : Int} {a l : AV} {v : Value} {kvs : List (Int × Value)} : V1 G ρ h a v → DI G ρ h l kvs → DI G ρ h (.cons (.cons (.int (.lit i)) a) l) ((i, v) :: kvs)
inductive DS (G : Gl) (ρ : Rh) (h : Heap) : AV → List (Str × Value) → Prop
 | nil : DS G ρ h .nil []
 | cons {n : Nat} {a l : AV} {v : Value} {kvs : List (Str × Value)} : V1 G ρ h a v → DS G ρ h l kvs → DS G ρ h (.cons (.cons (.str n) a) l) ((G.nmS n, v) :: kvs)
inductive LR {α : Type} (P : AV → α → Prop) : AV → List α → Prop
 | nil : LR P .nil []
 | cons {a l : AV} {x : α} {xs : List α} : P a x → LR P l xs → LR P (.cons a l) (x :: xs)
inductive DrI {α : Type} (P : AV → α → Prop) (xs : List α) (i : Nat) (k : AV → B) : Prop
 | mk (a : AV) (x : α) : xs[i]? = some x → P a x → k a = true → DrI P xs i k
inductive SnR {α : Type} (P : AV → α → Prop) (xs : List α) (z : Nat) (w : α) (k : AV → B) : Prop
 | mk (r : AV) : LR P r (xs.set z w) → z < xs.length → k r = true → SnR P xs z w k
section
variable {α : Type} {P : AV → α → Prop} {l m : AV} {xs ys : List α}
theorem LR.len (x : LR P l xs) : ∀ {n : Nat} {k : Nat → B}, lenV l n k = true → k (n + xs.length) = true := by
 induction x with
 | nil => exact fun e => e
 | cons _ _ ih =>
  intro n k e
  have := ih (n := Nat.succ n) e
  rw [Nat.succ_add] at this
  exact this
theorem LR.app (x : LR P l xs) (y : LR P m ys) : ∀ {k : AV → B}, appV l m k = true → Ex (fun r => LR P r (xs ++ ys)) k := by
 induction x with
 | nil => exact fun e => ⟨m, y, e⟩
 | cons a _ ih => exact fun e => let ⟨r, hr, hk⟩ := ih e; ⟨_, .cons a hr, hk⟩
theorem LR.nth (x : LR P l xs) {e : B} {k : AV → B} : ∀ {i : Nat}, dropK l i e k = true → (xs[i]? = none ∧ e = true) ∨ DrI P xs i k := by
 induction x with
 | nil => exact fun hk => .inl ⟨rfl, hk⟩
 | cons a _ ih =>
  intro i hk
  cases i with
  | zero => exact .inr ⟨_, _, rfl, a, hk⟩
  | succ i =>
   rcases ih hk with h | ⟨b, v, h1, h2, h3⟩
   · exact .inl h
   · exact .inr ⟨b, v, h1, h2, h3⟩
theorem LR.skip (x : LR P l xs) {k : AV → B} : ∀ {j : Nat}, skipV l j k = true → Ex (fun r => LR P r (xs.drop j)) k := by
 induction x with
 | nil => exact fun hk => ⟨.nil, by rw [List.drop_nil]; exact .nil, hk⟩
 | cons a b ih =>
  intro j hk
  cases j with
  | zero => exact ⟨_, .cons a b, hk⟩
  | succ j => exact ih hk
theorem LR.take (x : LR P l xs) : ∀ {j : Nat} {k : AV → B}, takeV l j k = true → Ex (fun r => LR P r (xs.take j)) k := by
 induction x with
 | nil => exact fun hk => ⟨.nil, by rw [List.take_nil]; exact .nil, hk⟩
 | cons a b ih =>
  intro j k hk
  cases j with
  | zero => exact ⟨_, .nil, hk⟩
  | succ j => exact let ⟨r, hr, hk⟩ := ih hk; ⟨_, .cons a hr, hk⟩
theorem LR.set (x : LR P l xs) {v : AV} {w : α} (hv : P v w) : ∀ {z : Nat} {k : AV → B}, setN l z v k = true → SnR P xs z w k := by
 induction x with
 | nil => exact fun hk => ff hk
 | cons a b ih =>
  intro z k hk
  cases z with
  | zero => exact ⟨_, .cons hv b, Nat.zero_lt_succ _, hk⟩
  | succ z => exact let ⟨r, h1, h2, h3⟩ := ih hk; ⟨_, .cons a h1, Nat.succ_lt_succ h2, h3⟩
end
inductive BP (ν : Nat → Int) : AV → UInt8 → Prop
 | mk {i : AI} {u : UInt8} : i.val ν = (u.toNat : Int) → BP ν (.int i) u
inductive DP (G : Gl) (ρ : Rh) (h : Heap) {K : Type} (P : AV → K → Prop) : AV → K × Value → Prop
 | mk {q a : AV} {i : K} {v : Value} : P q i → V1 G ρ h a v → DP G ρ h P (.cons q a) (i, v)
noncomputable def PI (q : AV) (i : Int) : Prop := q = .int (.lit i)
noncomputable def PS (G : Gl) (q : AV) (s : Str) : Prop := ∃ n, q = .str n ∧ s = G.nmS n
section
variable {G : Gl} {ρ : Rh} {h : Heap}
theorem VR.lr {a : AV} {x : Value ⊕ List Value} (y : VR G ρ h a x) : Sum.rec (motive := fun V => Prop) (fun V => True) (LR (V1 G ρ h) a) x := by
 induction y with
 | nil => exact .nil
 | cons a _ _ ih => exact .cons a ih
 | _ => exact trivial
theorem V2.lr {vs : List Value} {l : AV} (x : V2 G ρ h l vs) : LR (V1 G ρ h) l vs := VR.lr x
theorem LR.v2 {vs : List Value} {l : AV} (x : LR (V1 G ρ h) l vs) : V2 G ρ h l vs := by
 induction x with
 | nil => exact .nil
 | cons a _ ih => exact .cons a ih
theorem BRel.lr {ν : Nat → Int} {l : AV} {us : List UInt8} (x : BRel ν l us) : LR (BP ν) l us := by
 induction x with
 | nil => exact .nil
 | cons a _ ih => exact .cons ⟨a⟩ ih
theorem LR.br {ν : Nat → Int} {l : AV} {us : List UInt8} (x : LR (BP ν) l us) : BRel ν l us := by
 induction x with
 | nil => exact .nil
 | cons a _ ih => cases a with | mk a => exact .cons a ih
theorem DI.lr {kvs : List (Int × Value)} {l : AV} (x : DI G ρ h l kvs) : LR (DP G ρ h PI) l kvs := by
 induction x with
 | nil => exact .nil
 | cons a _ ih => exact .cons ⟨rfl, a⟩ ih
theorem DS.lr {kvs : List (Str × Value)} {l : AV} (x : DS G ρ h l kvs) : LR (DP G ρ h (PS G)) l kvs := by
 induction x with
 | nil => exact .nil
 | cons a _ ih => exact .cons ⟨⟨_, rfl, rfl⟩, a⟩ ih
theorem LR.di {kvs : List (Int × Value)} {l : AV} (x : LR (DP G ρ h PI) l kvs) : DI G ρ h l kvs := by
 induction x with
 | nil => exact .nil
 | cons a _ ih =>
  obtain ⟨a, b⟩ := a
  cases a
  exact .cons b ih
theorem LR.ds {kvs : List (Str × Value)} {l : AV} (x : LR (DP G ρ h (PS G)) l kvs) : DS G ρ h l kvs := by
 induction x with
 | nil => exact .nil
 | cons a _ ih =>
  obtain ⟨⟨_, rfl, rfl⟩, b⟩ := a
  exact .cons b ih
end
theorem DI.mono {G : Gl} {ρ ρ' : Rh} {h h' : Heap} (r : Rle ρ ρ') (t : Tups h h') {a : AV} {x : List (Int × Value)} (v : DI G ρ h a x) : DI G ρ' h' a x := by
 induction v with
 | nil => exact .nil
 | cons e _ ih => exact .cons (e.mono r t) ih
theorem DS.mono {G : Gl} {ρ ρ' : Rh} {h h' : Heap} (r : Rle ρ ρ') (t : Tups h h') {a : AV} {x : List (Str × Value)} (v : DS G ρ h a x) : DS G ρ' h' a x := by
 induction v with
 | nil => exact .nil
 | cons e _ ih => exact .cons (e.mono r t) ih
noncomputable def FR (G : Gl) (ρ : Rh) (h : Heap) (f : FT) (es : List DictEntry) : Prop :=
 ∀ p, match f.get p with
  | some a => ∃ v, getL (G.nmA (pIdx p)) es = some (some v) ∧ V1 G ρ h a v
  | none => getL (G.nmA (pIdx p)) es = some none
theorem FR.mono {G : Gl} {ρ ρ' : Rh} {h h' : Heap} (r : Rle ρ ρ') (t : Tups h h') {f : FT} {es : List DictEntry} (x : FR G ρ h f es) : FR G ρ' h' f es := by
 intro p
 have y := x p
 cases q : f.get p with
 | none => rw [q] at y; exact y
 | some a =>
  rw [q] at y
  obtain ⟨v, e, z⟩ := y
  exact ⟨v, e, z.mono r t⟩
noncomputable def FldOk (G : Gl) (c : Nat) (a : Pth) : Prop := findIn G.K (.ref (G.clA c)) (G.nmA (pIdx a)) = some none
noncomputable def Cnt (f : FT) (k : Nat) : Prop := ∃ ns : List Nat, ns.Nodup ∧ (∀ n ∈ ns, n < 500 ∧ ∃ p, pIdx p = n ∧ f.get p ≠ none) ∧ k ≤ ns.length
theorem nodup_lt : ∀ (N : Nat) (ns : List Nat), ns.Nodup → (∀ n ∈ ns, n < N) → ns.length ≤ N
 | 0, [], _, _ => Nat.le_refl _
 | 0, n :: _, _, h => absurd (h n List.mem_cons_self) (Nat.not_lt_zero _)
 | N + 1, ns, nd, h => by
  have h1 : (ns.filter (· ≠ N)).length ≤ N := nodup_lt N _ (nd.sublist List.filter_sublist) fun n hn => by
   obtain ⟨a, b⟩ := List.mem_filter.mp hn
   have := h n a
   have : n ≠ N := by simpa using b
   omega
  have h2 : ns.length ≤ (ns.filter (· ≠ N)).length + 1 := by
   clear h h1
   induction ns with
   | nil => exact Nat.zero_le _
   | cons a r ih =>
    rw [List.nodup_cons] at nd
    by_cases q : a = N
    · subst q
      rw [List.filter_cons_of_neg (by simp)]
      have : r.filter (· ≠ a) = r := List.filter_eq_self.mpr fun x hx => by
       simp only [ne_eq, decide_not, Bool.not_eq_eq_eq_not, Bool.not_true, decide_eq_false_iff_not]
       intro e; exact nd.1 (e ▸ hx)
      rw [this]; exact Nat.le_refl _
    · rw [List.filter_cons_of_pos (by simpa using q), List.length_cons, List.length_cons]
      have := ih nd.2
      omega
  omega
theorem Cnt.le {f : FT} {k : Nat} (h : Cnt f k) : k ≤ 500 := by
 obtain ⟨ns, nd, h1, h2⟩ := h
 have := nodup_lt 500 ns nd fun n hn => (h1 n hn).1
 omega
theorem Cnt.same {f f' : FT} {k : Nat} (h : Cnt f k) (e : ∀ q, f.get q ≠ none → f'.get q ≠ none) : Cnt f' k := by
 obtain ⟨ns, nd, h1, h2⟩ := h
 exact ⟨ns, nd, fun n hn => ⟨(h1 n hn).1, let ⟨p, a, b⟩ := (h1 n hn).2; ⟨p, a, e p b⟩⟩, h2⟩
theorem Cnt.more {f f' : FT} {k : Nat} {p : Pth} (h : Cnt f k) (e : ∀ q, f.get q ≠ none → f'.get q ≠ none) (h0 : f.get p = none) (h1 : f'.get p ≠ none) (hp : pIdx p < 500) : Cnt f' (k + 1) := by
 obtain ⟨ns, nd, h2, h3⟩ := h
 refine ⟨pIdx p :: ns, List.nodup_cons.mpr ⟨fun hm => ?_, nd⟩, fun n hn => ?_, by rw [List.length_cons]; omega⟩
 · obtain ⟨q, a, b⟩ := (h2 _ hm).2
   rw [pIdx_inj a, h0] at b; exact b rfl
 · rcases List.mem_cons.mp hn with rfl | hn
   · exact ⟨hp, p, rfl, h1⟩
   · exact ⟨(h2 n hn).1, let ⟨q, a, b⟩ := (h2 n hn).2; ⟨q, a, e q b⟩⟩
inductive OR (G : Gl) (ρ : Rh) (h : Heap) (a d : Addr) : AO → Prop
 | list {l : AV} {vs : List Value} {n : Nat} : d = a → h.get? a = some (listOf vs.toArray n) → V2 G ρ h l vs → vs.length ≤ 65536 → OR G ρ h a d (.list l)
 | dictI {l : AV} {o : Obj} {kvs : List (Int × Value)} : d = a → h.get? a = some o → o.IsDictOf (intKind G.prog G.w) kvs → DI G ρ h l kvs → kvs.length ≤ 65536 → (a == sysModules) = false → OR G ρ h a d (.dict l)
 | dictS {l : AV} {o : Obj} {kvs : List (Str × Value)} : d = a → h.get? a = some o → o.IsDictOf (strKind G.prog G.w) kvs → DS G ρ h l kvs → kvs.length ≤ 65536 → (a == sysModules) = false → OR G ρ h a d (.dict l)
 | inst {c : Nat} {f : FT} {es : List DictEntry} {n : Nat} : c < G.nC → h.get? a = some (instObj (G.clA c) d) → h.get? d = some (dictOf es n) → FR G ρ h f es → Cnt f es.length → (∀ p, f.get p ≠ none → FldOk G c p) → OR G ρ h a d (.inst c f)
 | range {x y z : Int} {t u v : Tok} : d = a → IsRange h a x y z t u v → OR G ρ h a d (.range x y z)
inductive DctI (G : Gl) (ρ : Rh) (h : Heap) (a d : Addr) (l : AV) : Prop
 | int (o : Obj) (kvs : List (Int × Value)) : d = a → h.get? a = some o → o.IsDictOf (intKind G.prog G.w) kvs → DI G ρ h l kvs → kvs.length ≤ 65536 → (a == sysModules) = false → DctI G ρ h a d l
 | str (o : Obj) (kvs : List (Str × Value)) : d = a → h.get? a = some o → o.IsDictOf (strKind G.prog G.w) kvs → DS G ρ h l kvs → kvs.length ≤ 65536 → (a == sysModules) = false → DctI G ρ h a d l
inductive InsI (G : Gl) (ρ : Rh) (h : Heap) (a d : Addr) (c : Nat) (f : FT) : Prop
 | mk (es : List DictEntry) (n : Nat) : c < G.nC → h.get? a = some (instObj (G.clA c) d) → h.get? d = some (dictOf es n) → FR G ρ h f es → Cnt f es.length → (∀ p, f.get p ≠ none → FldOk G c p) → InsI G ρ h a d c f
theorem OR.inv {G : Gl} {ρ : Rh} {h : Heap} {a d : Addr} {o : AO} (x : OR G ρ h a d o) : AO.rec (motive := fun V => Prop) (LstI G ρ h a d) (DctI G ρ h a d) (InsI G ρ h a d) (fun x y z => d = a ∧ ∃ t u v, IsRange h a x y z t u v) o := by
 cases x with
 | list a b c d => exact ⟨_, _, a, b, c, d⟩
 | dictI a b c d e f => exact .int _ _ a b c d e f
 | dictS a b c d e f => exact .str _ _ a b c d e f
 | inst a b c d e f => exact ⟨_, _, a, b, c, d, e, f⟩
 | range a b => exact ⟨a, _, _, _, b⟩
inductive ObI (G : Gl) (ρ : Rh) (h : Heap) (p : Pth) (o : AO) : Prop
 | mk (a d : Addr) : ρ p = some (a, d) → OR G ρ h a d o → ObI G ρ h p o
structure SR (G : Gl) (ρ : Rh) (s : St) (h : Heap) : Prop where
 base : ∀ b o, G.H0.get? b = some o → h.get? b = some o
 obj : ∀ p o, s.h.get p = some o → ObI G ρ h p o
 fresh : ∀ p x, ρ p = some x → pIdx p < pIdx s.n
 inj : ∀ p q a b d, ρ p = some (a, d) → ρ q = some (b, d) → p = q
 apart : ∀ p a d, ρ p = some (a, d) → G.H0.get? d = none ∧ G.H0.get? a = none
 live : ∀ p a d, ρ p = some (a, d) → ∃ o, h.get? d = some o
theorem SR.at {G : Gl} {ρ : Rh} {σ : St} {h : Heap} {p : Pth} {a d : Addr} {o : AO} (x : SR G ρ σ h) (hp : σ.h.get p = some o) (hr : ρ p = some (a, d)) : OR G ρ h a d o := by
 obtain ⟨a', d', h1, h2⟩ := x.obj p o hp
 have e := Option.some.inj (h1.symm.trans hr)
 have e1 : a' = a := congrArg Prod.fst e
 have e2 : d' = d := congrArg Prod.snd e
 exact e1 ▸ e2 ▸ h2
theorem OR.keeps {G : Gl} {ρ ρ' : Rh} {h h' : Heap} {a d : Addr} {o : AO} (r : Rle ρ ρ') (ka : ∀ o, h.get? a = some o → h'.get? a = some o) (kd : ∀ o, h.get? d = some o → h'.get? d = some o) (t : Tups h h') (x : OR G ρ h a d o) : OR G ρ' h' a d o := by
 cases x with
 | list e g v z => exact .list e (ka _ g) (v.mono r t) z
 | dictI e g i v z y => exact .dictI e (ka _ g) i (v.mono r t) z y
 | dictS e g i v z y => exact .dictS e (ka _ g) i (v.mono r t) z y
 | inst c g1 g2 f z k => exact .inst c (ka _ g1) (kd _ g2) (f.mono r t) z k
 | range e i => exact .range e (ka _ i)
theorem SR.keeps {G : Gl} {ρ : Rh} {s : St} {h h' : Heap} (x : SR G ρ s h) (k : ∀ b o, h.get? b = some o → h'.get? b = some o) : SR G ρ s h' :=
 ⟨fun b o e => k b o (x.base b o e), fun p o e => let ⟨a, d, h1, h2⟩ := x.obj p o e; ⟨a, d, h1, h2.keeps (Rle.refl ρ) (k a) (k d) fun b vs q => k b _ q⟩, x.fresh, x.inj, x.apart, fun p a d e => let ⟨o, ho⟩ := x.live p a d e; ⟨o, k d o ho⟩⟩
section
variable {G : Gl} {ρ : Rh} {h : Heap} {v : AV} {x : Value}
inductive BoolV (x : Value) (k : Bool → B) : Prop
 | mk (b : Bool) : x = .bool b → k b = true → BoolV x k
inductive IntV (ν : Nat → Int) (x : Value) (k : AI → B) : Prop
 | mk (i : AI) (t : Tok) : x = .int (i.val ν) t → k i = true → IntV ν x k
inductive LitV (x : Value) (k : Int → B) : Prop
 | mk (i : Int) (t : Tok) : x = .int i t → k i = true → LitV x k
inductive NatV (x : Value) (k : Nat → B) : Prop
 | mk (i : Nat) (t : Tok) : x = .int i t → k i = true → NatV x k
inductive StrV (G : Gl) (x : Value) (k : Nat → B) : Prop
 | mk (n : Nat) (t : Tok) : x = .str (G.nmS n) t → k n = true → StrV G x k
inductive BytV (G : Gl) (x : Value) (k : AV → B) : Prop
 | mk (l : AV) (b : Array UInt8) (t : Tok) : x = .bytes b t → BRel G.ν l b.toList → b.size ≤ 65536 → k l = true → BytV G x k
inductive TupV (G : Gl) (ρ : Rh) (h : Heap) (x : Value) (k : AV → B) : Prop
 | mk (l : AV) (a : Addr) (vs : List Value) : x = .ref a → h.get? a = some (tupO vs) → V2 G ρ h l vs → vs.length ≤ 65536 → k l = true → TupV G ρ h x k
inductive RefV (ρ : Rh) (x : Value) (k : Pth → B) : Prop
 | mk (p : Pth) (a d : Addr) : x = .ref a → ρ p = some (a, d) → k p = true → RefV ρ x k
inductive ObjV (G : Gl) (ρ : Rh) (h : Heap) (m : HT) (x : Value) (k : Pth → AO → B) : Prop
 | mk (p : Pth) (a d : Addr) (o : AO) : x = .ref a → ρ p = some (a, d) → m.get p = some o → OR G ρ h a d o → k p o = true → ObjV G ρ h m x k
inductive LstV (G : Gl) (ρ : Rh) (h : Heap) (m : HT) (x : Value) (k : Pth → AV → B) : Prop
 | mk (p : Pth) (a : Addr) (l : AV) (vs : List Value) (n : Nat) : x = .ref a → ρ p = some (a, a) → m.get p = some (.list l) → h.get? a = some (listOf vs.toArray n) → V2 G ρ h l vs → vs.length ≤ 65536 → k p l = true → LstV G ρ h m x k
inductive DctV (G : Gl) (ρ : Rh) (h : Heap) (m : HT) (x : Value) (k : Pth → AV → B) : Prop
 | mk (p : Pth) (a d : Addr) (l : AV) : x = .ref a → ρ p = some (a, d) → m.get p = some (.dict l) → OR G ρ h a d (.dict l) → k p l = true → DctV G ρ h m x k
inductive ConsV (G : Gl) (ρ : Rh) (h : Heap) (xs : List Value) (k : AV → AV → B) : Prop
 | mk (a l : AV) (x : Value) (r : List Value) : xs = x :: r → V1 G ρ h a x → V2 G ρ h l r → k a l = true → ConsV G ρ h xs k
inductive OneV (G : Gl) (ρ : Rh) (h : Heap) (xs : List Value) (k : AV → B) : Prop
 | mk (a : AV) (x : Value) : xs = [x] → V1 G ρ h a x → k a = true → OneV G ρ h xs k
inductive TwoV (G : Gl) (ρ : Rh) (h : Heap) (xs : List Value) (k : AV → AV → B) : Prop
 | mk (a b : AV) (x y : Value) : xs = [x, y] → V1 G ρ h a x → V1 G ρ h b y → k a b = true → TwoV G ρ h xs k
theorem V1.noneK {e : B} (w : V1 G ρ h v x) (hk : noneK v e = true) : x = .none ∧ e = true := by
 cases v <;> first | exact ff hk | exact ⟨w.none_inv, hk⟩
theorem V1.boolK {k : Bool → B} (w : V1 G ρ h v x) (hk : boolK v k = true) : BoolV x k := by
 cases v <;> first | exact ff hk | exact ⟨_, w.bool_inv, hk⟩
theorem V1.intK {k : AI → B} (w : V1 G ρ h v x) (hk : intK v k = true) : IntV G.ν x k := by
 cases v <;> first | exact ff hk | (obtain ⟨t, rfl⟩ := w.int_inv; exact ⟨_, t, rfl, hk⟩)
theorem V1.litK {k : Int → B} (w : V1 G ρ h v x) (hk : litK v k = true) : LitV x k := by
 obtain ⟨i, t, rfl, hk⟩ := w.intK hk
 cases i with
 | lit i => exact ⟨i, t, rfl, hk⟩
 | sym i => exact ff hk
theorem V1.natK {k : Nat → B} (w : V1 G ρ h v x) (hk : natK v k = true) : NatV x k := by
 obtain ⟨i, t, rfl, hk⟩ := w.litK hk
 cases i with
 | ofNat i => exact ⟨i, t, rfl, hk⟩
 | negSucc i => exact ff hk
theorem V1.strK {k : Nat → B} (w : V1 G ρ h v x) (hk : strK v k = true) : StrV G x k := by
 cases v <;> first | exact ff hk | (obtain ⟨t, rfl⟩ := w.str_inv; exact ⟨_, t, rfl, hk⟩)
theorem V1.bytK {k : AV → B} (w : V1 G ρ h v x) (hk : bytK v k = true) : BytV G x k := by
 cases v <;> first | exact ff hk | (obtain ⟨b, t, rfl, h1, h2⟩ := w.byt_inv; exact ⟨_, b, t, rfl, h1, h2, hk⟩)
theorem V1.tupK {k : AV → B} (w : V1 G ρ h v x) (hk : tupK v k = true) : TupV G ρ h x k := by
 cases v <;> first | exact ff hk | (obtain ⟨a, vs, rfl, h1, h2, h3⟩ := w.tup_inv; exact ⟨_, a, vs, rfl, h1, h2, h3, hk⟩)
theorem V1.refK {k : Pth → B} (w : V1 G ρ h v x) (hk : refK v k = true) : RefV ρ x k := by
 cases v <;> first | exact ff hk | (obtain ⟨a, d, rfl, h1⟩ := w.ref_inv; exact ⟨_, a, d, rfl, h1, hk⟩)
theorem V1.obK {σ : St} {k : Pth → AO → B} (w : V1 G ρ h v x) (X : SR G ρ σ h) (hk : Mst.refK v (fun p => σ.h.getK p fun o => k p o) = true) : ObjV G ρ h σ.h x k := by
 obtain ⟨p, a, d, rfl, r, hk⟩ := w.refK hk
 obtain ⟨o, ho, hk⟩ := HT.getK_some hk
 exact ⟨p, a, d, o, rfl, r, ho, X.at ho r, hk⟩
theorem V1.lsP {σ : St} {k : Pth → AV → B} (w : V1 G ρ h v x) (X : SR G ρ σ h) (hk : lsP σ.h v k = true) : LstV G ρ h σ.h x k := by
 obtain ⟨p, a, d, o, rfl, r, ho, hr, hk⟩ := w.obK X hk
 cases o with
 | list l =>
  obtain ⟨_, _, e, g, w, z⟩ := hr.inv
  cases e
  exact ⟨p, _, _, _, _, rfl, r, ho, g, w, z, hk⟩
 | _ => exact ff hk
theorem V1.dcP {σ : St} {k : Pth → AV → B} (w : V1 G ρ h v x) (X : SR G ρ σ h) (hk : dcP σ.h v k = true) : DctV G ρ h σ.h x k := by
 obtain ⟨p, a, d, o, rfl, r, ho, hr, hk⟩ := w.obK X hk
 cases o <;> first | exact ff hk | exact ⟨p, a, d, _, rfl, r, ho, hr, hk⟩
theorem V2.consK {xs : List Value} {k : AV → AV → B} (w : V2 G ρ h v xs) (hk : consK v k = true) : ConsV G ρ h xs k := by
 cases w.lr with
 | nil => exact ff hk
 | cons a r => exact ⟨_, _, _, _, rfl, a, r.v2, hk⟩
theorem V2.nilK {xs : List Value} {e : B} (w : V2 G ρ h v xs) (hk : nilK v e = true) : xs = [] ∧ e = true := by
 cases w.lr with
 | nil => exact ⟨rfl, hk⟩
 | cons a r => exact ff hk
theorem V2.oneK {xs : List Value} {k : AV → B} (w : V2 G ρ h v xs) (hk : oneK v k = true) : OneV G ρ h xs k := by
 obtain ⟨a, l, x, r, rfl, h1, h2, hk⟩ := w.consK hk
 obtain ⟨rfl, hk⟩ := h2.nilK hk
 exact ⟨a, x, rfl, h1, hk⟩
theorem V2.twoK {xs : List Value} {k : AV → AV → B} (w : V2 G ρ h v xs) (hk : twoK v k = true) : TwoV G ρ h xs k := by
 obtain ⟨a, l, x, r, rfl, h1, h2, hk⟩ := w.consK hk
 obtain ⟨b, y, rfl, h3, hk⟩ := h2.oneK hk
 exact ⟨a, b, x, y, rfl, h1, h3, hk⟩
inductive InsV (G : Gl) (ρ : Rh) (h : Heap) (m : HT) (x : Value) (k : Pth → Nat → FT → B) : Prop
 | mk (p : Pth) (a d : Addr) (c : Nat) (f : FT) : x = .ref a → ρ p = some (a, d) → m.get p = some (.inst c f) → InsI G ρ h a d c f → k p c f = true → InsV G ρ h m x k
theorem V1.inP {σ : St} {k : Pth → Nat → FT → B} (w : V1 G ρ h v x) (X : SR G ρ σ h) (hk : Mst.inP σ.h v k = true) : InsV G ρ h σ.h x k := by
 obtain ⟨p, a, d, o, rfl, r, ho, hr, hk⟩ := w.obK X hk
 cases o with
 | inst c f => exact ⟨p, a, d, c, f, rfl, r, ho, hr.inv, hk⟩
 | _ => exact ff hk
end
end Mst
end
section
namespace Mst
section
open PySem PySem.Sem
theorem wp_nsSetC (M : Model) (Γ : Ctx) (E : Value → Pos → Shared → Prop) (p : Pos) (s : Shared) {a : Addr} {m : Str → Option Value} (hn : s.heap.Ns a m) (name : Str) (v : Value) (Q : Unit → Pos → Shared → Prop)
 (hQ : ∀ h', h'.Ns a (fun x => if x = name then some v else m x) → Heap.SameBut a s.heap h' → (∀ o, s.heap.get? a = some o → ∃ o', h'.get? a = some o' ∧ o'.cls = o.cls) → Q () p { s with heap := h', toks := s.toks + 1 }) :
 wp M Γ (nsSet a name v) Q E p s := by
 obtain ⟨o, es, ep, ho, hd, hk, hm⟩ := hn
 simp only [nsSet, strHash, wp_bind', wp_cmd_ask, wp_pure', wp_cmd_mkText]
 rw [wp_loadPart_of M Γ E p { s with toks := s.toks + 1 } (o := o) _ ho]
 have hany : es.any (·.refKey) = false := by
  rw [Array.any_eq_false']; intro e he; obtain ⟨n, t, h⟩ := hk e he; simp [DictEntry.refKey, h]
 simp only [hd, aRefKeyMayBeTheName_at, hany, Bool.and_false, Bool.false_eq_true, if_false, wp_cmd_updatePart]
 refine ⟨by rw [ho]; rfl, hQ _ ?_ (Heap.SameBut.update ..) ?_⟩
 · obtain ⟨c, d, dt, sl⟩ := o
   subst hd
   cases hi : es.findIdx? (·.key.isStr name) with
   | some i =>
    refine ⟨_, _, ep, Heap.get?_update_self _ ho (by simp only [Obj.putName_eq, Obj.putNameByArray, hi]; rfl), by simp only [Obj.putName_eq, Obj.putNameByArray, hi]; rfl, hk.modify _ _, fun x => ?_⟩
    show _ = if x = name then some v else m x
    rw [← hm]; exact findBy_modify (fun n v => v.isStr n) Value.isStr_inj es name x v i hi
   | none =>
    refine ⟨_, _, ep + 1, Heap.get?_update_self _ ho (by simp only [Obj.putName_eq, Obj.putNameByArray, hi]; rfl), by simp only [Obj.putName_eq, Obj.putNameByArray, hi]; rfl, hk.push _ _ _ _, fun x => ?_⟩
    show _ = if x = name then some v else m x
    rw [← hm]
    exact findBy_push (fun n v => v.isStr n) es name x _ _ v (fun y => by
     show (name == y) = decide (y = name)
     by_cases h : y = name
     · subst h; simp
     · have : ¬ name = y := fun e => h e.symm
       simp [h, this]) hi
 · obtain ⟨c, d, dt, sl⟩ := o
   subst hd
   intro o' ho'
   rw [ho] at ho'; cases ho'
   cases hi : es.findIdx? (·.key.isStr name) with
   | some i => exact ⟨_, Heap.get?_update_self _ ho (by simp only [Obj.putName_eq, Obj.putNameByArray, hi]; rfl), by simp only [Obj.putName_eq, Obj.putNameByArray, hi]⟩
   | none => exact ⟨_, Heap.get?_update_self _ ho (by simp only [Obj.putName_eq, Obj.putNameByArray, hi]; rfl), by simp only [Obj.putName_eq, Obj.putNameByArray, hi]⟩
end
open PySem PySem.W PyProof.Rows
section
variable {M : Model} {A : Around} {E : Value → Shared → Prop} {s : Shared}
theorem nsSet_C {a : Addr} {m : PySem.Str → Option Value} {name : PySem.Str} {v : Value} {Q : Unit → Shared → Prop} (hn : s.heap.Ns a m)
 (h : ∀ h', h'.Ns a (fun x => if x = name then some v else m x) → Heap.SameBut a s.heap h' → (∀ o, s.heap.get? a = some o → ∃ o', h'.get? a = some o' ∧ o'.cls = o.cls) → Q () { s with heap := h', toks := s.toks + 1 }) :
 wpAny M A (nsSet a name v) Q E s := fun Γ p V => wp_nsSetC M Γ _ p s hn name v _ h
theorem storeName_C {env : Env} {name : PySem.Str} {m : PySem.Str → Option Value} {v : Value} {Q : Unit → Shared → Prop} (hl : env.kindOf name = some .local) (hn : s.heap.Ns env.locals m)
 (h : ∀ h', h'.Ns env.locals (fun x => if x = name then some v else m x) → Heap.SameBut env.locals s.heap h' → (∀ o, s.heap.get? env.locals = some o → ∃ o', h'.get? env.locals = some o' ∧ o'.cls = o.cls) →
  Q () { s with heap := h', toks := s.toks + 1 })
 (hp : (env.scope.kind == .class || (env.scope.kind == .module && env.locals != env.globals)) = false := by rfl) : wpAny M A (storeName env name v) Q E s := by
 rw [storeName_local hl hp]; exact nsSet_C hn h
end
noncomputable def IsFr (o : Obj) : Prop := o.cls = .type "frame" ∧ ∃ es ep, o.data = .dict es ep
section
variable {M : Model} {A : Around} {E : Value → Shared → Prop} {s₀ s : Shared} {m cm : PySem.Str → Option Value} {env : Env}
noncomputable def FrAt (h : Heap) (L : Addr) : Prop := ∃ o, h.get? L = some o ∧ o.cls = .type "frame"
theorem bindParams_C (f : PySem.Str × Value → PUnit → Sem (ForInStep PUnit)) (hf : ∀ n v u, f (n, v) u = (do storeName env n v; pure (.yield ⟨⟩))) (hk : env.scope.kind = .function) :
 ∀ (binds : List (PySem.Str × Value)) (m cm : PySem.Str → Option Value) (s : Shared) (Q : PUnit → Shared → Prop), InCallC s₀ env.locals m env.cells cm s → FrAt s.heap env.locals →
  (∀ x ∈ binds, env.kindOf x.1 = some .local ∨ (env.kindOf x.1 = some .cell ∧ (env.cells.lookup x.1).isSome = true)) →
  (∀ s', InCallC s₀ env.locals (bindL env.kindOf binds m) env.cells (bindC env.kindOf binds cm) s' → FrAt s'.heap env.locals → Q ⟨⟩ s') → wpAny M A (forIn binds ⟨⟩ f) Q E s
 | [], m, cm, s, Q, x, xf, _, h => by rw [List.forIn_nil]; exact wpAny_pure (h s x xf)
 | (n, v) :: r, m, cm, s, Q, x, xf, hkind, h => by
  rw [List.forIn_cons, hf]
  have hr : ∀ y ∈ r, env.kindOf y.1 = some .local ∨ (env.kindOf y.1 = some .cell ∧ (env.cells.lookup y.1).isSome = true) := fun y hy => hkind y (List.mem_cons_of_mem _ hy)
  rcases hkind (n, v) List.mem_cons_self with hl | ⟨hl, hc⟩
  · refine wpAny_bind (wpAny_bind ?_)
    refine storeName_C hl x.toInCall.ns (fun h' hn' hs' hcl => wpAny_pure (bindParams_C f hf hk r (fun y => if y = n then some v else m y) cm _ Q ⟨⟨?_, hn', fun b o e => ?_, x.toInCall.fresh⟩, fun k c hc => ?_, x.apart, x.above⟩ ?_ hr fun s'' x'' xf'' => h s'' ?_ xf'')) (by rw [hk]; rfl)
    · obtain ⟨h₁, tk, rfl⟩ := x.toInCall.same
      exact ⟨h', _, rfl⟩
    · exact hs'.extBut b o (Nat.ne_of_lt (Nat.lt_of_lt_of_le (Heap.lt_size e) x.toInCall.fresh)) (x.toInCall.keep b o e)
    · exact (x.cell k c hc).sameBut hs' (Nat.ne_of_gt (x.above k c (mem_of_lookup hc)))
    · obtain ⟨o, h1, h2⟩ := xf
      obtain ⟨o', h3, h4⟩ := hcl o h1
      exact ⟨o', h3, h4.trans h2⟩
    · unfold bindL bindC; rw [if_pos hl, if_pos hl]; exact x''
  · obtain ⟨c, hc⟩ := Option.isSome_iff_exists.mp hc
    have hnl : ¬ env.kindOf n = some .local := by rw [hl]; decide
    have hLc := x.above n c (mem_of_lookup hc)
    refine wpAny_bind (wpAny_bind ?_)
    refine wpAny_storeName_cell hk hl hc (x.cell n c hc) fun h' hc' hs' => wpAny_pure (bindParams_C f hf hk r m (fun y => if y = n then some v else cm y) _ Q
     ⟨⟨?_, x.toInCall.ns.sameBut hs' (Nat.ne_of_lt hLc), fun b o e => ?_, x.toInCall.fresh⟩, fun k c' hk' => ?_, x.apart, x.above⟩ ?_ hr fun s'' x'' xf'' => h s'' ?_ xf'')
    · obtain ⟨h₁, tk, rfl⟩ := x.toInCall.same
      exact ⟨h', _, rfl⟩
    · exact hs'.extBut b o (Nat.ne_of_lt (Nat.lt_trans (Nat.lt_of_lt_of_le (Heap.lt_size e) x.toInCall.fresh) hLc)) (x.toInCall.keep b o e)
    · by_cases hkn : k = n
      · subst hkn
        rw [hc] at hk'; cases hk'
        simpa using hc'
      · rw [if_neg hkn]
        exact (x.cell k c' hk').sameBut hs' fun e => hkn (name_of_addr x.apart (mem_of_lookup hk') (e ▸ mem_of_lookup hc))
    · obtain ⟨o, h1, h2⟩ := xf
      exact ⟨o, hs'.extBut _ _ (Nat.ne_of_lt hLc) h1, h2⟩
    · unfold bindL bindC; rw [if_neg hnl, if_neg hnl]; exact x''
end
section
variable {M : Model} {A : Around} {E : Value → Shared → Prop} {s : Shared}
theorem newFunctionEnv_C {scope : Scope} {globals : Addr} {binds : List (PySem.Str × Value)} {qual : PySem.Str} {func : Option Addr} {code : Value} {builtins : Addr} {Q : Env → Shared → Prop}
 (hk : scope.kind = .function)
 (hkind : ∀ x ∈ binds, scope.names.lookup x.1 = some .local ∨ (scope.names.lookup x.1 = some .cell ∧ ((cellsFrom (s.heap.objs.size + 1) scope.names []).lookup x.1).isSome = true))
 (hQ : ∀ env, env = newEnv scope s.heap.objs.size globals (cellsFrom (s.heap.objs.size + 1) scope.names []) qual func code none builtins →
  ∀ s', InCallC s env.locals (bindL env.kindOf binds fun V => none) env.cells (bindC env.kindOf binds fun V => none) s' → FrAt s'.heap env.locals → Q env s') :
 wpAny M A (newFunctionEnv scope globals [] binds qual func code none builtins) Q E s := by
 simp only [newFunctionEnv, Option.isSome_none, Bool.false_eq_true, if_false]
 refine wpAny_bind (wpAny_alloc ?_)
 refine wpAny_bind (wpAny_layCells _ (fun name kind cells => by cases hkc : kind == NameKind.cell <;> simp [hkc]) _ _ _ _ ?_)
 have ok := cellsFrom_ok scope.names (s.heap.push { cls := .type "frame", data := .dict #[] }) (s.heap.objs.size + 1) [] ⟨fun V V hm => (nomatch hm), List.Pairwise.nil⟩ (by rw [Heap.size_push]; exact Nat.le_refl _)
 rw [Heap.size_push] at ok
 rw [show ({ s with heap := s.heap.push { cls := .type "frame", data := .dict #[] } } : Shared).heap.objs.size = s.heap.objs.size + 1 from Heap.size_push ..]
 refine wpAny_bind (bindParams_C (s₀ := s) (env := newEnv scope s.heap.objs.size globals (cellsFrom (s.heap.objs.size + 1) scope.names []) qual func code none builtins)
  _ (fun V V V => rfl) hk binds (fun V => none) (fun V => none) _ _
  ⟨⟨⟨_, _, rfl⟩, (Heap.Ns.new s.heap (.type "frame")).keeps (pushCells_keeps _ _), fun b o e => pushCells_keeps _ _ b o (Heap.get?_push_of_some _ e), Nat.le_refl _⟩,
   fun n c hc => (ok.empty n c (mem_of_lookup hc)).1, ok.apart, fun n c hm => (ok.empty n c hm).2⟩
  ⟨_, pushCells_keeps _ _ _ _ (Heap.get?_push_size _ rfl), rfl⟩
  hkind fun s' x xf => wpAny_pure (hQ _ rfl s' x xf))
end
end Mst
end
section
namespace Mst
open PySem PySem.W PyProof.Rows PySem.Calls
variable (G : Gl)
inductive KpC (h' : Heap) (b : Addr) (o : Obj) : Prop
 | mk (sl : Array (Option Value)) : h'.get? b = some { o with slots := sl } → ((o.cls = .type "frame" → ∀ es ep, o.data ≠ .dict es ep) → sl = o.slots) → KpC h' b o
noncomputable def Keep (ρ : Rh) (own : List Addr) (h h' : Heap) : Prop := ∀ b o, h.get? b = some o → ¬ Mut ρ b → b ∉ own → KpC h' b o
inductive EpC (h' : Heap) (b : Addr) (es : Array DictEntry) (ep : Nat) : Prop
 | mk (o' : Obj) (es' : Array DictEntry) (ep' : Nat) : h'.get? b = some o' → o'.data = .dict es' ep' → es.size ≤ es'.size → (es'.size = es.size → ep' = ep) → EpC h' b es ep
noncomputable def EpOk (h h' : Heap) (b : Addr) : Prop := ∀ o es ep, h.get? b = some o → o.data = .dict es ep → EpC h' b es ep
theorem EpOk.same {h h' : Heap} {b : Addr} (k : ∀ o, h.get? b = some o → h'.get? b = some o) : EpOk h h' b := fun o es ep ho hd => ⟨o, es, ep, k o ho, hd, Nat.le_refl _, fun V => rfl⟩
theorem EpOk.trans {h h₁ h₂ : Heap} {b : Addr} (x : EpOk h h₁ b) (y : EpOk h₁ h₂ b) : EpOk h h₂ b := fun o es ep ho hd => by
 obtain ⟨o1, es1, ep1, a1, a2, a3, a4⟩ := x o es ep ho hd
 obtain ⟨o2, es2, ep2, b1, b2, b3, b4⟩ := y o1 es1 ep1 a1 a2
 exact ⟨o2, es2, ep2, b1, b2, Nat.le_trans a3 b3, fun e => (b4 (by omega)).trans (a4 (by omega))⟩
structure Pst (ρ : Rh) (own : List Addr) (s : Shared) (ρ' : Rh) (s' : Shared) (σ' : St) : Prop where
 rest : s' = ⟨s'.heap, s.gens, s.drawn, s'.toks, s.os⟩
 sr : SR G ρ' σ' s'.heap
 le : Rle ρ ρ'
 new : ∀ p a d, ρ' p = some (a, d) → ρ p = some (a, d) ∨ s.heap.get? d = none
 keep : Keep ρ own s.heap s'.heap
 live : ∀ b o, s.heap.get? b = some o → ∃ o', s'.heap.get? b = some o'
 tups : Tups s.heap s'.heap
 eps : ∀ b, Mut ρ b → EpOk s.heap s'.heap b
variable {G}
theorem Pst.refl {ρ : Rh} {own : List Addr} {s : Shared} {σ : St} (x : SR G ρ σ s.heap) : Pst G ρ own s ρ s σ :=
 ⟨rfl, x, Rle.refl ρ, fun V V V h => .inl h, fun V o h V V => ⟨o.slots, h, fun V => rfl⟩, fun V V h => ⟨_, h⟩, fun V V h => h, fun V V => .same fun V h => h⟩
theorem Pst.tok {ρ : Rh} {own : List Addr} {s : Shared} {σ : St} (t : Nat) (x : SR G ρ σ s.heap) : Pst G ρ own s ρ { s with toks := t } σ :=
 ⟨rfl, x, Rle.refl ρ, fun V V V h => .inl h, fun V o h V V => ⟨o.slots, h, fun V => rfl⟩, fun V V h => ⟨_, h⟩, fun V V h => h, fun V V => .same fun V h => h⟩
theorem Pst.trans {ρ ρ₁ ρ₂ : Rh} {own : List Addr} {s s₁ s₂ : Shared} {σ₁ σ₂ : St} (x : Pst G ρ own s ρ₁ s₁ σ₁) (y : Pst G ρ₁ own s₁ ρ₂ s₂ σ₂) : Pst G ρ own s ρ₂ s₂ σ₂ := by
 have notm : ∀ b o, s.heap.get? b = some o → ¬ Mut ρ b → ¬ Mut ρ₁ b := by
  rintro b o hb hm ⟨p, a, hp⟩
  rcases x.new p a b hp with q | q
  · exact hm ⟨p, a, q⟩
  · rw [hb] at q; cases q
 refine ⟨?_, y.sr, x.le.trans y.le, fun p a d hp => ?_, fun b o hb hm ho => let ⟨_, e, z⟩ := x.keep b o hb hm ho; let ⟨sl, e2, z2⟩ := y.keep b _ e (notm b o hb hm) ho; ⟨sl, e2, fun nd => (z2 nd).trans (z nd)⟩, fun b o hb => ?_, fun a vs h => y.tups a vs (x.tups a vs h), fun b ⟨p, a, hb⟩ => (x.eps b ⟨p, a, hb⟩).trans (y.eps b ⟨p, a, x.le _ _ hb⟩)⟩
 · rw [y.rest]
   have := x.rest
   obtain ⟨h1, g1, d1, t1, o1⟩ := s₁
   simp only [Shared.mk.injEq, true_and] at this
   obtain ⟨rfl, rfl, rfl⟩ := this
   rfl
 · rcases y.new p a d hp with q | q
   · exact x.new p a d q
   · cases z : s.heap.get? d with
     | none => exact .inr rfl
     | some o =>
      obtain ⟨o', h'⟩ := x.live d o z
      rw [h'] at q; cases q
 · obtain ⟨o', h'⟩ := x.live b o hb
   exact y.live b o' h'
theorem Pst.own {ρ ρ' : Rh} {own : List Addr} {s s' : Shared} {σ' : St} (own' : List Addr) (x : Pst G ρ own s ρ' s' σ') (h : ∀ b ∈ own, b ∈ own') : Pst G ρ own' s ρ' s' σ' :=
 ⟨x.rest, x.sr, x.le, x.new, fun b o hb hm ho => x.keep b o hb hm fun q => ho (h b q), x.live, x.tups, x.eps⟩
theorem Pst.any {ρ ρ' : Rh} {s s' : Shared} {σ' : St} {own' : List Addr} (x : Pst G ρ [] s ρ' s' σ') : Pst G ρ own' s ρ' s' σ' := x.own own' fun V h => by cases h
theorem Pst.drop {ρ ρ' : Rh} {own own' : List Addr} {s s' : Shared} {σ' : St} (x : Pst G ρ own s ρ' s' σ') (h : ∀ b ∈ own, b ∈ own' ∨ s.heap.get? b = none) : Pst G ρ own' s ρ' s' σ' := by
 refine ⟨x.rest, x.sr, x.le, x.new, fun b o hb hm ho => x.keep b o hb hm fun q => ?_, x.live, x.tups, x.eps⟩
 rcases h b q with q | q
 · exact ho q
 · rw [hb] at q; cases q
theorem Pst.notm {ρ ρ' : Rh} {own : List Addr} {s s' : Shared} {σ' : St} (y : Pst G ρ own s ρ' s' σ') {b : Addr} {o : Obj} (hb : s.heap.get? b = some o) (hm : ¬ Mut ρ b) : ¬ Mut ρ' b := by
 rintro ⟨p, a, hp⟩
 rcases y.new p a b hp with q | q
 · exact hm ⟨p, a, q⟩
 · rw [hb] at q; cases q
abbrev ownOf (env : Env) : List Addr := [env.locals]
variable (G)
inductive FrOk (ρ : Rh) (h : Heap) (e : Env) : Prop
 | mk (hk : e.scope.kind ≠ .module) (L : Addr) (o : Obj) : e.frame = some L → h.get? L = some o → IsFr o → ¬ Mut ρ L → G.H0.get? L = none → FrOk ρ h e
inductive Stk (A : Around) (ρ : Rh) (h : Heap) : Prop
 | mk (l : List Env) : A.frames = some l → (∀ e ∈ l, FrOk G ρ h e) → Stk A ρ h
variable {G}
theorem Stk.after {A : Around} {ρ ρ' : Rh} {s s' : Shared} {σ' : St} (x : Stk G A ρ s.heap) (y : Pst G ρ [] s ρ' s' σ') : Stk G A ρ' s'.heap := by
 obtain ⟨l, hl, h⟩ := x
 refine ⟨l, hl, fun e he => ?_⟩
 obtain ⟨hk, L, o, h1, h2, h3, h4, h5⟩ := h e he
 obtain ⟨sl, h6, _⟩ := y.keep L o h2 h4 (by simp)
 exact ⟨hk, L, _, h1, h6, h3, y.notm h2 h4, h5⟩
variable (G)
inductive OffI (ρ : Rh) (h : Heap) (c : Addr) : Prop
 | mk (nm : ¬ Mut ρ c) (o : Obj) (v : Option Value) : h.get? c = some o → o.data = .cell v → OffI ρ h c
inductive LkI (env : Env) (ρ : Rh) (h : Heap) (m : Str → Option Value) (n : Nat) (v : AV) : Prop
 | mk (v' : Value) : V1 G ρ h v v' → (env.kindOf (G.nmV n) = some .local → m (G.nmV n) = some v') →
  ((env.kindOf (G.nmV n) = some .cell ∨ env.kindOf (G.nmV n) = some .free) → ∃ c, env.cells.lookup (G.nmV n) = some c ∧ h.IsCell c (some v')) → LkI env ρ h m n v
structure EnvOkT (T : List Nat) (sc : Scope) (A : Around) (env : Env) (l : Loc) (ρ : Rh) (h : Heap) (m : Str → Option Value) : Prop where
 scope : env.scope = sc
 kind : env.scope.kind = .function
 blts : env.builtins = builtinsNs
 globs : env.globals = mainGlobals
 ns : h.Ns env.locals m
 offL : ¬ Mut ρ env.locals
 offC : ∀ x c, env.cells.lookup x = some c → OffI ρ h c
 look : ∀ n v, n ∉ T → l.get n = some v → LkI G env ρ h m n v
 baseL : G.H0.get? env.locals = none
 ndC : (env.cells.map (·.1)).Nodup
 hasC : ∀ x, env.scope.names.lookup x = some .cell → ∃ c, env.cells.lookup x = some c
 stk : Stk G A ρ h
abbrev EnvOk := EnvOkT G []
variable {G}
theorem EnvOkT.after {T : List Nat} {sc : Scope} {A : Around} {env : Env} {l : Loc} {ρ ρ' : Rh} {s s' : Shared} {σ' : St} {m : Str → Option Value} (x : EnvOkT G T sc A env l ρ s.heap m) (y : Pst G ρ [] s ρ' s' σ') : EnvOkT G T sc A env l ρ' s'.heap m := by
 obtain ⟨oL, es, ep, hL, hd, hk, hf⟩ := x.ns
 have cellK : ∀ n c v', env.cells.lookup n = some c → s.heap.IsCell c (some v') → s'.heap.IsCell c (some v') := by
  rintro n c v' hc ⟨o, ho, hd⟩
  obtain ⟨sl, h, _⟩ := y.keep c o ho (x.offC n c hc).1 (by simp)
  exact ⟨_, h, hd⟩
 obtain ⟨sl, hL', _⟩ := y.keep _ _ hL x.offL (by simp)
 refine ⟨x.scope, x.kind, x.blts, x.globs, ⟨_, es, ep, hL', hd, hk, hf⟩, y.notm hL x.offL, fun n c hc => ?_, fun n v hn hv => ?_, x.baseL, x.ndC, x.hasC, x.stk.after y⟩
 · obtain ⟨h1, o, v, h2, h3⟩ := x.offC n c hc
   obtain ⟨sl, h4, _⟩ := y.keep c o h2 h1 (by simp)
   exact ⟨y.notm h2 h1, _, v, h4, h3⟩
 · obtain ⟨v', h1, h2, h3⟩ := x.look n v hn hv
   exact ⟨v', h1.mono y.le y.tups, h2, fun q => let ⟨c, h4, h5⟩ := h3 q; ⟨c, h4, cellK _ _ _ h4 h5⟩⟩
abbrev ER := Env → Around → Rh → Shared → Value → Shared → Prop
noncomputable def OnTop (A : Around) (env : Env) : Prop := env.frame = some env.locals ∧ ∃ outer, A.frames = some (env :: outer)
variable (G)
class EOk0 (Z : ER) : Prop where
 after : ∀ {env : Env} {A : Around} {ρ ρ' : Rh} {s s' s'' : Shared} {σ' : St} {e : Value}, Pst G ρ [] s ρ' s' σ' → Z env A ρ' s' e s'' → Z env A ρ s e s''
 frames : ∀ {env : Env} {A A' : Around} {ρ : Rh} {s s' : Shared} {e : Value}, A.frames = A'.frames → Z env A ρ s e s' → Z env A' ρ s e s'
class EOk (Z : ER) : Prop extends EOk0 G Z where
 afterO : ∀ {env : Env} {A : Around} {ρ ρ' : Rh} {s s' s'' : Shared} {σ' : St} {e : Value}, Pst G ρ (ownOf env) s ρ' s' σ' → Z env A ρ' s' e s'' → Z env A ρ s e s''
 loop : ∀ {env : Env} {A : Around} {ρ : Rh} {s s' : Shared} {e : Value}, OnTop A env → Z env A ρ s e s' → notedBy (model G.prog G.w) A env (fun e s' => cameBackBy (model G.prog G.w) A env (Z env A ρ s) e s') e s'
variable {G}
theorem aft {Z : ER} [i : EOk0 G Z] {env : Env} {A : Around} {ρ ρ' : Rh} {s s' s'' : Shared} {σ' : St} {e : Value} (P : Pst G ρ [] s ρ' s' σ') (h : Z env A ρ' s' e s'') : Z env A ρ s e s'' := i.after P h
abbrev noE : ER := fun V V V V V V => False
instance : EOk G noE := { after := fun V h => h, frames := fun V h => h, afterO := fun V h => h, loop := fun V h => h.elim }
inductive AlI (ρ : Rh) (own : List Addr) (s : Shared) (ρ' : Rh) (s' : Shared) (h : Heap) (n : Pth) (a : Addr) (k : AV → St → B) : Prop
 | mk (σ' : St) : Pst G ρ own s ρ' s' σ' → V1 G ρ' h (.ref n) (.ref a) → k (.ref n) σ' = true → AlI ρ own s ρ' s' h n a k
inductive QE (ρ : Rh) (s : Shared) (k : AV → St → B) (v : Value) (s' : Shared) : Prop
 | mk (a : AV) (σ' : St) (ρ' : Rh) : Pst G ρ [] s ρ' s' σ' → V1 G ρ' s'.heap a v → k a σ' = true → QE ρ s k v s'
variable (G)
structure Rm (A : Around) (n : Nat) : Prop where
 handled : A.handled = none
 depth : A.depth + 8 * n + 8 ≤ 600
 units : A.units + 64 * n + 256 ≤ 6000
structure RmH (A : Around) (n : Nat) : Prop where
 handled : A.handled = none
 depth : A.depth + 8 * n + 4 ≤ 600
 units : A.units + 64 * n + 224 ≤ 6000
variable (Z : ER)
noncomputable def EvOk (sc : Scope) (ev : Loc → St → (AV → St → B) → B) (n : Nat) (t : Env → Sem Value) : Prop :=
 ∀ (l : Loc) (σ : St) (k : AV → St → B), ev l σ k = true → ∀ (env : Env) (A : Around) (s : Shared) (ρ : Rh) (m : Str → Option Value),
  EnvOk G sc A env l ρ s.heap m → SR G ρ σ s.heap → Rm A n → wpAny (model G.prog G.w) A (t env) (QE (G := G) ρ s k) (Z env A ρ s) s
variable {G} {Z}
theorem QE.now {ρ : Rh} {s : Shared} {σ : St} {k : AV → St → B} {a : AV} {v : Value} (x : SR G ρ σ s.heap) (hv : V1 G ρ s.heap a v) (hk : k a σ = true) : QE (G := G) ρ s k v s := ⟨a, σ, ρ, Pst.refl x, hv, hk⟩
theorem QE.tok {ρ : Rh} {s : Shared} {σ : St} {k : AV → St → B} {a : AV} {v : Value} (t : Nat) (x : SR G ρ σ s.heap) (hv : V1 G ρ s.heap a v) (hk : k a σ = true) : QE (G := G) ρ s k v { s with toks := t } := ⟨a, σ, ρ, Pst.tok t x, hv, hk⟩
theorem ok_int {sc : Scope} {i : Int} {k : Nat} {p : Pos} {n : Nat} : EvOk G Z sc (fun V s k => k (.int (.lit i)) s) n (fun env => eval (.Constant (.int i) k p) env) :=
 fun V σ V h V V s ρ V V x V => wpAny_Constant_int (QE.tok (σ := σ) _ x .int h)
theorem ok_loc {sc : Scope} {v : Nat} {p : Pos} {n : Nat} {x : Str} (hx : x = G.nmV v) (hd : (x == ("__debug__" : Str)) = false) (hc : (x == ("__classdict__" : Str)) = false)
 (hkk : sc.names.lookup (G.nmV v) = some .local ∨ sc.names.lookup (G.nmV v) = some .cell ∨ sc.names.lookup (G.nmV v) = some .free) : EvOk G Z sc (fun l s k => l.getK v fun a => k a s) n (fun env => eval (.Name x p) env) := by
 intro l σ k h env A s ρ m E X R
 obtain ⟨a, ha, hk⟩ := Loc.getK_some h
 obtain ⟨v', hv, w1, w2⟩ := E.look v a (by simp) ha
 subst hx
 refine wpAny_Name ?_ hd
 have hko : env.kindOf (G.nmV v) = some .local ∨ env.kindOf (G.nmV v) = some .cell ∨ env.kindOf (G.nmV v) = some .free := by
  unfold Env.kindOf; rw [E.scope]; exact hkk
 rcases hko with h1 | h1
 · exact wpAny_loadName_local E.kind h1 E.ns (w1 h1) (QE.now X hv hk)
 · obtain ⟨c, h3, h4⟩ := w2 h1
   rcases h1 with h1 | h1
   · exact wpAny_loadName_cell E.kind h1 h3 h4 (QE.now X hv hk)
   · exact wpAny_loadName_free E.kind h1 h3 h4 (QE.now X hv hk) hc
noncomputable def notSuper : Expr → Bool
 | .Call (.Name id _) [] [] _ => id != "super"
 | _ => true
theorem base_wp {M : Model} {A : Around} {E : Value → Shared → Prop} {s : Shared} {o : Expr} {attr : Str} {env : Env} {whole : Sem Value} {Q : Value → Shared → Prop} (hn : notSuper o = true) (h : wpAny M A whole Q E s) : wpAny M A (attributeBase o attr env whole) Q E s := by
 cases o with
 | Call f es ks p =>
  cases f with
  | Name id q =>
   cases es with
   | cons => exact h
   | nil =>
    cases ks with
    | cons => exact h
    | nil =>
     have hid : (id != ("super" : Str)) = true := hn
     unfold attributeBase
     dsimp only
     rw [hid, Bool.true_or, Bool.true_or, Bool.true_or, if_pos rfl]
     exact h
  | _ => exact h
 | _ => exact h
end Mst
end
section
namespace Mst
open PySem PySem.W PyProof.Rows PySem.Calls
variable (G : Gl)
structure Cx : Prop where
 kin : G.K.In G.H0
 cls : ∀ c, c < G.nC → findIn G.K (.ref (G.clA c)) "__getattribute__" = some (some (.builtin "object.__getattribute__")) ∧ findIn G.K (.ref (G.clA c)) "__getattr__" = some none ∧
  hasDictIn G.K (G.clA c) = true ∧ findIn G.K (.ref (G.clA c)) "__setattr__" = some (some (.builtin "object.__setattr__")) ∧ plainOver G.K (G.clA c) = true
variable {G} {Z : ER} [EOk0 G Z]
theorem SR.kin {ρ : Rh} {σ : St} {h : Heap} (C : Cx G) (x : SR G ρ σ h) : G.K.In h := C.kin.keeps x.base
theorem V1.handed {ρ : Rh} {h : Heap} {a : AV} {v : Value} (x : V1 G ρ h a v) : handedIn v = true := by cases x <;> rfl
theorem SR.inst {ρ : Rh} {σ : St} {h : Heap} {p : Pth} {a d c : _} {f : FT} (x : SR G ρ σ h) (hp : σ.h.get p = some (.inst c f)) (hr : ρ p = some (a, d)) : InsI G ρ h a d c f := (x.at hp hr).inv
theorem ok_attr {sc : Scope} {ev : Loc → St → (AV → St → B) → B} {n : Nat} {x : PySem.Expr} {nm : PySem.Str} {p : Pos} {a : Pth} (C : Cx G)
 (h : EvOk G Z sc ev n (fun env => eval x env)) (hn : nm = G.nmA (pIdx a)) (hs : notSuper x = true) :
 EvOk G Z sc (fun l s k => ev l s fun v s => inP s.h v fun V V f => f.getK a fun v => k v s) n (fun env => eval (.Attribute x nm p) env) := by
 intro l σ k hk env A s ρ m E X R
 show wpAny _ _ (do
  let o ← attributeBase x nm env (eval x env)
  standAt p.atName
  let r ← holding [o] (getAttr o nm true)
  letTemporaryGo x o r
  pure r) _ _ _
 refine wpAny_bind (base_wp hs (wpAny_mono (h l σ _ hk env A s ρ m E X R) (fun v s' q => ?_) fun V V e => e))
 obtain ⟨av, σ', ρ', P, hv, hk'⟩ := q
 obtain ⟨q, ad, d, c, f, rfl, hr, ho, ⟨es, n', hc, h1, h2, h3, h4, fld⟩, hk'⟩ := hv.inP P.sr hk'
 obtain ⟨b, hb, hk'⟩ := FT.getK_some hk'
 have fa := h3 a
 rw [hb] at fa
 obtain ⟨w', hw, hvw⟩ := fa
 have cl := C.cls c hc
 have KX := P.sr.kin C
 have I : InstAt s'.heap ad (instObj (G.clA c) d) (G.clA c) (some (dictOf es n')) := ⟨h1, rfl, rfl, h2⟩
 refine wpAny_bind (wpAny_standAt (wpAny_bind (wpAny_holding ?_)))
 subst hn
 refine get_value KX I cl.1 (findObj_own cl.2.2.1 (fld a (by rw [hb]; simp)) rfl (by rw [lookIn_dict]; exact hw)) hvw.handed ?_
 exact wpAny_bind (wpAny_letTemporaryGo (wpAny_pure ⟨b, σ', ρ', P.trans (Pst.tok _ P.sr), hvw, hk'⟩))
end Mst
end
section
namespace Mst
open PySem PySem.W PyProof.Rows PySem.Calls
variable {G : Gl} {Z : ER} [EOk0 G Z]
theorem lenV_some {ρ : Rh} {h : Heap} {vs : List Value} {l : AV} {n : Nat} {k : Nat → B} (v : V2 G ρ h l vs) (e : lenV l n k = true) : k (n + vs.length) = true := v.lr.len e
theorem capK_some {ρ : Rh} {h : Heap} {vs : List Value} {l : AV} {b : B} (v : V2 G ρ h l vs) (e : capK l b = true) : vs.length ≤ 65536 ∧ b = true := by
 have := lenV_some v e
 rw [Nat.zero_add] at this
 cases q : Nat.ble vs.length 65536 with
 | true => rw [q] at this; exact ⟨Nat.le_of_ble_eq_true q, this⟩
 | false => rw [q] at this; cases this
theorem Pst.grow {ρ : Rh} {own : List Addr} {s : Shared} {σ : St} {h' : Heap} (tk : Nat) (x : SR G ρ σ s.heap) (k : ∀ b o, s.heap.get? b = some o → h'.get? b = some o) : Pst G ρ own s ρ { s with heap := h', toks := tk } σ :=
 ⟨rfl, x.keeps k, Rle.refl ρ, fun V V V h => .inl h, fun b o h V V => ⟨o.slots, k b o h, fun V => rfl⟩, fun b o h => ⟨o, k b o h⟩, fun a vs h => k a _ h, fun b V => .same (k b)⟩
variable (G) (Z)
noncomputable def EvLs (sc : Scope) (ev : Loc → St → (AV → St → B) → B) (n : Nat) (t : Env → List (Bool × Sem Value)) : Prop :=
 ∀ (l : Loc) (σ : St) (k : AV → St → B), ev l σ k = true → ∀ (env : Env) (A : Around) (s : Shared) (ρ : Rh) (m : Str → Option Value),
  EnvOk G sc A env l ρ s.heap m → SR G ρ σ s.heap → Rm A n →
  wpAny (model G.prog G.w) A (spliced (t env)) (fun vs s' => vs.length = (t env).length ∧ ∃ a σ' ρ', Pst G ρ [] s ρ' s' σ' ∧ V2 G ρ' s'.heap a vs ∧ k a σ' = true) (Z env A ρ s) s
variable {G} {Z}
theorem ok_lnil {sc : Scope} {n : Nat} {pos : Pos} : EvLs G Z sc (fun V s k => k .nil s) n (fun env => backTo pos (starEach [] env)) :=
 fun V σ V h V V V ρ V V x V => spliced_nil ⟨rfl, _, σ, ρ, Pst.refl x, .nil, h⟩
noncomputable def notStar : PySem.Expr → Bool
 | .Starred .. => false
 | _ => true
theorem starEach_cons {e : PySem.Expr} {r : List PySem.Expr} {env : Env} {pos : Pos} (h : notStar e = true) : backTo pos (starEach (e :: r) env) = (false, eval e env) :: backTo pos (starEach r env) := by
 cases e with
 | Starred => exact ff h
 | _ => rfl
theorem ok_lcons {sc : Scope} {ev ev2 : Loc → St → (AV → St → B) → B} {n : Nat} {pos : Pos} {e : PySem.Expr} {r : List PySem.Expr} (hs : notStar e = true) (h : EvOk G Z sc ev n (fun env => eval e env))
 (g : EvLs G Z sc ev2 n (fun env => backTo pos (starEach r env))) : EvLs G Z sc (fun l s k => ev l s fun v s => ev2 l s fun m s => k (.cons v m) s) n (fun env => backTo pos (starEach (e :: r) env)) := by
 intro l σ k hk env A s ρ m E X R
 show wpAny _ _ (spliced (backTo pos (starEach (e :: r) env))) _ _ _
 rw [starEach_cons hs]
 refine spliced_cons (wpAny_mono (h l σ _ hk env A s ρ m E X R) (fun v s₁ q => ?_) fun V V e => e)
 obtain ⟨a, σ₁, ρ₁, P, hv, hk₁⟩ := q
 refine wpAny_mono (g l σ₁ _ hk₁ env A s₁ ρ₁ m (E.after P) P.sr R) (fun vs s₂ q => ?_) fun V V e => aft P e
 obtain ⟨hl, b, σ₂, ρ₂, P₂, hvs, hk₂⟩ := q
 exact ⟨by show _ = (backTo pos (starEach (e :: r) env)).length; rw [starEach_cons hs, List.length_cons, List.length_cons, hl], _, σ₂, ρ₂, P.trans P₂, .cons (hv.mono P₂.le P₂.tups) hvs, hk₂⟩
theorem ok_tup {sc : Scope} {ev : Loc → St → (AV → St → B) → B} {n : Nat} {pos : Pos} {c : Nat} {es : List PySem.Expr} (h : EvLs G Z sc ev n (fun env => backTo pos (starEach es env))) :
 EvOk G Z sc (fun l s k => ev l s fun v s => capK v (k (.tup v) s)) n (fun env => eval (.Tuple es c pos) env) := by
 intro l σ k hk env A s ρ m E X R
 refine Tuple_ (wpAny_mono (h l σ _ hk env A s ρ m E X R) (fun vs s₁ q => ?_) fun V V e => e)
 obtain ⟨_, a, σ₁, ρ₁, P, hv, hk₁⟩ := q
 obtain ⟨hz, hk₁⟩ := capK_some hv hk₁
 have kp : ∀ b o, s₁.heap.get? b = some o → (s₁.heap.push (tupO vs)).get? b = some o := fun b o e => Heap.get?_push_of_some _ e
 refine wpAny_newObj_type ?_ (by show vs.toArray.size ≤ sizeLine; rw [List.size_toArray, sizeLine_eq]; omega)
 exact ⟨_, σ₁, ρ₁, P.trans (Pst.grow _ P.sr kp), .tup (Heap.get?_push_size _ rfl) (hv.mono (Rle.refl _) fun a vs e => kp a _ e) hz, hk₁⟩
end Mst
end
section
namespace Mst
open PySem PySem.W PyProof.Rows PySem.Calls
variable {G : Gl} {Z : ER} [EOk0 G Z]
theorem ok_none {sc : Scope} {k : Nat} {p : Pos} {n : Nat} : EvOk G Z sc (fun V s k => k .none s) n (fun env => eval (.Constant .none k p) env) :=
 fun V σ V h V V s ρ V V x V => Constant_none (QE.now x .none h)
theorem ok_bool {sc : Scope} {b : Bool} {k : Nat} {p : Pos} {n : Nat} : EvOk G Z sc (fun V s k => k (.bool b) s) n (fun env => eval (.Constant (.bool b) k p) env) :=
 fun V σ V h V V s ρ V V x V => Constant_bool (QE.now x .bool h)
theorem ok_str {sc : Scope} {x : Str} {v : Nat} {k : Nat} {p : Pos} {n : Nat} (hx : x = G.nmS v) : EvOk G Z sc (fun V s k => k (.str v) s) n (fun env => eval (.Constant (.str x) k p) env) :=
 fun V σ V h V V s ρ V V X V => Constant_str (QE.tok (σ := σ) _ X (hx ▸ .str) h)
theorem ok_byt {sc : Scope} {b : List UInt8} {v : AV} {k : Nat} {p : Pos} {n : Nat} (hb : BRel G.ν v b) (hz : b.length ≤ 65536) : EvOk G Z sc (fun V s k => k (.byt v) s) n (fun env => eval (.Constant (.bytes b) k p) env) :=
 fun V σ V h V V s ρ V V X V => fun V V V => QE.tok (σ := σ) _ X (.byt (b := b.toArray) (by simpa using hb) (by simpa using hz)) h
theorem name_glob {sc : Scope} {env : Env} {A : Around} {l : Loc} {ρ : Rh} {σ : St} {s : Shared} {m : Str → Option Value} {x : Str} {p : Pos} {w : Value} {Q E : Value → Shared → Prop} (C : Cx G) (En : EnvOk G sc A env l ρ s.heap m) (X : SR G ρ σ s.heap)
 (hx : sc.names.lookup x = some .globalImplicit) (e : nsIn G.K mainGlobals x = some (some w)) (hd : (x == ("__debug__" : Str)) = false) (h : Q w s) : wpAny (model G.prog G.w) A (eval (.Name x p) env) Q E s := by
 refine Name_function_global En.kind (by unfold Env.kindOf; rw [En.scope]; exact hx) ?_ hd
 unfold loadGlobal
 rw [En.globs]
 refine wpAny_bind ((looks_nsIn (X.kin C) e).here ?_)
 exact wpAny_pure h
theorem name_blt {sc : Scope} {env : Env} {A : Around} {l : Loc} {ρ : Rh} {σ : St} {s : Shared} {m : Str → Option Value} {x : Str} {p : Pos} {w : Value} {Q E : Value → Shared → Prop} (C : Cx G) (En : EnvOk G sc A env l ρ s.heap m) (X : SR G ρ σ s.heap)
 (hx : sc.names.lookup x = some .globalImplicit) (e : nsIn G.K mainGlobals x = some none) (e2 : nsIn G.K builtinsNs x = some (some w)) (hd : (x == ("__debug__" : Str)) = false) (h : Q w s) : wpAny (model G.prog G.w) A (eval (.Name x p) env) Q E s := by
 refine Name_function_global En.kind (by unfold Env.kindOf; rw [En.scope]; exact hx) ?_ hd
 unfold loadGlobal
 rw [En.globs, En.blts]
 refine wpAny_bind ((looks_nsIn (X.kin C) e).here ?_)
 refine wpAny_bind ((looks_nsIn (X.kin C) e2).here ?_)
 exact wpAny_pure h
theorem VR.lift {v : AV} {w : Value} {ρ : Rh} {σ : St} {h : Heap} (x : V1 G (fun V => Option.none) G.H0 v w) (X : SR G ρ σ h) : V1 G ρ h v w :=
 x.mono (fun V V e => (by cases e)) fun a vs e => X.base a _ e
theorem ok_glo {sc : Scope} {n : Nat} {x : Str} {v : AV} {w : Value} {p : Pos} (C : Cx G) (hx : sc.names.lookup x = some .globalImplicit) (e : nsIn G.K mainGlobals x = some (some w)) (hd : (x == ("__debug__" : Str)) = false)
 (hv : V1 G (fun V => Option.none) G.H0 v w) : EvOk G Z sc (fun V s k => k v s) n (fun env => eval (.Name x p) env) :=
 fun V σ V h V V s ρ V En X V => name_glob C En X hx e hd (QE.now X (hv.lift X) h)
variable (G) (Z)
inductive QT (ρ : Rh) (s : Shared) (t f : St → B) (b : Bool) (s' : Shared) : Prop
 | mk (σ' : St) (ρ' : Rh) : Pst G ρ [] s ρ' s' σ' → (if b then t σ' else f σ') = true → QT ρ s t f b s'
noncomputable def TrOk (sc : Scope) (ev : Loc → St → (AV → St → B) → B) (n : Nat) (t : Env → Sem Bool) : Prop :=
 ∀ (l : Loc) (σ : St) (T F : St → B), ev l σ (fun v s => tstK v (T s) (F s)) = true → ∀ (env : Env) (A : Around) (s : Shared) (ρ : Rh) (m : Str → Option Value),
  EnvOk G sc A env l ρ s.heap m → SR G ρ σ s.heap → Rm A n → wpAny (model G.prog G.w) A (t env) (QT G ρ s T F) (Z env A ρ s) s
variable {G} {Z}
set_option tactic.hygienic true in
theorem tstK_some {v : AV} {t f : B} (h : tstK v t f = true) : ∃ b, v = .bool b ∧ (if b then t else f) = true := by
 cases v <;> try exact absurd (show false = true from h) Bool.false_ne_true
 rename_i b
 exact ⟨b, rfl, by cases b <;> exact h⟩
theorem QT.after {ρ ρ' : Rh} {s s' s'' : Shared} {σ' : St} {T F : St → B} {b : Bool} (P : Pst G ρ [] s ρ' s' σ') (x : QT G ρ' s' T F b s'') : QT G ρ s T F b s'' := by
 obtain ⟨σ₂, ρ₂, P₂, h⟩ := x
 exact ⟨σ₂, ρ₂, P.trans P₂, h⟩
theorem QE.after {ρ ρ' : Rh} {s s' s'' : Shared} {σ' : St} {k : AV → St → B} {v : Value} (P : Pst G ρ [] s ρ' s' σ') (x : QE (G := G) ρ' s' k v s'') : QE (G := G) ρ s k v s'' := by
 obtain ⟨a, σ₂, ρ₂, P₂, hv, h⟩ := x
 exact ⟨a, σ₂, ρ₂, P.trans P₂, hv, h⟩
theorem tr_plain {sc : Scope} {ev : Loc → St → (AV → St → B) → B} {n : Nat} {e : PySem.Expr} (h : EvOk G Z sc ev n (fun env => eval e env))
 (he : ∀ env whole, isTrue e env whole = (do let v ← whole; standAt e.pos; holding [v] (truthy v))) : TrOk G Z sc ev n (fun env => isTrue e env (eval e env)) := by
 intro l σ T F hk env A s ρ m En X R
 refine isTrue_plain (wpAny_mono (h l σ _ hk env A s ρ m En X R) (fun v s' q => ?_) fun V V e => e) (he _ _)
 obtain ⟨av, σ', ρ', P, hv, hk'⟩ := q
 obtain ⟨b, rfl, hk2⟩ := tstK_some hk'
 clear hk'
 cases hv.bool_inv
 exact wpAny_truthy_bool ⟨σ', ρ', P, hk2⟩
theorem ok_not {sc : Scope} {ev : Loc → St → (AV → St → B) → B} {n : Nat} {e : PySem.Expr} {p : Pos} (h : EvOk G Z sc ev n (fun env => eval e env)) :
 EvOk G Z sc (fun l s k => ev l s fun v s => tstK v (k (.bool false) s) (k (.bool true) s)) n (fun env => eval (.UnaryOp .Not e p) env) := by
 intro l σ k hk env A s ρ m En X R
 refine UnaryOp_ (wpAny_mono (h l σ _ hk env A s ρ m En X R) (fun v s' q => ?_) fun V V e => e)
 obtain ⟨av, σ', ρ', P, hv, hk'⟩ := q
 obtain ⟨b, rfl, hk2⟩ := tstK_some hk'
 clear hk'
 cases hv.bool_inv
 refine not_of (wpAny_truthy_bool ⟨.bool !b, σ', ρ', P, .bool, ?_⟩)
 cases b <;> exact hk2
theorem tr_not {sc : Scope} {ev : Loc → St → (AV → St → B) → B} {n : Nat} {e : PySem.Expr} {p : Pos} (h : TrOk G Z sc ev n (fun env => isTrue e env (eval e env))) :
 TrOk G Z sc (fun l s k => ev l s fun v s => tstK v (k (.bool false) s) (k (.bool true) s)) n (fun env => isTrue (.UnaryOp .Not e p) env (eval (.UnaryOp .Not e p) env)) := by
 intro l σ T F hk env A s ρ m En X R
 refine isTrue_not (wpAny_mono (h l σ F T hk env A s ρ m En X R) (fun b s' q => ?_) fun V V e => e)
 obtain ⟨σ', ρ', P, hk'⟩ := q
 refine ⟨σ', ρ', P, ?_⟩
 cases b <;> exact hk'
theorem ok_ife {sc : Scope} {ev eva evb : Loc → St → (AV → St → B) → B} {n : Nat} {e a b : PySem.Expr} {p : Pos} (h : TrOk G Z sc ev n (fun env => isTrue e env (eval e env)))
 (ha : EvOk G Z sc eva n (fun env => eval a env)) (hb : EvOk G Z sc evb n (fun env => eval b env)) :
 EvOk G Z sc (fun l s k => ev l s fun v s => tstK v (eva l s k) (evb l s k)) n (fun env => eval (.IfExp e a b p) env) := by
 intro l σ k hk env A s ρ m En X R
 refine IfExp_ (wpAny_mono (h l σ (fun s => eva l s k) (fun s => evb l s k) hk env A s ρ m En X R) (fun c s' q => ?_) fun V V e => e)
 obtain ⟨σ', ρ', P, hk'⟩ := q
 cases c with
 | true => exact wpAny_mono (ha l σ' k hk' env A s' ρ' m (En.after P) P.sr R) (fun v s'' q => q.after P) fun V V e => aft P e
 | false => exact wpAny_mono (hb l σ' k hk' env A s' ρ' m (En.after P) P.sr R) (fun v s'' q => q.after P) fun V V e => aft P e
theorem tr_ife {sc : Scope} {ev eva evb : Loc → St → (AV → St → B) → B} {n : Nat} {e a b : PySem.Expr} {p : Pos} (h : TrOk G Z sc ev n (fun env => isTrue e env (eval e env)))
 (ha : TrOk G Z sc eva n (fun env => isTrue a env (eval a env))) (hb : TrOk G Z sc evb n (fun env => isTrue b env (eval b env))) :
 TrOk G Z sc (fun l s k => ev l s fun v s => tstK v (eva l s k) (evb l s k)) n (fun env => isTrue (.IfExp e a b p) env (eval (.IfExp e a b p) env)) := by
 intro l σ T F hk env A s ρ m En X R
 refine isTrue_IfExp (wpAny_mono (h l σ (fun s => eva l s _) (fun s => evb l s _) hk env A s ρ m En X R) (fun c s' q => ?_) fun V V e => e)
 obtain ⟨σ', ρ', P, hk'⟩ := q
 cases c with
 | true => exact wpAny_mono (ha l σ' T F hk' env A s' ρ' m (En.after P) P.sr R) (fun v s'' q => q.after P) fun V V e => aft P e
 | false => exact wpAny_mono (hb l σ' T F hk' env A s' ρ' m (En.after P) P.sr R) (fun v s'' q => q.after P) fun V V e => aft P e
theorem ok_and {sc : Scope} {ev evb : Loc → St → (AV → St → B) → B} {n : Nat} {e e2 : PySem.Expr} {r : List PySem.Expr} {p : Pos} (h : EvOk G Z sc ev n (fun env => eval e env))
 (hb : EvOk G Z sc evb n (fun env => eval (.BoolOp .And (e2 :: r) p) env)) :
 EvOk G Z sc (fun l s k => ev l s fun v s => tstK v (evb l s k) (k v s)) n (fun env => eval (.BoolOp .And (e :: e2 :: r) p) env) := by
 intro l σ k hk env A s ρ m En X R
 refine BoolOp_and (wpAny_mono (h l σ _ hk env A s ρ m En X R) (fun v s' q => ?_) fun V V e => e)
 obtain ⟨av, σ', ρ', P, hv, hk'⟩ := q
 obtain ⟨b, rfl, hk2⟩ := tstK_some hk'
 clear hk'
 cases hv.bool_inv
 refine wpAny_truthy_bool ?_
 cases b with
 | true => exact wpAny_mono (hb l σ' k hk2 env A s' ρ' m (En.after P) P.sr R) (fun v s'' q => q.after P) fun V V e => aft P e
 | false => exact ⟨_, σ', ρ', P, .bool, hk2⟩
theorem ok_or {sc : Scope} {ev evb : Loc → St → (AV → St → B) → B} {n : Nat} {e e2 : PySem.Expr} {r : List PySem.Expr} {p : Pos} (h : EvOk G Z sc ev n (fun env => eval e env))
 (hb : EvOk G Z sc evb n (fun env => eval (.BoolOp .Or (e2 :: r) p) env)) :
 EvOk G Z sc (fun l s k => ev l s fun v s => tstK v (k v s) (evb l s k)) n (fun env => eval (.BoolOp .Or (e :: e2 :: r) p) env) := by
 intro l σ k hk env A s ρ m En X R
 refine BoolOp_or (wpAny_mono (h l σ _ hk env A s ρ m En X R) (fun v s' q => ?_) fun V V e => e)
 obtain ⟨av, σ', ρ', P, hv, hk'⟩ := q
 obtain ⟨b, rfl, hk2⟩ := tstK_some hk'
 clear hk'
 cases hv.bool_inv
 refine wpAny_truthy_bool ?_
 cases b with
 | false => exact wpAny_mono (hb l σ' k hk2 env A s' ρ' m (En.after P) P.sr R) (fun v s'' q => q.after P) fun V V e => aft P e
 | true => exact ⟨_, σ', ρ', P, .bool, hk2⟩
variable (G) (Z)
noncomputable def TrC (sc : Scope) (ev : Loc → St → (AV → St → B) → B) (n : Nat) (op : BoolOp) (es : List PySem.Expr) : Prop := ∀ (whole : Sem Value) (p : Pos), TrOk G Z sc ev n (fun env => isTrue (.BoolOp op es p) env whole)
variable {G} {Z}
theorem trc_one {sc : Scope} {ev : Loc → St → (AV → St → B) → B} {n : Nat} {op : BoolOp} {e : PySem.Expr} (h : TrOk G Z sc ev n (fun env => isTrue e env (eval e env))) : TrC G Z sc ev n op [e] := by
 intro whole p l σ T F hk env A s ρ m En X R
 have := h l σ T F hk env A s ρ m En X R
 cases op with
 | And =>
  refine isTrue_and (wpAny_mono this (fun b s' q => ?_) fun V V e => e)
  cases b with
  | true => exact isTrue_and_nil q
  | false => exact q
 | Or =>
  refine isTrue_or (wpAny_mono this (fun b s' q => ?_) fun V V e => e)
  cases b with
  | false => exact isTrue_or_nil q
  | true => exact q
set_option tactic.hygienic true in
theorem trc_and {sc : Scope} {ev evb : Loc → St → (AV → St → B) → B} {n : Nat} {e : PySem.Expr} {r : List PySem.Expr} (h : TrOk G Z sc ev n (fun env => isTrue e env (eval e env))) (hb : TrC G Z sc evb n .And r) :
 TrC G Z sc (fun l s k => ev l s fun v s => tstK v (evb l s k) (k v s)) n .And (e :: r) := by
 intro whole p l σ T F hk env A s ρ m En X R
 have hk₂ : ev l σ (fun v s => tstK v (evb l s (fun v s => tstK v (T s) (F s))) (F s)) = true := by
  have e : (fun (v : AV) (s : St) => tstK v (evb l s (fun v s => tstK v (T s) (F s))) (tstK v (T s) (F s))) = (fun v s => tstK v (evb l s (fun v s => tstK v (T s) (F s))) (F s)) := by
   funext v s
   cases v <;> try rfl
   rename_i b
   cases b <;> rfl
  rw [← e]; exact hk
 refine isTrue_and (wpAny_mono (h l σ _ _ hk₂ env A s ρ m En X R) (fun c s' q => ?_) fun V V e => e)
 cases c with
 | false =>
  obtain ⟨σ', ρ', P, hk'⟩ := q
  exact ⟨σ', ρ', P, hk'⟩
 | true =>
  obtain ⟨σ', ρ', P, hk'⟩ := q
  exact wpAny_mono (hb whole p l σ' T F hk' env A s' ρ' m (En.after P) P.sr R) (fun v s'' q => q.after P) fun V V e => aft P e
set_option tactic.hygienic true in
theorem trc_or {sc : Scope} {ev evb : Loc → St → (AV → St → B) → B} {n : Nat} {e : PySem.Expr} {r : List PySem.Expr} (h : TrOk G Z sc ev n (fun env => isTrue e env (eval e env))) (hb : TrC G Z sc evb n .Or r) :
 TrC G Z sc (fun l s k => ev l s fun v s => tstK v (k v s) (evb l s k)) n .Or (e :: r) := by
 intro whole p l σ T F hk env A s ρ m En X R
 have hk₂ : ev l σ (fun v s => tstK v (T s) (evb l s (fun v s => tstK v (T s) (F s)))) = true := by
  have e : (fun (v : AV) (s : St) => tstK v (tstK v (T s) (F s)) (evb l s (fun v s => tstK v (T s) (F s)))) = (fun v s => tstK v (T s) (evb l s (fun v s => tstK v (T s) (F s)))) := by
   funext v s
   cases v <;> try rfl
   rename_i b
   cases b <;> rfl
  rw [← e]; exact hk
 refine isTrue_or (wpAny_mono (h l σ _ _ hk₂ env A s ρ m En X R) (fun c s' q => ?_) fun V V e => e)
 cases c with
 | true =>
  obtain ⟨σ', ρ', P, hk'⟩ := q
  exact ⟨σ', ρ', P, hk'⟩
 | false =>
  obtain ⟨σ', ρ', P, hk'⟩ := q
  exact wpAny_mono (hb whole p l σ' T F hk' env A s' ρ' m (En.after P) P.sr R) (fun v s'' q => q.after P) fun V V e => aft P e
theorem trc_tr {sc : Scope} {ev : Loc → St → (AV → St → B) → B} {n : Nat} {op : BoolOp} {es : List PySem.Expr} {p : Pos} (h : TrC G Z sc ev n op es) : TrOk G Z sc ev n (fun env => isTrue (.BoolOp op es p) env (eval (.BoolOp op es p) env)) :=
 fun l σ T F hk env A s ρ m En X R => h (eval (.BoolOp op es p) env) p l σ T F hk env A s ρ m En X R
end Mst
end
section
namespace Mst
open PySem PySem.W PyProof.Rows PySem.Calls
variable {G : Gl} {Z : ER} [EOk0 G Z]
theorem Int.cls {P : Int → Prop} (h : ∀ n : Nat, P (Int.ofNat n)) (g : ∀ n : Nat, P (Int.negSucc n)) : ∀ i, P i := fun i => by cases i; exact h _; exact g _
theorem ble_e {m n : Nat} {t f : B} (h : ifB (Nat.ble m n) t f = true) : (m ≤ n ∧ t = true) ∨ (n < m ∧ f = true) :=
 (ifB_e h).imp (And.imp_left Nat.le_of_ble_eq_true) fun ⟨e, h⟩ => ⟨Nat.lt_of_not_le fun q => (by rw [Nat.ble_eq_true_of_le q] at e; cases e), h⟩
theorem sml_some {x : Int} {k : B} (h : sml x k = true) : x.natAbs < 2 ^ 64 ∧ k = true := by
 cases x with
 | ofNat m =>
  rcases ble_e h with ⟨q, h⟩ | ⟨_, h⟩
  · exact ⟨Nat.lt_of_le_of_lt q (by decide), h⟩
  · exact ff h
 | negSucc m =>
  rcases ble_e h with ⟨q, h⟩ | ⟨_, h⟩
  · exact ⟨Nat.lt_of_le_of_lt (Nat.succ_le_succ q) (by decide), h⟩
  · exact ff h
set_option tactic.hygienic true in
theorem bits_le {x : Int} (h : x.natAbs < 2 ^ 64) : Builtin.Int.intBits x ≤ 64 := by
 unfold Builtin.Int.intBits
 split
 · omega
 · rename_i hx
   have h0 : x.natAbs ≠ 0 := by
    intro e; rw [Int.natAbs_eq_zero] at e; simp [e] at hx
   have := (Nat.log2_lt h0).mpr h
   omega
theorem noPy {x y : Int} (h : y.natAbs < 2 ^ 64) : Builtin.divisionGoesByPylong x y = false := by
 refine PyProof.noPylong_of_log2 ?_
 by_cases h0 : y.natAbs = 0
 · rw [h0]; decide +kernel
 · have := (Nat.log2_lt h0).mpr h
   omega
theorem ltI_eq : ∀ a b : Int, ltI a b = decide (a < b)
 | .ofNat m, .ofNat n => by
  show Nat.blt m n = _
  rw [Bool.eq_iff_iff, Nat.blt_eq, decide_eq_true_iff]; exact Int.ofNat_lt.symm
 | .ofNat m, .negSucc n => by
  show false = _
  rw [eq_comm, decide_eq_false_iff_not]; (try simp only [Int.ofNat_eq_natCast] at *); omega
 | .negSucc m, .ofNat n => by
  show true = _
  rw [eq_comm, decide_eq_true_iff]; (try simp only [Int.ofNat_eq_natCast] at *); omega
 | .negSucc m, .negSucc n => by
  show Nat.blt n m = _
  rw [Bool.eq_iff_iff, Nat.blt_eq, decide_eq_true_iff]; (try simp only [Int.ofNat_eq_natCast] at *); omega
theorem leI_eq : ∀ a b : Int, leI a b = decide (a ≤ b)
 | .ofNat m, .ofNat n => by
  show Nat.ble m n = _
  rw [Bool.eq_iff_iff, Nat.ble_eq, decide_eq_true_iff]; exact Int.ofNat_le.symm
 | .ofNat m, .negSucc n => by
  show false = _
  rw [eq_comm, decide_eq_false_iff_not]; (try simp only [Int.ofNat_eq_natCast] at *); omega
 | .negSucc m, .ofNat n => by
  show true = _
  rw [eq_comm, decide_eq_true_iff]; (try simp only [Int.ofNat_eq_natCast] at *); omega
 | .negSucc m, .negSucc n => by
  show Nat.ble n m = _
  rw [Bool.eq_iff_iff, Nat.ble_eq, decide_eq_true_iff]; (try simp only [Int.ofNat_eq_natCast] at *); omega
theorem eqI_eq : ∀ a b : Int, eqI a b = decide (a = b)
 | .ofNat m, .ofNat n => by
  show Nat.beq m n = _
  rw [Bool.eq_iff_iff, Nat.beq_eq, decide_eq_true_iff]; (try simp only [Int.ofNat_eq_natCast] at *); omega
 | .ofNat m, .negSucc n => by
  show false = _
  rw [eq_comm, decide_eq_false_iff_not]; (try simp only [Int.ofNat_eq_natCast] at *); omega
 | .negSucc m, .ofNat n => by
  show false = _
  rw [eq_comm, decide_eq_false_iff_not]; (try simp only [Int.ofNat_eq_natCast] at *); omega
 | .negSucc m, .negSucc n => by
  show Nat.beq m n = _
  rw [Bool.eq_iff_iff, Nat.beq_eq, decide_eq_true_iff]; (try simp only [Int.ofNat_eq_natCast] at *); omega
theorem AI.eq_val {ν : Nat → Int} : ∀ {a b : AI}, AI.eq a b = true → a.val ν = b.val ν
 | .lit x, .lit y, h => by
  have : eqI x y = true := h
  rw [eqI_eq, decide_eq_true_iff] at this
  exact this
 | .sym m, .sym n, h => by
  have := Nat.eq_of_beq_eq_true h
  subst this; rfl
 | .lit _, .sym _, h => by cases h
 | .sym _, .lit _, h => by cases h
noncomputable def IGives (ν : Nat → Int) (v : AV) (P : Prop) (i : Int) : Prop := P ∧ ∃ a : AI, v = .int a ∧ a.val ν = i
noncomputable def ISpec (ν : Nat → Int) (o : Nat) (x y : Int) (v : AV) : Prop := match o with
 | 0 => IGives ν v True (x + y)
 | 1 => IGives ν v True (x - y)
 | 2 => IGives ν v (x.natAbs < 2 ^ 64 ∨ y.natAbs < 2 ^ 64) (x * y)
 | 3 => IGives ν v (y ≠ 0) (Int.fmod x y)
 | 4 => IGives ν v (y ≠ 0 ∧ y.natAbs < 2 ^ 64) (Int.fdiv x y)
 | 5 => IGives ν v (x.natAbs < 2 ^ 64 ∧ 0 ≤ y ∧ y ≤ 1024) (x * 2 ^ y.toNat)
 | 6 => IGives ν v (0 ≤ y) (x.fdiv (2 ^ y.toNat))
 | 7 => IGives ν v True (Builtin.bitAnd x y)
 | 8 => IGives ν v True (Builtin.bitOr x y)
 | 9 => IGives ν v (x.natAbs < 2 ^ 64 ∧ 0 ≤ y ∧ y ≤ 1024) (x ^ y.toNat)
 | 10 => v = .bool (decide (x < y))
 | 11 => v = .bool (decide (x ≤ y))
 | 12 => v = .bool (decide (x = y))
 | _ => False
theorem bitAnd_nat (m n : Nat) : Builtin.bitAnd (m : Int) (n : Int) = ((m &&& n : Nat) : Int) := by
 unfold Builtin.bitAnd
 rw [decide_eq_true (Int.natCast_nonneg m), decide_eq_true (Int.natCast_nonneg n)]
 rfl
theorem bitOr_nat (m n : Nat) : Builtin.bitOr (m : Int) (n : Int) = ((m ||| n : Nat) : Int) := by
 have e : ∀ k : Nat, Builtin.bitNot (k : Int) = -(k : Int) - 1 := fun k => rfl
 have hm : decide (0 ≤ Builtin.bitNot (m : Int)) = false := by rw [e, decide_eq_false_iff_not]; omega
 have hn : decide (0 ≤ Builtin.bitNot (n : Int)) = false := by rw [e, decide_eq_false_iff_not]; omega
 have bb : ∀ k : Nat, Builtin.bitNot (Builtin.bitNot (k : Int)) = (k : Int) := fun k => by show -(-(k : Int) - 1) - 1 = _; omega
 unfold Builtin.bitOr Builtin.bitAnd
 rw [hm, hn]
 dsimp only
 rw [bb m, bb n, bb]
 rfl
theorem opL_some {ν : Nat → Int} {o : Nat} {x y : Int} {k : AV → B} (h : opL o x y k = true) : Ex (fun v => ISpec ν o x y v) k := by
 match o, h with
 | 0, h => exact ⟨_, ⟨trivial, _, rfl, rfl⟩, h⟩
 | 1, h => exact ⟨_, ⟨trivial, _, rfl, rfl⟩, h⟩
 | 2, h =>
  have h' : (match sml x true with | true => kI k (x * y) | false => sml y (kI k (x * y))) = true := h
  cases q : sml x true with
  | true => rw [q] at h'; exact ⟨_, ⟨.inl (sml_some q).1, _, rfl, rfl⟩, h'⟩
  | false => rw [q] at h'; obtain ⟨h1, h2⟩ := sml_some h'; exact ⟨_, ⟨.inr h1, _, rfl, rfl⟩, h2⟩
 | 3, h =>
  match y, h with
  | .ofNat 0, h => cases h
  | .ofNat (n + 1), h => exact ⟨_, ⟨by (try simp only [Int.ofNat_eq_natCast] at *); omega, _, rfl, rfl⟩, h⟩
  | .negSucc n, h => exact ⟨_, ⟨by (try simp only [Int.ofNat_eq_natCast] at *); omega, _, rfl, rfl⟩, h⟩
 | 4, h =>
  match y, h with
  | .ofNat 0, h => cases h
  | .ofNat (n + 1), h =>
   obtain ⟨h3, h4⟩ := sml_some (show sml (.ofNat (n + 1)) (kI k (Int.fdiv x (.ofNat (n + 1)))) = true from h)
   exact ⟨_, ⟨⟨by (try simp only [Int.ofNat_eq_natCast] at *); omega, h3⟩, _, rfl, rfl⟩, h4⟩
  | .negSucc n, h =>
   obtain ⟨h3, h4⟩ := sml_some (show sml (.negSucc n) (kI k (Int.fdiv x (.negSucc n))) = true from h)
   exact ⟨_, ⟨⟨by (try simp only [Int.ofNat_eq_natCast] at *); omega, h3⟩, _, rfl, rfl⟩, h4⟩
 | 5, h =>
  match x, y, h with
  | .ofNat m, .ofNat n, h =>
   obtain ⟨h1, h2⟩ := sml_some (show sml (.ofNat m) _ = true from h)
   cases q : Nat.ble n 1024 with
   | false => rw [q] at h2; cases h2
   | true =>
    rw [q] at h2
    refine ⟨_, ⟨⟨h1, by (try simp only [Int.ofNat_eq_natCast] at *); omega, by have := Nat.le_of_ble_eq_true q; (try simp only [Int.ofNat_eq_natCast] at *); omega⟩, _, rfl, ?_⟩, h2⟩
    show ((Nat.shiftLeft m n : Nat) : Int) = (m : Int) * 2 ^ n
    have : Nat.shiftLeft m n = m * 2 ^ n := Nat.shiftLeft_eq m n
    rw [this]; push_cast; rfl
  | .ofNat _, .negSucc _, h => cases h
  | .negSucc _, .ofNat _, h => cases h
  | .negSucc _, .negSucc _, h => cases h
 | 6, h =>
  match x, y, h with
  | .ofNat m, .ofNat n, h =>
   refine ⟨_, ⟨by (try simp only [Int.ofNat_eq_natCast] at *); omega, _, rfl, ?_⟩, h⟩
   show ((Nat.shiftRight m n : Nat) : Int) = (m : Int).fdiv (2 ^ n)
   have : Nat.shiftRight m n = m / 2 ^ n := Nat.shiftRight_eq_div_pow m n
   rw [this, Int.fdiv_eq_ediv_of_nonneg _ (Int.pow_nonneg (by decide))]; push_cast; rfl
  | .ofNat _, .negSucc _, h => cases h
  | .negSucc _, .ofNat _, h => cases h
  | .negSucc _, .negSucc _, h => cases h
 | 7, h =>
  match x, y, h with
  | .ofNat m, .ofNat n, h => exact ⟨_, ⟨trivial, .lit (.ofNat (Nat.land m n)), rfl, (bitAnd_nat m n).symm⟩, h⟩
  | .ofNat _, .negSucc _, h => cases h
  | .negSucc _, .ofNat _, h => cases h
  | .negSucc _, .negSucc _, h => cases h
 | 8, h =>
  match x, y, h with
  | .ofNat m, .ofNat n, h =>
   exact ⟨_, ⟨trivial, .lit (.ofNat (Nat.lor m n)), rfl, (bitOr_nat m n).symm⟩, h⟩
  | .ofNat _, .negSucc _, h => cases h
  | .negSucc _, .ofNat _, h => cases h
  | .negSucc _, .negSucc _, h => cases h
 | 9, h =>
  match x, y, h with
  | .ofNat m, .ofNat n, h =>
   obtain ⟨h1, h2⟩ := sml_some (show sml (.ofNat m) _ = true from h)
   cases q : Nat.ble n 1024 with
   | false => rw [q] at h2; cases h2
   | true =>
    rw [q] at h2
    refine ⟨_, ⟨⟨h1, by (try simp only [Int.ofNat_eq_natCast] at *); omega, by have := Nat.le_of_ble_eq_true q; (try simp only [Int.ofNat_eq_natCast] at *); omega⟩, _, rfl, ?_⟩, h2⟩
    show ((Nat.pow m n : Nat) : Int) = (m : Int) ^ n
    push_cast; rfl
  | .ofNat _, .negSucc _, h => cases h
  | .negSucc _, .ofNat _, h => cases h
  | .negSucc _, .negSucc _, h => cases h
 | 10, h => exact ⟨_, congrArg AV.bool (ltI_eq x y), h⟩
 | 11, h => exact ⟨_, congrArg AV.bool (leI_eq x y), h⟩
 | 12, h => exact ⟨_, congrArg AV.bool (eqI_eq x y), h⟩
 | n + 13, h => cases h
end Mst
end
section
namespace Mst
open PySem PySem.W PyProof.Rows PySem.Calls
variable {G : Gl} {Z : ER} [EOk0 G Z]
inductive OrcOk (ν : Nat → Int) : Orc → Prop
 | nil : OrcOk ν .nil
 | cons {o : Nat} {a b : AI} {v : AV} {r : Orc} : ISpec ν o (a.val ν) (b.val ν) v → OrcOk ν r → OrcOk ν (.cons o a b v r)
theorem lookK_some {ν : Nat → Int} {R : Orc} (hR : OrcOk ν R) {o : Nat} {a b : AI} {k : AV → B} (h : R.lookK o a b k = true) : Ex (fun v => ISpec ν o (a.val ν) (b.val ν) v) k := by
 induction hR with
 | nil => exact ff h
 | cons hs _ ih =>
  rcases ifB_e h with ⟨q1, h⟩ | ⟨_, h⟩
  · rcases ifB_e h with ⟨q2, h⟩ | ⟨_, h⟩
    · rcases ifB_e h with ⟨q3, h⟩ | ⟨_, h⟩
      · rw [← AI.eq_val q2, ← AI.eq_val q3, ← Nat.eq_of_beq_eq_true q1] at hs
        exact ⟨_, hs, h⟩
      · exact ih h
    · exact ih h
  · exact ih h
theorem opI_some {ν : Nat → Int} {R : Orc} (hR : OrcOk ν R) {o : Nat} {a b : AI} {k : AV → B} (h : opI R o a b k = true) : Ex (fun v => ISpec ν o (a.val ν) (b.val ν) v) k := by
 cases a with
 | lit x =>
  cases b with
  | lit y => exact opL_some h
  | sym y => exact lookK_some hR h
 | sym x =>
  rcases ifB_e h with ⟨q, h⟩ | ⟨_, h⟩
  · rcases ifB_e h with ⟨q2, g⟩ | ⟨_, h⟩
    · cases Nat.eq_of_beq_eq_true q
      exact ⟨.bool true, congrArg AV.bool (decide_eq_true (AI.eq_val q2)).symm, g⟩
    · exact lookK_some hR h
  · exact lookK_some hR h
noncomputable def opOf : Nat → Option Operator
 | 0 => some .Add | 1 => some .Sub | 2 => some .Mult | 3 => some .Mod | 4 => some .FloorDiv | 5 => some .LShift | 6 => some .RShift | 7 => some .BitAnd | 8 => some .BitOr | 9 => some .Pow
 | _ => none
theorem bin_int {ν : Nat → Int} {prog : Program} {w : World} {A : Around} {E : Value → Shared → Prop} {s : Shared} {o : Nat} {op : Operator} {x y : Int} {t u : Tok} {v : AV} (ho : opOf o = some op) (h : ISpec ν o x y v) :
 wpAny (model prog w) A (binaryOp op (.int x t) (.int y u)) (fun r s' => ∃ a, v = .int a ∧ r = .int (a.val ν) s.toks ∧ s' = { s with toks := s.toks + 1 }) E s := by
 match o, ho, h with
 | 0, ho, h => cases ho; obtain ⟨_, a, rfl, e⟩ := h; exact PySem.P.add_int ⟨a, rfl, by rw [e], rfl⟩
 | 1, ho, h => cases ho; obtain ⟨_, a, rfl, e⟩ := h; exact PySem.P.sub_int ⟨a, rfl, by rw [e], rfl⟩
 | 2, ho, h => cases ho; obtain ⟨p, a, rfl, e⟩ := h; exact mul_int ⟨a, rfl, by rw [e], rfl⟩ (p.elim (fun p => .of_left (bits_le p)) fun p => .of_right (bits_le p))
 | 3, ho, h => cases ho; obtain ⟨p, a, rfl, e⟩ := h; exact mod_int' p ⟨a, rfl, by rw [e], rfl⟩
 | 4, ho, h => cases ho; obtain ⟨p, a, rfl, e⟩ := h; exact floordiv_int p.1 ⟨a, rfl, by rw [e], rfl⟩ (.inl (noPy p.2))
 | 5, ho, h => cases ho; obtain ⟨p, a, rfl, e⟩ := h; exact lshift_int p.2.1 (by have := bits_le p.1; have := p.2.2; omega) ⟨a, rfl, by rw [e], rfl⟩
 | 6, ho, h => cases ho; obtain ⟨p, a, rfl, e⟩ := h; exact rshift_int p ⟨a, rfl, by rw [e], rfl⟩
 | 7, ho, h => cases ho; obtain ⟨p, a, rfl, e⟩ := h; exact and_int ⟨a, rfl, by rw [e], rfl⟩
 | 8, ho, h => cases ho; obtain ⟨p, a, rfl, e⟩ := h; exact or_int ⟨a, rfl, by rw [e], rfl⟩
 | 9, ho, h =>
  cases ho; obtain ⟨p, a, rfl, e⟩ := h
  refine pow_int p.2.1 ?_ ⟨a, rfl, by rw [e], rfl⟩
  have h1 : (Builtin.Int.intBits x : Int) ≤ 64 := by have := bits_le p.1; omega
  have h2 := p.2.2
  have h3 := p.2.1
  calc (Builtin.Int.intBits x : Int) * y ≤ 64 * y := Int.mul_le_mul_of_nonneg_right h1 h3
   _ ≤ 2 ^ 27 := by omega
 | 10, ho, h => cases ho
 | 11, ho, h => cases ho
 | 12, ho, h => cases ho
 | n + 13, ho, h => cases ho
end Mst
end
section
namespace Mst
open PySem PySem.W PyProof.Rows PySem.Calls
variable {G : Gl} {Z : ER} [EOk0 G Z]
noncomputable def Rh.ext (ρ : Rh) (n : Pth) (x : Addr × Addr) : Rh := fun p => if pIdx p = pIdx n then some x else ρ p
theorem Rh.ext_self {ρ : Rh} {n : Pth} {x : Addr × Addr} : Rh.ext ρ n x n = some x := if_pos rfl
theorem SR.free {ρ : Rh} {σ : St} {h : Heap} (x : SR G ρ σ h) : ρ σ.n = none := by
 cases e : ρ σ.n with
 | none => rfl
 | some y => exact absurd (x.fresh _ _ e) (Nat.lt_irrefl _)
set_option tactic.hygienic true in
theorem Rle.ext {ρ : Rh} {n : Pth} {x : Addr × Addr} (h : ρ n = none) : Rle ρ (Rh.ext ρ n x) := by
 intro p y hp
 unfold Rh.ext
 split
 · rename_i e
   rw [pIdx_inj e, h] at hp; cases hp
 · exact hp
set_option tactic.hygienic true in
theorem Pst.alloc {ρ : Rh} {own : List Addr} {s s₀ : Shared} {n : Pth} {hh : HT} {h' : Heap} {a d : Addr} {o : AO} {k : AV → St → B} (hk : allocK ⟨n, hh⟩ o k = true) (x : SR G ρ ⟨n, hh⟩ s.heap)
 (keep : ∀ b o, s.heap.get? b = some o → h'.get? b = some o) (ha : s.heap.get? a = none) (hd : s.heap.get? d = none) (ld : ∃ o, h'.get? d = some o) (ho : OR G (Rh.ext ρ n (a, d)) h' a d o)
 (hs : s₀ = ⟨h', s.gens, s.drawn, s₀.toks, s.os⟩) :
 AlI (G := G) ρ own s (Rh.ext ρ n (a, d)) s₀ h' n a k := by
 unfold allocK at hk
 obtain ⟨t, hk, t1, t2⟩ := HT.setK_some n hk
 have hk := Pth.succK_some hk
 have fr : ρ n = none := x.free
 have le := Rle.ext (x := (a, d)) fr
 have eh : s₀.heap = h' := by rw [hs]
 have low : ∀ p y, ρ p = some y → pIdx p ≠ pIdx n := fun p y e q => by rw [pIdx_inj q, fr] at e; cases e
 have inv : ∀ p y, Rh.ext ρ n (a, d) p = some y → (p = n ∧ y = (a, d)) ∨ ρ p = some y := by
  intro p y e
  unfold Rh.ext at e
  split at e
  · rename_i q; cases e; exact .inl ⟨pIdx_inj q, rfl⟩
  · exact .inr e
 refine ⟨_, ⟨by rw [eh]; exact hs, ?_, le, ?_, ?_, ?_, ?_, fun b V => .same (by rw [eh]; exact keep b)⟩, .ref Rh.ext_self, hk⟩
 · rw [eh]
   refine ⟨fun b o e => keep b o (x.base b o e), ?_, ?_, ?_, ?_, ?_⟩
   · intro p o' hp
     by_cases q : p = n
     · subst q
       rw [t1] at hp; cases hp
       exact ⟨a, d, Rh.ext_self, ho⟩
     · rw [t2 p q] at hp
       obtain ⟨a', d', h1, h2⟩ := x.obj p o' hp
       exact ⟨a', d', le _ _ h1, h2.keeps le (keep a') (keep d') fun b vs e => keep b _ e⟩
   · intro p y e
     rw [pIdx_succ]
     rcases inv p y e with ⟨rfl, _⟩ | e
     · exact Nat.lt_succ_self _
     · exact Nat.lt_succ_of_lt (x.fresh p y e)
   · intro p q b c d' hp hq
     rcases inv p _ hp with ⟨rfl, e1⟩ | hp'
     · rcases inv q _ hq with ⟨rfl, e2⟩ | hq'
       · rfl
       · cases e1
         obtain ⟨o', ho'⟩ := x.live q _ _ hq'
         rw [hd] at ho'; cases ho'
     · rcases inv q _ hq with ⟨rfl, e2⟩ | hq'
       · cases e2
         obtain ⟨o', ho'⟩ := x.live p _ _ hp'
         rw [hd] at ho'; cases ho'
       · exact x.inj p q b c d' hp' hq'
   · intro p b c hp
     rcases inv p _ hp with ⟨rfl, e1⟩ | hp'
     · cases e1
       constructor
       · cases q : G.H0.get? d with
         | none => rfl
         | some o' => rw [x.base _ _ q] at hd; cases hd
       · cases q : G.H0.get? a with
         | none => rfl
         | some o' => rw [x.base _ _ q] at ha; cases ha
     · exact x.apart p b c hp'
   · intro p b c hp
     rcases inv p _ hp with ⟨rfl, e1⟩ | hp'
     · cases e1; exact ld
     · obtain ⟨o', ho'⟩ := x.live p b c hp'
       exact ⟨o', keep c o' ho'⟩
 · intro p b c hp
   rcases inv p _ hp with ⟨rfl, e1⟩ | hp'
   · cases e1; exact .inr hd
   · exact .inl hp'
 · rw [eh]; exact fun b o hb V V => ⟨o.slots, keep b o hb, fun V => rfl⟩
 · rw [eh]; exact fun b o hb => ⟨o, keep b o hb⟩
 · rw [eh]; exact fun b vs hb => keep b _ hb
theorem Pst.list {ρ : Rh} {own : List Addr} {s : Shared} {σ : St} {l : AV} {vs : List Value} {k : AV → St → B} (hk : newL σ l k = true) (x : SR G ρ σ s.heap) (v : V2 G ρ s.heap l vs) :
 vs.length ≤ 65536 ∧ ∃ a σ' ρ', Pst G ρ own s ρ' { s with heap := s.heap.push (listOf vs.toArray 0) } σ' ∧ V1 G ρ' (s.heap.push (listOf vs.toArray 0)) a (.ref s.heap.objs.size) ∧ k a σ' = true := by
 obtain ⟨n, hh⟩ := σ
 obtain ⟨hz, hk⟩ := capK_some v hk
 have kp : ∀ b o, s.heap.get? b = some o → (s.heap.push (listOf vs.toArray 0)).get? b = some o := fun b o e => Heap.get?_push_of_some _ e
 have fr : s.heap.get? s.heap.objs.size = none := by
  cases q : s.heap.get? s.heap.objs.size with
  | none => rfl
  | some o => exact absurd (Heap.lt_size q) (Nat.lt_irrefl _)
 obtain ⟨σ', P, hv, hk'⟩ := Pst.alloc (own := own) (s₀ := { s with heap := s.heap.push (listOf vs.toArray 0) }) hk x kp fr fr ⟨_, Heap.get?_push_size _ rfl⟩
  (.list rfl (Heap.get?_push_size _ rfl) (v.mono (Rle.ext x.free) fun a vs e => kp a _ e) hz) rfl
 exact ⟨hz, _, σ', _, P, hv, hk'⟩
theorem ok_lst {sc : Scope} {ev : Loc → St → (AV → St → B) → B} {n : Nat} {pos : Pos} {es : List PySem.Expr} (h : EvLs G Z sc ev n (fun env => backTo pos (starEach es env))) :
 EvOk G Z sc (fun l s k => ev l s fun v s => newL s v k) n (fun env => eval (.List es pos) env) := by
 intro l σ k hk env A s ρ m E X R
 refine List_ (wpAny_mono (h l σ _ hk env A s ρ m E X R) (fun vs s₁ q => ?_) fun V V e => e)
 obtain ⟨_, a, σ₁, ρ₁, P, hv, hk₁⟩ := q
 obtain ⟨hz, b, σ₂, ρ₂, P₂, hv₂, hk₂⟩ := Pst.list (own := []) hk₁ P.sr hv
 refine wpAny_newObj_type ?_ (by show vs.toArray.size ≤ sizeLine; rw [List.size_toArray, sizeLine_eq]; omega)
 exact ⟨b, σ₂, ρ₂, P.trans P₂, hv₂, hk₂⟩
end Mst
end
section
namespace Mst
open PySem PySem.W PyProof.Rows PySem.Calls
variable {G : Gl} {Z : ER} [EOk0 G Z]
theorem SR.list {ρ : Rh} {σ : St} {h : Heap} {p : Pth} {a d : Addr} {l : AV} (x : SR G ρ σ h) (hp : σ.h.get p = some (.list l)) (hr : ρ p = some (a, d)) :
 LstI G ρ h a d l := (x.at hp hr).inv
theorem appV_some {ρ : Rh} {h : Heap} {vs ws : List Value} {l m : AV} {k : AV → B} (v : V2 G ρ h l vs) (w : V2 G ρ h m ws) (e : appV l m k = true) : Ex (fun r => V2 G ρ h r (vs ++ ws)) k :=
 let ⟨r, hr, hk⟩ := v.lr.app w.lr e; ⟨r, hr.v2, hk⟩
theorem appV_byt {ν : Nat → Int} {vs ws : List UInt8} {l m : AV} {k : AV → B} (v : BRel ν l vs) (w : BRel ν m ws) (e : appV l m k = true) : Ex (fun r => BRel ν r (vs ++ ws)) k :=
 let ⟨r, hr, hk⟩ := v.lr.app w.lr e; ⟨r, hr.br, hk⟩
theorem lenV_byt {ν : Nat → Int} {vs : List UInt8} {l : AV} {n : Nat} {k : Nat → B} (v : BRel ν l vs) (e : lenV l n k = true) : k (n + vs.length) = true := v.lr.len e
theorem capK_byt {ν : Nat → Int} {vs : List UInt8} {l : AV} {b : B} (v : BRel ν l vs) (e : capK l b = true) : vs.length ≤ 65536 ∧ b = true := by
 have := lenV_byt v e
 rw [Nat.zero_add] at this
 cases q : Nat.ble vs.length 65536 with
 | true => rw [q] at this; exact ⟨Nat.le_of_ble_eq_true q, this⟩
 | false => rw [q] at this; cases this
theorem is0_some {o : Nat} {k : B} (h : is0 o k = true) : o = 0 ∧ k = true := by
 cases o with
 | zero => exact ⟨rfl, h⟩
 | succ n => cases h
theorem binK_some {R : Orc} (hR : OrcOk G.ν R) {A : Around} {ρ : Rh} {σ : St} {s : Shared} {o : Nat} {op : Operator} {a b : AV} {va vb : Value} {k : AV → St → B} (ho : opOf o = some op) (X : SR G ρ σ s.heap)
 (ha : V1 G ρ s.heap a va) (hb : V1 G ρ s.heap b vb) (hk : binK R σ o a b k = true) : wpAny (model G.prog G.w) A (binaryOp op va vb) (QE (G := G) ρ s k) (fun V V => False) s := by
 cases a with
 | int x =>
  obtain ⟨t, rfl⟩ := ha.int_inv
  obtain ⟨y, u, rfl, hk⟩ := hb.intK hk
  obtain ⟨v, hv, hk'⟩ := opI_some hR hk
  refine wpAny_mono (bin_int ho hv) (fun r s' q => ?_) fun V V e => e
  obtain ⟨i, rfl, rfl, rfl⟩ := q
  exact QE.tok _ X .int hk'
 | byt l =>
  obtain ⟨b1, t1, rfl, h1, z1⟩ := ha.byt_inv
  obtain ⟨m, b2, t2, rfl, h2, z2, hk⟩ := hb.bytK hk
  obtain ⟨rfl, hk⟩ := is0_some hk
  cases ho
  obtain ⟨r, hr, hk⟩ := appV_byt h1 h2 hk
  obtain ⟨hz, hk⟩ := capK_byt hr hk
  refine PySem.W.KBy.add_bytes (by omega) fun t' j => ?_
  exact QE.tok j X (.byt (by simpa using hr) (by simpa using hz)) hk
 | ref p =>
  obtain ⟨p', ap, l, vs, n1, rfl, r1, _, g1, v1, z1, hk⟩ := ha.lsP X hk
  obtain ⟨q', aq, m, ws, n2, rfl, r2, _, g2, v2, z2, hk⟩ := hb.lsP X hk
  obtain ⟨rfl, hk⟩ := is0_some hk
  cases ho
  obtain ⟨r, hr, hk⟩ := appV_some v1 v2 hk
  obtain ⟨hz, b, σ₂, ρ₂, P₂, hv₂, hk₂⟩ := Pst.list (own := []) hk X hr
  refine PySem.P.add_list g1 g2 ?_ (by rw [List.size_toArray, List.size_toArray, sizeLine_eq]; omega)
  rw [show vs.toArray ++ ws.toArray = (vs ++ ws).toArray by simp]
  exact ⟨b, σ₂, ρ₂, P₂, hv₂, hk₂⟩
 | tup l =>
  obtain ⟨a1, vs, rfl, g1, h1, z1⟩ := ha.tup_inv
  obtain ⟨m, a2, ws, rfl, g2, h2, z2, hk⟩ := hb.tupK hk
  obtain ⟨rfl, hk⟩ := is0_some hk
  cases ho
  obtain ⟨r, hr, hk⟩ := appV_some h1 h2 hk
  obtain ⟨hz, hk⟩ := capK_some hr hk
  have sz : vs.length + ws.length ≤ 65536 := by simpa using hz
  have e : vs.toArray ++ ws.toArray = (vs ++ ws).toArray := by simp
  by_cases hv : vs = []
  · refine concat_meets ⟨_, g1, rfl⟩ ⟨_, g2, rfl⟩ noFill_tuple_add seq_tuple_add PySem.F.slot_tuple_add PySem.F.entry_tuple_add (PySem.F.args_tuple_add_2 _ _)
     (tuple_addW0 a1 a2 vs.toArray ws.toArray 0 0 none none #[] #[] (by simp [hv])) ⟨g1, g2, ?_⟩
    subst hv
    exact QE.now X (.tup g2 hr z2) hk
  · by_cases hw : ws = []
    · refine concat_meets ⟨_, g1, rfl⟩ ⟨_, g2, rfl⟩ noFill_tuple_add seq_tuple_add PySem.F.slot_tuple_add PySem.F.entry_tuple_add (PySem.F.args_tuple_add_2 _ _)
       (tuple_addW1 a1 a2 vs.toArray ws.toArray 0 0 none none #[] #[] (by simpa using hv) (by simp [hw])) ⟨g1, g2, ?_⟩
      subst hw
      rw [List.append_nil] at hr
      exact QE.now X (.tup g1 hr z1) hk
    · refine concat_meets ⟨_, g1, rfl⟩ ⟨_, g2, rfl⟩ noFill_tuple_add seq_tuple_add PySem.F.slot_tuple_add PySem.F.entry_tuple_add (PySem.F.args_tuple_add_2 _ _)
       (tuple_addW2 a1 a2 vs.toArray ws.toArray 0 0 none none #[] #[] (by simpa using hv) (by simpa using hw) (by rw [List.size_toArray, List.size_toArray, sizeLine_eq]; omega)) ⟨g1, g2, ?_⟩
      rw [e]
      have kp : ∀ b o, s.heap.get? b = some o → (s.heap.push (tupO (vs ++ ws))).get? b = some o := fun b o e => Heap.get?_push_of_some _ e
      exact ⟨_, σ, ρ, Pst.grow _ X kp, .tup (Heap.get?_push_size _ rfl) (hr.mono (Rle.refl _) fun a vs e => kp a _ e) hz, hk⟩
 | _ => exact ff hk
theorem ok_bin {R : Orc} (hR : OrcOk G.ν R) {sc : Scope} {ev ev2 : Loc → St → (AV → St → B) → B} {n : Nat} {p : Pos} {o : Nat} {op : Operator} {x y : PySem.Expr} (ho : opOf o = some op) (h : EvOk G Z sc ev n (fun env => eval x env)) (h2 : EvOk G Z sc ev2 n (fun env => eval y env)) :
 EvOk G Z sc (fun l s k => ev l s fun a s => ev2 l s fun b s => binK R s o a b k) n (fun env => eval (.BinOp x op y p) env) := by
 intro l σ k hk env A s ρ m E X Rr
 refine wpAny_BinOp (wpAny_mono (h l σ _ hk env A s ρ m E X Rr) (fun va s₁ q => ?_) fun V V e => e)
 obtain ⟨a, σ₁, ρ₁, P₁, hv₁, hk₁⟩ := q
 refine wpAny_mono (h2 l σ₁ _ hk₁ env A s₁ ρ₁ m (E.after P₁) P₁.sr Rr) (fun vb s₂ q => ?_) fun V V e => aft P₁ e
 obtain ⟨b, σ₂, ρ₂, P₂, hv₂, hk₂⟩ := q
 exact wpAny_mono (binK_some hR ho P₂.sr (hv₁.mono P₂.le P₂.tups) hv₂ hk₂) (fun v s' q => q.after (P₁.trans P₂)) fun V V e => e.elim
theorem ok_neg {sc : Scope} {ev : Loc → St → (AV → St → B) → B} {n : Nat} {p : Pos} {x : PySem.Expr} (h : EvOk G Z sc ev n (fun env => eval x env)) :
 EvOk G Z sc (fun l s k => ev l s fun a s => litK a fun i => kI (fun v => k v s) (-i)) n (fun env => eval (.UnaryOp .USub x p) env) := by
 intro l σ k hk env A s ρ m E X Rr
 refine UnaryOp_ (wpAny_mono (h l σ _ hk env A s ρ m E X Rr) (fun va s₁ q => ?_) fun V V e => e)
 obtain ⟨a, σ₁, ρ₁, P₁, hv₁, hk₁⟩ := q
 obtain ⟨i, t, rfl, hk₁⟩ := hv₁.litK hk₁
 exact PySem.P.neg_int (QE.after P₁ (QE.tok (σ := σ₁) (a := .int (.lit (-_))) _ P₁.sr .int hk₁))
end Mst
end
section
namespace Mst
open PySem PySem.W PyProof.Rows PySem.Calls
variable {G : Gl} {Z : ER} [EOk0 G Z]
theorem keyish_some {q : AV} {e : B} (h : keyish q e = true) : ((∃ i, q = .int i) ∨ (∃ n, q = .str n)) ∧ e = true := by
 cases q with
 | int => exact ⟨.inl ⟨_, rfl⟩, h⟩
 | str => exact ⟨.inr ⟨_, rfl⟩, h⟩
 | _ => exact ff h
theorem intK_e {v : AV} {k : AI → B} (h : intK v k = true) : ∃ i, v = .int i ∧ k i = true := by
 cases v <;> first | exact ff h | exact ⟨_, rfl, h⟩
theorem strK_e {v : AV} {k : Nat → B} (h : strK v k = true) : ∃ i, v = .str i ∧ k i = true := by
 cases v <;> first | exact ff h | exact ⟨_, rfl, h⟩
theorem noneK_e {v : AV} {k : B} (h : noneK v k = true) : v = .none ∧ k = true := by
 cases v <;> first | exact ff h | exact ⟨rfl, h⟩
theorem nilK_e {v : AV} {k : B} (h : nilK v k = true) : v = .nil ∧ k = true := by
 cases v <;> first | exact ff h | exact ⟨rfl, h⟩
theorem boolK_e {v : AV} {k : Bool → B} (h : boolK v k = true) : ∃ i, v = .bool i ∧ k i = true := by
 cases v <;> first | exact ff h | exact ⟨_, rfl, h⟩
theorem bytK_e {v : AV} {k : AV → B} (h : bytK v k = true) : ∃ i, v = .byt i ∧ k i = true := by
 cases v <;> first | exact ff h | exact ⟨_, rfl, h⟩
theorem tupK_e {v : AV} {k : AV → B} (h : tupK v k = true) : ∃ i, v = .tup i ∧ k i = true := by
 cases v <;> first | exact ff h | exact ⟨_, rfl, h⟩
theorem consK_e {v : AV} {k : AV → AV → B} (h : consK v k = true) : ∃ a l, v = .cons a l ∧ k a l = true := by
 cases v <;> first | exact ff h | exact ⟨_, _, rfl, h⟩
theorem beq_e {m n : Nat} {t f : B} (h : ifB (Nat.beq m n) t f = true) : (m = n ∧ t = true) ∨ (m ≠ n ∧ f = true) := by
 cases e : Nat.beq m n with
 | true => rw [e] at h; exact .inl ⟨Nat.eq_of_beq_eq_true e, h⟩
 | false => rw [e] at h; exact .inr ⟨Nat.ne_of_beq_eq_false e, h⟩
theorem eqI_e {R : Orc} (hR : OrcOk G.ν R) {i j : AI} {t f : B} (h : opI R 12 i j (fun v => tstK v t f) = true) : (i.val G.ν = j.val G.ν ∧ t = true) ∨ (i.val G.ν ≠ j.val G.ν ∧ f = true) := by
 obtain ⟨v, hv, h⟩ := opI_some hR h
 rw [show v = .bool (decide (i.val G.ν = j.val G.ν)) from hv] at h
 by_cases q : i.val G.ν = j.val G.ν
 · rw [decide_eq_true q] at h; exact .inl ⟨q, h⟩
 · rw [decide_eq_false q] at h; exact .inr ⟨q, h⟩
inductive KeyE {K : Type} (Q : AV → K → Prop) (q : AV) (i : K) (t f : B) : Prop
 | eq : Q q i → t = true → KeyE Q q i t f
 | ne (j : K) : Q q j → i ≠ j → f = true → KeyE Q q i t f
noncomputable def QI (ν : Nat → Int) (q : AV) (i : Int) : Prop := ∃ j : AI, q = .int j ∧ i = j.val ν
theorem keyEq_int {R : Orc} (hR : OrcOk G.ν R) {a q : AV} {i : Int} {t f : B} (p : PI a i) (h : keyEq R a q t f = true) : KeyE (QI G.ν) q i t f := by
 cases p
 obtain ⟨j, e, g⟩ := intK_e h
 rcases eqI_e hR g with ⟨e2, g⟩ | ⟨e2, g⟩
 · exact .eq ⟨j, e, e2⟩ g
 · exact .ne _ ⟨j, e, rfl⟩ e2 g
theorem keyEq_str {R : Orc} (injS : ∀ m n, G.nmS m = G.nmS n → m = n) {a q : AV} {i : PySem.Str} {t f : B} (p : PS G a i) (h : keyEq R a q t f = true) : KeyE (PS G) q i t f := by
 obtain ⟨n, rfl, rfl⟩ := p
 obtain ⟨j, e, g⟩ := strK_e h
 rcases beq_e g with ⟨e2, g⟩ | ⟨e2, g⟩
 · exact .eq ⟨j, e, congrArg G.nmS e2⟩ g
 · exact .ne _ ⟨j, e, rfl⟩ (fun q => e2 (injS _ _ q)) g
section
variable {K : Type} [DecidableEq K]
theorem valueAt_nil {k : K} : valueAt ([] : List (K × Value)) k = none := rfl
theorem valueAt_here {k a : K} {v : Value} {r : List (K × Value)} (h : a = k) : valueAt ((a, v) :: r) k = some v := by
 unfold valueAt; rw [List.find?_cons_of_pos (by simpa using h)]; rfl
theorem valueAt_there {k a : K} {v : Value} {r : List (K × Value)} (h : a ≠ k) : valueAt ((a, v) :: r) k = valueAt r k := by
 unfold valueAt; rw [List.find?_cons_of_neg (by simpa using h)]
theorem stored_nil {k : K} {v : Value} : stored [] k v = [(k, v)] := rfl
theorem stored_here {k a : K} {v w : Value} {r : List (K × Value)} (h : a = k) (nd : (((a, w) :: r).map (·.1)).Nodup) : stored ((a, w) :: r) k v = (a, v) :: r := by
 unfold stored
 rw [if_pos (by simp [h])]
 simp only [List.map_cons, h, if_true, List.cons.injEq, true_and]
 have nin : k ∉ r.map (·.1) := by
  rw [List.map_cons, List.nodup_cons] at nd
  subst h; exact nd.1
 clear nd
 induction r with
 | nil => rfl
 | cons x r ih =>
  simp only [List.map_cons, List.mem_cons, not_or] at nin
  simp only [List.map_cons]
  rw [if_neg (fun e => nin.1 e.symm), ih nin.2]
theorem stored_there {k a : K} {v w : Value} {r : List (K × Value)} (h : a ≠ k) : stored ((a, w) :: r) k v = (a, w) :: stored r k v := by
 unfold stored
 simp only [List.any_cons, h, decide_false, Bool.false_or, List.map_cons, if_false]
 split <;> simp
end
inductive GetR (G : Gl) (ρ : Rh) (h : Heap) {K : Type} [DecidableEq K] (Q : AV → K → Prop) (kvs : List (K × Value)) (q : AV) (e : B) (k : AV → B) : Prop
 | no (j : K) : Q q j → valueAt kvs j = none → e = true → GetR G ρ h Q kvs q e k
 | yes (j : K) (a : AV) (w : Value) : Q q j → valueAt kvs j = some w → V1 G ρ h a w → k a = true → GetR G ρ h Q kvs q e k
 | nil : kvs = [] → keyish q e = true → GetR G ρ h Q kvs q e k
theorem dGet_gen {R : Orc} {ρ : Rh} {h : Heap} {K : Type} [DecidableEq K] {P Q : AV → K → Prop} (hE : ∀ {a q : AV} {i : K} {t f : B}, P a i → keyEq R a q t f = true → KeyE Q q i t f) (uq : ∀ {q : AV} {i j : K}, Q q i → Q q j → i = j)
 {q : AV} {e : B} {k : AV → B} {kvs : List (K × Value)} {l : AV} (d : LR (DP G ρ h P) l kvs) : dGet R l q e k = true → GetR G ρ h Q kvs q e k := by
 induction d with
 | nil => exact fun hk => .nil rfl hk
 | cons a r ih =>
  intro hk
  obtain ⟨p, v⟩ := a
  rcases hE p hk with ⟨h1, h2⟩ | ⟨j, h1, h3, h2⟩
  · exact .yes _ _ _ h1 (valueAt_here rfl) v h2
  · rcases ih h2 with ⟨j', g1, g2, g3⟩ | ⟨j', b, w, g1, g2, g3, g4⟩ | ⟨g1, g2⟩
    · cases uq h1 g1
      exact .no _ h1 ((valueAt_there h3).trans g2) g3
    · cases uq h1 g1
      exact .yes _ b w h1 ((valueAt_there h3).trans g2) g3 g4
    · subst g1
      exact .no _ h1 (valueAt_there h3) (keyish_some g2).2
theorem QI.uq {ν : Nat → Int} {q : AV} {i j : Int} (x : QI ν q i) (y : QI ν q j) : i = j := by
 obtain ⟨a, rfl, rfl⟩ := x
 obtain ⟨b, e, rfl⟩ := y
 cases e; rfl
theorem PS.uq {q : AV} {i j : PySem.Str} (x : PS G q i) (y : PS G q j) : i = j := by
 obtain ⟨a, rfl, rfl⟩ := x
 obtain ⟨b, e, rfl⟩ := y
 cases e; rfl
theorem dGet_int {R : Orc} (hR : OrcOk G.ν R) {ρ : Rh} {h : Heap} {q : AV} {e : B} {k : AV → B} {kvs : List (Int × Value)} {l : AV} (d : DI G ρ h l kvs) (hk : dGet R l q e k = true) : GetR G ρ h (QI G.ν) kvs q e k :=
 dGet_gen (keyEq_int hR) QI.uq d.lr hk
theorem dGet_str {R : Orc} (injS : ∀ m n, G.nmS m = G.nmS n → m = n) {ρ : Rh} {h : Heap} {q : AV} {e : B} {k : AV → B} {kvs : List (PySem.Str × Value)} {l : AV} (d : DS G ρ h l kvs) (hk : dGet R l q e k = true) : GetR G ρ h (PS G) kvs q e k :=
 dGet_gen (keyEq_str injS) PS.uq d.lr hk
theorem dropK_some {ρ : Rh} {h : Heap} {e : B} {k : AV → B} {vs : List Value} {l : AV} {i : Nat} (v : V2 G ρ h l vs) (hk : dropK l i e k = true) : (vs[i]? = none ∧ e = true) ∨ DrI (V1 G ρ h) vs i k := v.lr.nth hk
theorem dropK_byt {ν : Nat → Int} {e : B} {k : AV → B} {vs : List UInt8} {l : AV} {i : Nat} (v : BRel ν l vs) (hk : dropK l i e k = true) : (vs[i]? = none ∧ e = true) ∨ ∃ a v, vs[i]? = some v ∧ a.val ν = (v.toNat : Int) ∧ k (.int a) = true := by
 rcases v.lr.nth hk with h | ⟨_, u, h1, ⟨h2⟩, h3⟩
 · exact .inl h
 · exact .inr ⟨_, u, h1, h2, h3⟩
inductive PlI (i : Int) (n : Nat) (k : Nat → B) : Prop
 | mk (j : Nat) : seqIndex? i n = some j → j < n → -(n : Int) ≤ i → i < n → j = (if i < 0 then (i + n).toNat else i.toNat) → k j = true → PlI i n k
theorem blt_e {m n : Nat} {t f : B} (h : ifB (Nat.blt m n) t f = true) : (m < n ∧ t = true) ∨ (n ≤ m ∧ f = true) := by
 cases e : Nat.blt m n with
 | true => rw [e] at h; exact .inl ⟨by rw [Nat.blt_eq] at e; exact e, h⟩
 | false => rw [e] at h; exact .inr ⟨Nat.le_of_not_lt fun q => (by rw [← Nat.blt_eq, e] at q; cases q), h⟩
theorem placeK_some {i : Int} {n : Nat} {k : Nat → B} (h : placeK i n k = true) : PlI i n k := by
 cases i with
 | ofNat m =>
  rcases blt_e h with ⟨hm, h⟩ | ⟨_, h⟩
  · have a : (0 : Int) ≤ Int.ofNat m := Int.natCast_nonneg m
    have b : Int.ofNat m < n := Int.ofNat_lt.mpr hm
    exact ⟨m, seqIndex_of a b, hm, Int.le_trans (Int.neg_nonpos_of_nonneg (Int.natCast_nonneg n)) a, b, (if_neg (Int.not_lt.mpr a)).symm, h⟩
  · exact ff h
 | negSucc m =>
  rcases blt_e h with ⟨hm, h⟩ | ⟨_, h⟩
  · have e : (Int.negSucc m + (n : Int)).toNat = n - (m + 1) := by omega
    have a : Int.negSucc m < 0 := Int.negSucc_lt_zero m
    have b : -(n : Int) ≤ Int.negSucc m := Int.neg_le_neg (Int.ofNat_le.mpr hm)
    exact ⟨n - (m + 1), by rw [seqIndex_neg a b, e], Nat.sub_lt (Nat.lt_of_le_of_lt (Nat.zero_le m) hm) (Nat.succ_pos m), b, Int.lt_of_lt_of_le a (Int.natCast_nonneg n), by rw [if_pos a, e], h⟩
  · exact ff h
end Mst
end
section
namespace Mst
open PySem PySem.W PyProof.Rows PySem.Calls
variable (G : Gl)
structure Cy : Prop where
 injS : ∀ m n, G.nmS m = G.nmS n → m = n
 injA : ∀ m n, G.nmA m = G.nmA n → m = n
 injV : ∀ m n, G.nmV m = G.nmV n → m = n
 kds : ∀ k, G.T.kd k = .nil ∨ ∃ o kvs, G.H0.get? (G.kdA k) = some o ∧ o.IsDictOf (PySem.strKind G.prog G.w) kvs ∧ DS G (fun V => none) G.H0 (G.T.kd k) kvs ∧ kvs.length ≤ 65536 ∧ (G.kdA k == sysModules) = false
variable {G} {Z : ER} [EOk0 G Z]
theorem sub_of {slice : PySem.Expr} {o i : Value} {P : Sem Value → Prop} (a : P (operate [i, o] (getItem o i))) (b : P (operate [o, i] (getItem o i))) : P (subscripted slice false o i) := by
 cases slice with
 | Slice x y z p => cases z with
  | none => exact a
  | some z => exact b
 | _ => exact b
section
variable {M : Model} {A : Around} {E : Value → Shared → Prop} {s : Shared}
theorem tail_gen {prog : Program} {w : World} {value slice : PySem.Expr} {o i : Value} {T id : String} {Q : Value → Shared → Prop} (hT : s.TypeIs o T)
 (hl : typeLookup (.type T) "__getitem__" = pure (some (.builtin id))) (h : wpAny (model prog w) A (getItem o i) Q E s) : wpAny (model prog w) A (subscriptTail value slice o i) Q E s := by
 unfold subscriptTail
 refine wpAny_bind ?_
 rw [getitemInPython_of_ne hT.not_modules]
 refine wpAny_bind (wpAny_specialOf hT hl ?_)
 have fin : wpAny (model prog w) A (subscripted slice false o i) (fun r s₃ => wpAny (model prog w) A (letTemporaryGo value o r >>= fun V => pure r) Q E s₃) E s := by
  have g := wpAny_mono h (Q' := fun r s₃ => wpAny (model prog w) A (letTemporaryGo value o r >>= fun V => pure r) Q E s₃) (fun r s₃ h₃ => wpAny_bind (wpAny_letTemporaryGo (wpAny_pure h₃))) fun V V e => e
  exact sub_of (P := fun m => wpAny (model prog w) A m _ E s) (wpAny_operating g) (wpAny_operating g)
 first
  | exact wpAny_pure (wpAny_bind fin)
  | exact wpAny_bind (wpAny_pure (wpAny_bind fin))
  | exact wpAny_bind fin
end
theorem isInt_val {i : Int} {t : Tok} {prog : Program} {w : World} : (intKind prog w).is i (.int i t) = true := by simp [intKind, Value.isInt]
theorem isStr_val {x : PySem.Str} {t : Tok} {prog : Program} {w : World} : (PySem.strKind prog w).is x (.str x t) = true := by show Value.isStrOf x (.str x t) = true; simp [Value.isStrOf]
section
variable {R : Orc} {A : Around} {ρ : Rh} {σ : St} {s : Shared} {value slice : PySem.Expr} {a i l : AV} {va vi : Value} {k' : AV → St → B}
theorem ItmV.of {α : Type} {P : AV → α → Prop} {xs : List α} (v : LR P l xs) {k : AV → B} (hi : V1 G ρ s.heap i vi) (hk : itmK l i k = true) : ∃ i t, vi = .int i t ∧ PlI i xs.length fun j => dropK l j false k := by
 obtain ⟨i, t, rfl, hk⟩ := hi.litK hk
 have hk := v.len hk
 rw [Nat.zero_add] at hk
 exact ⟨i, t, rfl, placeK_some hk⟩
theorem sub_byt (X : SR G ρ σ s.heap) {b : Array UInt8} {t : Tok} (h1 : BRel G.ν l b.toList) (z1 : b.size ≤ 65536) (hi : V1 G ρ s.heap i vi) (hk : itmK l i (fun v => k' v σ) = true) :
 wpAny (model G.prog G.w) A (subscriptTail value slice (.bytes b t) vi) (QE (G := G) ρ s k') (fun V V => False) s := by
 obtain ⟨i, u, rfl, j, e1, e2, e3, e4, e5, hk⟩ := ItmV.of h1.lr hi hk
 rcases dropK_byt h1 hk with ⟨_, h⟩ | ⟨a', v', g1, g2, hk⟩
 · exact ff h
 · refine tail_gen (typeIs_bytes _ _ _) FB.slot_bytes_getitem.lookup ?_
   refine getItem_gives (m := .int v'.toNat) (typeIs_bytes s b t) (by decide) FB.slot_bytes_getitem FB.entry_bytes_getitem (FB.args_bytes_getitem_2 _ _) (gives_bytes_getitem _ _ t u v' ?_ ?_) ?_
   · simp only [Builtin.Bytes.fitsIndex, Bool.and_eq_true, decide_eq_true_eq]
     rw [Array.length_toList] at e3 e4
     clear e1 e2 e5 h1 hi hk g1 g2 X
     omega
   · rw [← Array.length_toList, e1]
     simpa using g1
   · rw [← g2]
     exact QE.tok (a := .int a') _ X .int hk
theorem sub_lst (X : SR G ρ σ s.heap) {ap : Addr} {vs : List Value} {n1 : Nat} (g1 : s.heap.get? ap = some (listOf vs.toArray n1)) (v1 : V2 G ρ s.heap l vs) (z1 : vs.length ≤ 65536) (hi : V1 G ρ s.heap i vi) (hk : itmK l i (fun v => k' v σ) = true) :
 wpAny (model G.prog G.w) A (subscriptTail value slice (.ref ap) vi) (QE (G := G) ρ s k') (fun V V => False) s := by
 obtain ⟨i, u, rfl, j, q1, q2, q3, q4, q5, hk⟩ := ItmV.of v1.lr hi hk
 rcases dropK_some v1 hk with ⟨_, h⟩ | ⟨a', v', f1, f2, hk⟩
 · exact ff h
 · have IL : s.heap.IsList ap vs.toArray := ⟨_, g1, rfl, n1, rfl⟩
   refine tail_gen (T := "list") ⟨_, g1, rfl⟩ PySem.F.slot_list_getitem.lookup ?_
   have lo : -(2 ^ 63) ≤ i := by clear q1 q5 f1 f2 v1 hi; omega
   have hi' : i < 2 ^ 63 := by clear q1 q5 f1 f2 v1 hi; omega
   by_cases h0 : i < 0
   · rw [if_pos h0] at q5
     exact wpAny_getItem_list_neg IL h0 (by show -(vs.toArray.size : Int) ≤ i; rw [List.size_toArray]; exact q3) lo (x := v') (by show vs.toArray[(i + (vs.toArray.size : Int)).toNat]? = _; rw [List.size_toArray, ← q5]; simpa using f1) (QE.now X f2 hk)
   · rw [if_neg h0] at q5
     exact wpAny_getItem_list IL (Int.not_lt.mp h0) hi' (x := v') (by show vs.toArray[i.toNat]? = _; rw [← q5]; simpa using f1) (QE.now X f2 hk)
theorem sub_int (hR : OrcOk G.ν R) (X : SR G ρ σ s.heap) {ap : Addr} {o : Obj} {kvs : List (Int × Value)} (g : s.heap.get? ap = some o) (id : o.IsDictOf (intKind G.prog G.w) kvs) (dv : DI G ρ s.heap l kvs) (hi : V1 G ρ s.heap i vi) (hk : dGet R l i false (fun v => k' v σ) = true) :
 wpAny (model G.prog G.w) A (subscriptTail value slice (.ref ap) vi) (QE (G := G) ρ s k') (fun V V => False) s := by
 rcases dGet_int hR dv hk with ⟨_, _, _, h⟩ | ⟨j, v, w, ⟨j, rfl, rfl⟩, h1, h2, hk2⟩ | ⟨_, h⟩
 · exact ff h
 · obtain ⟨u, rfl⟩ := hi.int_inv
   have D : s.heap.DictOf (intKind G.prog G.w) ap _ := Heap.dictOf_iff.mpr ⟨_, g, id⟩
   exact tail_gen D.typeIs PySem.F.slot_dict_getitem.lookup (wpAny_getItem_of isInt_val D.mapOf h1 (QE.tok _ X h2 hk2))
 · exact ff (keyish_some h).2
theorem sub_str (Y : Cy G) (X : SR G ρ σ s.heap) {ap : Addr} {o : Obj} {kvs : List (PySem.Str × Value)} (g : s.heap.get? ap = some o) (id : o.IsDictOf (PySem.strKind G.prog G.w) kvs) (dv : DS G ρ s.heap l kvs) (hi : V1 G ρ s.heap i vi) (hk : dGet R l i false (fun v => k' v σ) = true) :
 wpAny (model G.prog G.w) A (subscriptTail value slice (.ref ap) vi) (QE (G := G) ρ s k') (fun V V => False) s := by
 rcases dGet_str Y.injS dv hk with ⟨_, _, _, h⟩ | ⟨j, v, w, ⟨j, rfl, rfl⟩, h1, h2, hk2⟩ | ⟨_, h⟩
 · exact ff h
 · obtain ⟨u, rfl⟩ := hi.str_inv
   have D : s.heap.DictOf (PySem.strKind G.prog G.w) ap _ := Heap.dictOf_iff.mpr ⟨_, g, id⟩
   exact tail_gen D.typeIs PySem.F.slot_dict_getitem.lookup (wpAny_getItem_of isStr_val D.mapOf h1 (QE.tok _ X h2 hk2))
 · exact ff (keyish_some h).2
theorem subK_some (hR : OrcOk G.ν R) (Y : Cy G) (X : SR G ρ σ s.heap)
 (ha : V1 G ρ s.heap a va) (hi : V1 G ρ s.heap i vi) (hk : subK G.T R σ a i (fun v => k' v σ) = true) :
 wpAny (model G.prog G.w) A (subscriptTail value slice va vi) (QE (G := G) ρ s k') (fun V V => False) s := by
 cases a with
 | byt l =>
  obtain ⟨b, t, rfl, h1, z1⟩ := ha.byt_inv
  exact sub_byt X h1 z1 hi hk
 | ref p =>
  obtain ⟨ap, dp, rfl, r1⟩ := ha.ref_inv
  obtain ⟨x, hx, hk⟩ := HT.getK_some hk
  have hr := (X.at hx r1).inv
  cases x with
  | list l =>
   obtain ⟨vs, n1, e1, g1, v1, z1⟩ := hr
   exact sub_lst X g1 v1 z1 hi hk
  | dict l =>
   rcases hr with ⟨o, kvs, e, g, id, dv, z, y⟩ | ⟨o, kvs, e, g, id, dv, z, y⟩
   · exact sub_int hR X g id dv hi hk
   · exact sub_str Y X g id dv hi hk
  | _ => exact ff hk
 | kd n =>
  cases ha.kd_inv
  rcases Y.kds n with h0 | ⟨o, kvs, h1, h2, h3, h4, h5⟩
  · have hk : dGet R (G.T.kd n) i false (fun v => k' v σ) = true := hk
    rw [h0] at hk
    exact ff (keyish_some hk).2
  · exact sub_str Y X (X.base _ _ h1) h2 (h3.mono (fun V V e => by cases e) fun a vs e => X.base a _ e) hi hk
 | tup l =>
  obtain ⟨a1, vs, rfl, g1, h1, z1⟩ := ha.tup_inv
  obtain ⟨i, u, rfl, j, q1, q2, q3, q4, q5, hk⟩ := ItmV.of h1.lr hi hk
  rcases dropK_some h1 hk with ⟨_, h⟩ | ⟨a', v', f1, f2, hk⟩
  · exact ff h
  · refine tail_gen (T := "tuple") ⟨_, g1, rfl⟩ PySem.F.slot_tuple_getitem.lookup ?_
    exact PySem.P.getItem_tuple (k := j) (y := v') g1 (by clear q1 q5 f1 f2 h1 hi ha; show -2 ^ 63 ≤ i; omega) (by clear q1 q5 f1 f2 h1 hi ha; show i < 2 ^ 63; omega) (by show seqIndex? i _ = _; rw [List.size_toArray]; exact q1) (by simpa using f1) (QE.now X f2 hk)
 | frl l =>
  obtain ⟨ap, vs, n1, rfl, g0, h1, z1⟩ := ha.frl_inv
  exact sub_lst X (X.base _ _ g0) h1.v2 z1 hi hk
 | _ => exact ff hk
end
theorem ok_sub {R : Orc} (hR : OrcOk G.ν R) (Y : Cy G) {sc : Scope} {ev ev2 : Loc → St → (AV → St → B) → B} {n : Nat} {p : Pos} {x y : PySem.Expr} (h : EvOk G Z sc ev n (fun env => eval x env)) (h2 : EvOk G Z sc ev2 n (fun env => eval y env)) :
 EvOk G Z sc (fun l s k => ev l s fun a s => ev2 l s fun i s => subK G.T R s a i fun v => k v s) n (fun env => eval (.Subscript x y p) env) := by
 intro l σ k hk env A s ρ m E X Rr
 refine Subscript_ (wpAny_mono (h l σ _ hk env A s ρ m E X Rr) (fun va s₁ q => ?_) fun V V e => e)
 obtain ⟨a, σ₁, ρ₁, P₁, hv₁, hk₁⟩ := q
 refine wpAny_mono (h2 l σ₁ _ hk₁ env A s₁ ρ₁ m (E.after P₁) P₁.sr Rr) (fun vb s₂ q => ?_) fun V V e => aft P₁ e
 obtain ⟨b, σ₂, ρ₂, P₂, hv₂, hk₂⟩ := q
 refine wpAny_mono (subK_some hR Y P₂.sr (hv₁.mono P₂.le P₂.tups) hv₂ hk₂) (fun v s' q => ?_) fun V V e => e.elim
 exact q.after (P₁.trans P₂)
end Mst
end
section
namespace Mst
open PySem PySem.W PyProof.Rows PySem.Calls
variable {G : Gl} {Z : ER} [EOk0 G Z]
theorem clip_eq {n : Nat} {i : Int} {m : Nat} (h : max 0 (min (if i < 0 then i + n else i) (n : Int)) = m) : clipAt n i = m := Int.ofNat.inj ((clipAt_cast n i).trans h)
theorem boundK_some {i : Int} {n : Nat} {k : Nat → B} (h : boundK i n k = true) : k (clipAt n i) = true := by
 cases i with
 | ofNat m =>
  have z : ¬ Int.ofNat m < 0 := Int.not_lt.mpr (Int.natCast_nonneg m)
  rcases ble_e h with ⟨q, h⟩ | ⟨q, h⟩
  · rw [clip_eq (m := m) (by rw [if_neg z, show min (Int.ofNat m) (n : Int) = m from Int.min_eq_left (Int.ofNat_le.mpr q)]; exact Int.max_eq_right (Int.natCast_nonneg m))]; exact h
  · rw [clip_eq (m := n) (by rw [if_neg z, show min (Int.ofNat m) (n : Int) = n from Int.min_eq_right (Int.ofNat_le.mpr (Nat.le_of_lt q))]; exact Int.max_eq_right (Int.natCast_nonneg n))]; exact h
 | negSucc m =>
  have z : Int.negSucc m < 0 := Int.negSucc_lt_zero m
  rcases blt_e h with ⟨q, h⟩ | ⟨q, h⟩
  · have e : Int.negSucc m + (n : Int) = ((n - (m + 1) : Nat) : Int) := by omega
    rw [clip_eq (m := n - (m + 1)) (by rw [if_pos z, e, Int.min_eq_left (Int.ofNat_le.mpr (Nat.sub_le _ _))]; exact Int.max_eq_right (Int.natCast_nonneg _))]; exact h
  · have e : Int.negSucc m + (n : Int) ≤ 0 := by omega
    rw [clip_eq (m := 0) (by rw [if_pos z, Int.min_eq_left (Int.le_trans e (Int.natCast_nonneg n))]; exact Int.max_eq_left e)]; exact h
inductive PtR : AV → Option Int → Prop
 | none : PtR .none none
 | int {i : Int} : PtR (.int (.lit i)) (some i)
theorem PtR.part {ρ : Rh} {h : Heap} {a : AV} {o : Option Int} {v : Value} (p : PtR a o) (x : V1 G ρ h a v) : IsPart v o := by
 cases p with
 | none => cases x.none_inv; exact .none
 | int => obtain ⟨t, rfl⟩ := x.int_inv; exact .int _ _
noncomputable def cut {α : Type} (vs : List α) (lo hi : Option Int) : List α := (vs.drop (lo.elim 0 (clipAt vs.length))).take (hi.elim vs.length (clipAt vs.length) - lo.elim 0 (clipAt vs.length))
theorem cut_len {α : Type} {vs : List α} {lo hi : Option Int} : (cut vs lo hi).length ≤ vs.length := ((List.take_sublist _ _).trans (List.drop_sublist _ _)).length_le
inductive CutH {α : Type} (P : AV → α → Prop) (vs : List α) (hi : AV) (k : AV → B) (j : Nat) : Prop
 | mk (y : Option Int) (r : AV) : PtR hi y → LR P r ((vs.drop j).take (y.elim vs.length (clipAt vs.length) - j)) → k r = true → CutH P vs hi k j
inductive CutI {α : Type} (P : AV → α → Prop) (vs : List α) (lo hi : AV) (k : AV → B) : Prop
 | mk (x y : Option Int) (r : AV) : PtR lo x → PtR hi y → LR P r (cut vs x y) → k r = true → CutI P vs lo hi k
section
variable {α : Type} {P : AV → α → Prop} {vs : List α} {l lo hi : AV} {k : AV → B}
theorem slc_hi (v : LR P l vs) {j : Nat} (h : goHi vs.length l hi k j = true) : CutH P vs hi k j := by
 cases hi with
 | none =>
  obtain ⟨r, hr, hk⟩ := v.skip h
  refine ⟨none, r, .none, ?_, hk⟩
  show LR P r ((vs.drop j).take (vs.length - j))
  rw [List.take_of_length_le (by simp)]; exact hr
 | int i =>
  cases i with
  | lit i =>
   obtain ⟨r, hr, hk⟩ := v.take (boundK_some h)
   obtain ⟨r2, hr2, hk⟩ := hr.skip hk
   exact ⟨some i, r2, .int, List.drop_take ▸ hr2, hk⟩
  | sym => exact ff h
 | _ => exact ff h
theorem slcL_gen (v : LR P l vs) (hk : slcL l lo hi k = true) : CutI P vs lo hi k := by
 have hk := v.len hk
 rw [Nat.zero_add] at hk
 cases lo with
 | none =>
  obtain ⟨y, r, h1, h2, h3⟩ := slc_hi v (j := 0) hk
  exact ⟨none, y, r, .none, h1, h2, h3⟩
 | int i =>
  cases i with
  | lit i =>
   obtain ⟨y, r, h1, h2, h3⟩ := slc_hi v (boundK_some hk)
   exact ⟨some i, y, r, .int, h1, h2, h3⟩
  | sym => exact ff hk
 | _ => exact ff hk
end
section
variable {prog : Program} {w : World} {A : Around} {E : Value → Shared → Prop} {s : Shared}
theorem slicePart_of {v : Value} {o : Option Int} {Q : Option Int → Shared → Prop} (p : IsPart v o) (h : Q o s) : wpAny (model prog w) A (Builtin.Slice.slicePartIndex v) Q E s := by
 cases p with
 | none => exact slicePart_none h
 | int i t => exact slicePart_int h
theorem adj_key (n : Nat) (v : Int) : (if v < 0 then max (v + (n : Int)) 0 else min v n) = ((clipAt n v : Nat) : Int) := by
 rw [clipAt_cast]
 by_cases q : v < 0
 · rw [if_pos q, if_pos q, Int.min_eq_left (by omega), Int.max_comm]
 · rw [if_neg q, if_neg q, Int.max_eq_right (Int.le_min.mpr ⟨Int.not_lt.mp q, Int.natCast_nonneg n⟩)]
theorem adjust_any (lo hi : Option Int) (n : Nat) : Builtin.Slice.sliceAdjust lo hi 1 (n : Int) = (((lo.elim 0 (clipAt n) : Nat) : Int), ((hi.elim n (clipAt n) : Nat) : Int)) := by
 cases lo <;> cases hi <;> first | rfl | exact congrArg _ (adj_key n _) | exact congrArg (fun x => (x, _)) (adj_key n _) | exact (congrArg _ (adj_key n _)).trans (congrArg (fun x => (x, _)) (adj_key n _))
theorem places1 (a b : Nat) : Builtin.Slice.slicePlaces (a : Int) (b : Int) 1 = b - a := by
 show (if (a : Int) < b then ((b : Int) - a - 1) / 1 + 1 else 0).toNat = b - a
 rw [Int.ediv_one]
 by_cases h : (a : Int) < b
 · rw [if_pos h, Int.sub_add_cancel]; exact Int.toNat_sub b a
 · rw [if_neg h]; exact (Nat.sub_eq_zero_of_le (Int.ofNat_le.mp (Int.not_lt.mp h))).symm
theorem sliceApplied_any {sl : Addr} {n : Nat} {l u : Value} {lo hi : Option Int} {Q : Int × Int × Nat → Shared → Prop} (hs : s.heap.IsSliceOf sl l u .none) (hl : IsPart l lo) (hu : IsPart u hi)
 (h : Q (((lo.elim 0 (clipAt n) : Nat) : Int), 1, hi.elim n (clipAt n) - lo.elim 0 (clipAt n)) s) :
 wpAny (model prog w) A (Builtin.Slice.sliceApplied (.ref sl) (pure (n : Int))) Q E s := by
 obtain ⟨os, hos, hcs, hds⟩ := id hs
 unfold Builtin.Slice.sliceApplied Builtin.Slice.sliceFields
 refine wpAny_bind (wpAny_bind (wpAny_field hos hds (x := l) rfl (wpAny_bind (wpAny_field hos hds (x := u) rfl (wpAny_bind (wpAny_field hos hds (x := .none) rfl (wpAny_pure ?_)))))))
 refine wpAny_bind (slicePart_none ?_)
 show wpAny _ _ (if ((1 : Int) == 0) = true then _ else _) _ _ s
 rw [if_neg (by decide)]
 refine wpAny_bind (slicePart_of hl (wpAny_bind (slicePart_of hu (wpAny_bind (wpAny_pure ?_)))))
 show wpAny _ _ (match Builtin.Slice.sliceAdjust lo hi 1 (n : Int) with | (lo, hi) => pure (lo, (1 : Int), Builtin.Slice.slicePlaces lo hi 1)) _ _ s
 rw [adjust_any lo hi n]
 refine wpAny_pure ?_
 rw [places1]; exact h
theorem pick_any (xs : Array Value) (a k : Nat) : ((List.range k).filterMap fun (k : Nat) => xs[((a : Int) + (k : Int) * 1).toNat]?).toArray = ((xs.toList.drop a).take k).toArray := by
 have e : (fun (k : Nat) => xs[((a : Int) + (k : Int) * 1).toNat]?) = fun k => xs[a + k]? := by
  funext k
  rw [Int.mul_one]; rfl
 rw [e]
 have := pick_run xs a k
 rw [List.filterMap_map] at this
 have e2 : ((fun x => xs[x]?) ∘ fun x => a + x) = fun k => xs[a + k]? := rfl
 rw [e2] at this
 rw [this]
set_option tactic.hygienic true in
theorem getItem_tuple_cut {t sl : Addr} {vs : List Value} {l u : Value} {lo hi : Option Int} {Q : Value → Shared → Prop} (ht : s.heap.get? t = some (tupO vs)) (hs : s.heap.IsSliceOf sl l u .none) (hl : IsPart l lo) (hu : IsPart u hi) (hz : vs.length ≤ 65536)
 (hw : cut vs lo hi = vs → Q (.ref t) s)
 (h : Q (.ref s.heap.objs.size) { s with heap := s.heap.push (tupO (cut vs lo hi)) }) : wpAny (model prog w) A (getItem (.ref t) (.ref sl)) Q E s := by
 have hdrop : sizeOk (.seq (cut vs lo hi).toArray) := Nat.le_trans cut_len (Nat.le_trans hz (sizeLine_eq ▸ by decide))
 obtain ⟨os, hos, hcs, hds⟩ := id hs
 have hTs : s.TypeIs (.ref sl) "slice" := ⟨os, hos, hcs⟩
 have ht' : IsTup s.heap t vs.toArray := ⟨_, ht, rfl, 0, rfl⟩
 unfold getItem
 try with_reducible refine wpAny_holding ?_
 first | refine wpAny_bind (wpAny_pure ?_) | skip
 refine wpAny_bind (wpAny_sequenceKey ht'.typeIs (by decide) ?_)
 refine wpAny_bind (wpAny_callSpecial?_slot (name := Str.ofString "__getitem__") ht'.typeIs slot_tuple_getitem
  (wpAny_call_entry slot_tuple_getitem ht'.typeIs entry_tuple_getitem ?_ (args_tuple_getitem _ _)))
 show wpAny _ _ (Builtin.Tuple.tupleItemsOf (.ref t) >>= _) _ _ s
 refine wpAny_bind (tupleItemsOf_ ht' ?_)
 refine wpAny_bind (wpAny_typeOf hTs ?_)
 rw [if_pos (by decide)]
 refine wpAny_bind (sliceApplied_any hs hl hu ?_)
 show wpAny _ _ (if ((((lo.elim 0 (clipAt vs.toArray.size) : Nat) : Int)) == 0 && (1 : Int) == 1 && (hi.elim vs.toArray.size (clipAt vs.toArray.size) - lo.elim 0 (clipAt vs.toArray.size)) == vs.toArray.size) = true then _ else _) _ _ s
 split
 · rename_i hc
   simp only [Bool.and_eq_true, beq_iff_eq] at hc
   obtain ⟨⟨c1, _⟩, c2⟩ := hc
   have c1 : lo.elim 0 (clipAt vs.toArray.size) = 0 := Int.ofNat.inj c1
   have e : cut vs lo hi = vs := by
    unfold cut
    rw [List.size_toArray] at c1 c2
    rw [c2, c1, List.drop_zero, List.take_length]
   refine wpAny_bind (m := Builtin.Tuple.tupleIsExact _) (wpAny_bind (wpAny_typeOf ht'.typeIs (wpAny_pure ?_)))
   first
    | exact wpAny_bind (wpAny_rule (wpAny_bind (wpAny_pure (wpAny_pure ⟨_, rfl, wpAny_pure (hw e)⟩))))
    | exact wpAny_bind (wpAny_rule (wpAny_bind (wpAny_pure ⟨_, rfl, wpAny_pure (hw e)⟩)))
    | exact wpAny_bind (wpAny_rule (wpAny_pure ⟨_, rfl, wpAny_pure (hw e)⟩))
    | exact wpAny_rule (wpAny_bind (wpAny_pure (wpAny_pure ⟨_, rfl, wpAny_pure (hw e)⟩)))
 · rw [pick_any]
   have e : ((vs.toArray.toList.drop (lo.elim 0 (clipAt vs.toArray.size))).take (hi.elim vs.toArray.size (clipAt vs.toArray.size) - lo.elim 0 (clipAt vs.toArray.size))).toArray = (cut vs lo hi).toArray := by
    unfold cut; simp
   rw [e]
   first
    | exact wpAny_bind (m := Builtin.Tuple.tupleExact _) (wpAny_newObj_type (wpAny_pure ⟨_, rfl, wpAny_pure h⟩) hdrop)
    | exact wpAny_bind (m := Builtin.Tuple.tupleExact _) (wpAny_newObj_type (wpAny_bind (wpAny_pure (wpAny_pure ⟨_, rfl, wpAny_pure h⟩))) hdrop)
    | exact wpAny_bind (wpAny_bind (m := Builtin.Tuple.tupleExact _) (wpAny_newObj_type (wpAny_pure (wpAny_pure ⟨_, rfl, wpAny_pure h⟩)) hdrop))
    | exact wpAny_bind (wpAny_bind (m := Builtin.Tuple.tupleExact _) (wpAny_newObj_type (wpAny_pure ⟨_, rfl, wpAny_pure h⟩) hdrop))
end
end Mst
end
section
namespace Mst
open PySem PySem.W PyProof.Rows PySem.Calls
variable {G : Gl} {Z : ER} [EOk0 G Z]
theorem ok_pnone {sc : Scope} {n : Nat} : EvOk G Z sc (fun V s k => k .none s) n (fun env => evalPart none env) :=
 fun V σ V h V V s ρ V V x V => evalPart_none_step (QE.now x .none h)
theorem ok_psome {sc : Scope} {ev : Loc → St → (AV → St → B) → B} {n : Nat} {e : PySem.Expr} (h : EvOk G Z sc ev n (fun env => eval e env)) : EvOk G Z sc ev n (fun env => evalPart (some e) env) :=
 fun l σ k hk env A s ρ m E X R => evalPart_some_step (h l σ k hk env A s ρ m E X R)
section
variable {A : Around} {ρ ρ₃ : Rh} {σ₃ : St} {s s₃ : Shared} {value slice : PySem.Expr} {l al ah : AV} {vl vh : Value} {a : Addr} {k : AV → St → B} {E : Value → Shared → Prop}
theorem slc_byt (P : Pst G ρ [] s ρ₃ s₃ σ₃) (sl : s₃.heap.IsSliceOf a vl vh .none) {b : Array UInt8} {t : Tok} (hb : BRel G.ν l b.toList) (hz : b.size ≤ 65536) (hl : V1 G ρ₃ s₃.heap al vl) (hh : V1 G ρ₃ s₃.heap ah vh)
 (hk : slcL l al ah (fun r => k (.byt r) σ₃) = true) : wpAny (model G.prog G.w) A (subscriptTail value slice (.bytes b t) (.ref a)) (QE (G := G) ρ s k) E s₃ := by
 obtain ⟨x, y, r', p1, p2, hr, hk⟩ := slcL_gen hb.lr hk
 refine tail_gen (typeIs_bytes _ _ _) FB.slot_bytes_getitem.lookup ?_
 have e : (KBy.picked b x y).toList = cut b.toList x y := by
  rw [KBc.picked_eq b x y]; unfold cut; simp
 have z := Nat.le_trans (KBc.size_picked_le b x y) hz
 refine getItem_meets (typeIs_bytes _ _ _) (by decide) FB.slot_bytes_getitem FB.entry_bytes_getitem (FB.args_bytes_getitem_2 _ _) (KBc.meets_slice2 b t _ (p1.part hl) (p2.part hh)) ⟨sl, by rw [sizeLine_eq]; exact Nat.le_trans z (by decide), fun t' k' => ?_⟩
 exact QE.after P (QE.tok k' P.sr (.byt (e ▸ hr.br) z) hk)
theorem slc_tup (P : Pst G ρ [] s ρ₃ s₃ σ₃) (sl : s₃.heap.IsSliceOf a vl vh .none) {a1 : Addr} {vs : List Value} (g1 : s₃.heap.get? a1 = some (tupO vs)) (hb : V2 G ρ₃ s₃.heap l vs) (hz : vs.length ≤ 65536) (hl : V1 G ρ₃ s₃.heap al vl) (hh : V1 G ρ₃ s₃.heap ah vh)
 (hk : slcL l al ah (fun r => k (.tup r) σ₃) = true) : wpAny (model G.prog G.w) A (subscriptTail value slice (.ref a1) (.ref a)) (QE (G := G) ρ s k) E s₃ := by
 obtain ⟨x, y, r', p1, p2, hr, hk⟩ := slcL_gen hb.lr hk
 refine tail_gen (T := "tuple") ⟨_, g1, rfl⟩ PySem.F.slot_tuple_getitem.lookup ?_
 refine getItem_tuple_cut g1 sl (p1.part hl) (p2.part hh) hz (fun ec => ?_) ?_
 · rw [ec] at hr
   exact QE.after P (QE.now P.sr (.tup g1 hr.v2 hz) hk)
 · have kp2 : ∀ b o, s₃.heap.get? b = some o → (s₃.heap.push (tupO (cut vs x y))).get? b = some o := fun b o e => Heap.get?_push_of_some _ e
   exact QE.after P ⟨_, σ₃, ρ₃, Pst.grow _ P.sr kp2, .tup (Heap.get?_push_size _ rfl) (hr.v2.mono (Rle.refl _) fun a vs e => kp2 a _ e) (Nat.le_trans cut_len hz), hk⟩
end
theorem ok_slc {sc : Scope} {ev evl evh : Loc → St → (AV → St → B) → B} {n : Nat} {e : PySem.Expr} {lo hi : Option PySem.Expr} {p pos : Pos} (h : EvOk G Z sc ev n (fun env => eval e env)) (hl : EvOk G Z sc evl n (fun env => evalPart lo env)) (hh : EvOk G Z sc evh n (fun env => evalPart hi env)) :
 EvOk G Z sc (fun l s k => ev l s fun a s => evl l s fun lo s => evh l s fun hi s => slcK a lo hi fun r => k r s) n (fun env => eval (.Subscript e (.Slice lo hi none p) pos) env) := by
 intro l σ k hk env A s ρ m E X R
 refine Subscript_ (wpAny_mono (h l σ _ hk env A s ρ m E X R) (fun va s₁ q => ?_) fun V V e => e)
 obtain ⟨a, σ₁, ρ₁, P₁, hv₁, hk₁⟩ := q
 refine wpAny_Slice (wpAny_mono (hl l σ₁ _ hk₁ env A s₁ ρ₁ m (E.after P₁) P₁.sr R) (fun vl s₂ q => ?_) fun V V e => aft P₁ e)
 obtain ⟨al, σ₂, ρ₂, P₂, hv₂, hk₂⟩ := q
 have P12 := P₁.trans P₂
 refine wpAny_mono (hh l σ₂ _ hk₂ env A s₂ ρ₂ m (E.after P12) P12.sr R) (fun vh s₃ q => ?_) fun V V e => aft P12 e
 obtain ⟨ah, σ₃, ρ₃, P₃, hv₃, hk₃⟩ := q
 refine evalPart_none_step ?_
 have kp : ∀ b o, s₃.heap.get? b = some o → (s₃.heap.push { cls := .type "slice", data := .fields #[vl, vh, .none] }).get? b = some o := fun b o e => Heap.get?_push_of_some _ e
 have tp : Tups s₃.heap (s₃.heap.push { cls := .type "slice", data := .fields #[vl, vh, .none] }) := fun a vs e => kp a _ e
 have P4 := (P12.trans P₃).trans (Pst.grow s₃.toks P₃.sr kp)
 have hv₁ : V1 G _ _ a va := ((hv₁.mono P₂.le P₂.tups).mono P₃.le P₃.tups).mono (Rle.refl _) tp
 have hv₂ := (hv₂.mono P₃.le P₃.tups).mono (Rle.refl _) tp
 have hv₃ := hv₃.mono (Rle.refl _) tp
 have sl := Heap.IsSliceOf.new s₃.heap vl vh .none
 cases a with
 | byt r =>
  obtain ⟨b, t, rfl, hb, hz⟩ := hv₁.byt_inv
  exact slc_byt P4 sl hb hz hv₂ hv₃ hk₃
 | tup r =>
  obtain ⟨a1, vs, rfl, g1, hb, hz⟩ := hv₁.tup_inv
  exact slc_tup P4 sl g1 hb hz hv₂ hv₃ hk₃
 | _ => exact ff hk₃
end Mst
end
section
namespace Mst
open PySem PySem.SeqAt
open AutoSeq1 (wpAny_loadPart')
open MeetsSeq MeetsSeq2 MeetsSeq3 SeqRoads2
noncomputable def LtAt (A : Around) (s : Shared) (y x : Value) (b : Bool) : Prop :=
 ∀ (prog : Program) (w : World) (E : Value → Shared → Prop) (Q : Value → Shared → Prop), Q (.bool b) s → wpAny (model prog w) A (richCompare .Lt y x) Q E s
noncomputable def LeAt (A : Around) (s : Shared) (y x : Value) (b : Bool) : Prop :=
 ∀ (prog : Program) (w : World) (E : Value → Shared → Prop) (Q : Value → Shared → Prop), Q (.bool b) s → wpAny (model prog w) A (richCompare .LtE y x) Q E s
noncomputable def LexZ (A : Around) (s : Shared) (D : Value → Value → Bool → Prop) (e r : Bool) (N : Prop) : List (Value × Value) → Prop := List.rec (N ∧ r = e) fun p _ ih => (EqAt A s p.1 p.2 true ∧ ih) ∨ (EqAt A s p.1 p.2 false ∧ D p.1 p.2 r)
noncomputable def LexAt (A : Around) (s : Shared) (D : Value → Value → Bool → Prop) (e : Bool) (vs ws : List Value) (r : Bool) : Prop := LexZ A s D e r (vs.length = ws.length) (vs.zip ws)
section
variable {A : Around} {s : Shared} {D : Value → Value → Bool → Prop} {e r : Bool} {x y : Value} {xs ys : List Value} {N M : Prop}
theorem LexZ.imp (f : N → M) {l : List (Value × Value)} (h : LexZ A s D e r N l) : LexZ A s D e r M l := by
 induction l with
 | nil => exact And.imp_left f h
 | cons p l ih => exact Or.imp_left (And.imp_right ih) h
theorem LexAt.nil : LexAt A s D e [] [] e := ⟨rfl, rfl⟩
theorem LexAt.same (h : EqAt A s x y true) (l : LexAt A s D e xs ys r) : LexAt A s D e (x :: xs) (y :: ys) r := .inl ⟨h, LexZ.imp (congrArg Nat.succ) l⟩
theorem LexAt.diff (h : EqAt A s x y false) (d : D x y r) : LexAt A s D e (x :: xs) (y :: ys) r := .inr ⟨h, d⟩
theorem LexAt.not (h : LexAt A s (fun V V r => r = false) true xs ys r) : LexAt A s (fun V V r => r = true) false xs ys (!r) := by
 have go : ∀ {N : Prop} {l : List (Value × Value)}, LexZ A s (fun V V r => r = false) true r N l → LexZ A s (fun V V r => r = true) false (!r) N l := by
  intro N l h
  induction l with
  | nil => exact And.imp_right (congrArg Bool.not) h
  | cons p l ih => exact Or.imp (And.imp_right ih) (And.imp_right (congrArg Bool.not)) h
 exact go h
end
inductive HasAt (A : Around) (s : Shared) (w : Value) : List Value → Bool → Prop
 | nil : HasAt A s w [] false
 | here {x : Value} {xs : List Value} : EqAt A s x w true → HasAt A s w (x :: xs) true
 | there {x : Value} {xs : List Value} {r : Bool} : EqAt A s x w false → HasAt A s w xs r → HasAt A s w (x :: xs) r
theorem tuple_has (l : Addr) (items : Array Value) (n : Nat) (dd : Option Addr) (sl : Array (Option Value)) (x : Value) (r : Bool) :
 Meets (Builtin.«tuple.__contains__» ⟨[.ref l, x], []⟩)
  (fun A R s => s.heap.get? l = some { cls := .type "tuple", dict := dd, data := .seq items n, slots := sl } ∧ HasAt A.in1 s x items.toList r ∧ R (.ok (.ret (.bool r))) s) :=
 .of_wp fun prog w A R s h => by
  obtain ⟨hp, g, d, tk, os⟩ := s; obtain ⟨hl, he, h⟩ := h
  wp_walk using wpAny_loadPart' hl, wpAny_forIn_array _ (fun rest b s' => b.1 = none ∧ s' = ⟨hp, g, d, tk, os⟩ ∧ HasAt A.in1 ⟨hp, g, d, tk, os⟩ x rest r) _
  case turn =>
   rintro y rest b s' ⟨hb, rfl, hx⟩
   cases hx with
   | here h1 =>
    refine wpAny_bind (h1 prog w _ _ ?_)
    wp_walk
    exact ⟨_, rfl, h⟩
   | there h1 h2 =>
    refine wpAny_bind (h1 prog w _ _ ?_)
    wp_walk
    exact ⟨rfl, rfl, h2⟩
  case fin =>
   rintro ⟨b1, b2⟩ s' ⟨hb, rfl, hx⟩
   simp only at hb
   subst hb
   cases hx
   wp_walk
   exact ⟨_, rfl, h⟩
  case h =>
   exact ⟨rfl, rfl, he⟩
theorem tuple_lexEq (l b : Addr) (items items2 : Array Value) (n n2 : Nat) (dd dd2 : Option Addr) (sl sl2 : Array (Option Value)) (r : Bool) :
 Meets (Builtin.«tuple.__eq__» ⟨[.ref l, .ref b], []⟩)
  (fun A R s => s.heap.get? l = some { cls := .type "tuple", dict := dd, data := .seq items n, slots := sl } ∧ s.heap.get? b = some { cls := .type "tuple", dict := dd2, data := .seq items2 n2, slots := sl2 } ∧
   LexAt A.in1 s (fun V V r => r = false) true items.toList items2.toList r ∧ R (.ok (.ret (.bool r))) s) :=
 .of_wp fun prog w A R s h => by
  obtain ⟨hp, g, d, tk, os⟩ := s; obtain ⟨hl, hb, he, h⟩ := h
  have f2 := AutoSeq1.sub_tuple_tuple
  wp_walk using wpAny_loadPart' hl, wpAny_loadPart' hb, wpAny_forIn_list _ (fun rest b s' => b.1 = none ∧ s' = ⟨hp, g, d, tk, os⟩ ∧ LexZ A.in1 ⟨hp, g, d, tk, os⟩ (fun V V r => r = false) true r (items.size = items2.size) rest) _
  case turn =>
   rintro ⟨y, x⟩ rest b s' ⟨hb', rfl, ⟨h1, h2⟩ | ⟨h1, h2⟩⟩
   · refine wpAny_bind (h1 prog w _ _ ?_)
     wp_walk
     exact ⟨rfl, rfl, h2⟩
   · refine wpAny_bind (h1 prog w _ _ ?_)
     have h2 : r = false := h2
     subst h2
     wp_walk
     exact ⟨_, rfl, h⟩
  case fin =>
   rintro ⟨b1, b2⟩ s' ⟨hb', rfl, hx⟩
   simp only at hb'
   subst hb'
   obtain ⟨hz, hx⟩ := hx
   have hx : r = true := hx
   subst hx
   wp_walk
   exact ⟨_, rfl, by simpa [Builtin.Tuple.tupleCompareSizes, hz] using h⟩
  case h =>
   exact ⟨rfl, rfl, he⟩
theorem tuple_lexNe (l b : Addr) (items items2 : Array Value) (n n2 : Nat) (dd dd2 : Option Addr) (sl sl2 : Array (Option Value)) (r : Bool) :
 Meets (Builtin.«tuple.__ne__» ⟨[.ref l, .ref b], []⟩)
  (fun A R s => s.heap.get? l = some { cls := .type "tuple", dict := dd, data := .seq items n, slots := sl } ∧ s.heap.get? b = some { cls := .type "tuple", dict := dd2, data := .seq items2 n2, slots := sl2 } ∧
   LexAt A.in1 s (fun V V r => r = true) false items.toList items2.toList r ∧ R (.ok (.ret (.bool r))) s) :=
 .of_wp fun prog w A R s h => by
  obtain ⟨hp, g, d, tk, os⟩ := s; obtain ⟨hl, hb, he, h⟩ := h
  have f2 := AutoSeq1.sub_tuple_tuple
  wp_walk using wpAny_loadPart' hl, wpAny_loadPart' hb, wpAny_forIn_list _ (fun rest b s' => b.1 = none ∧ s' = ⟨hp, g, d, tk, os⟩ ∧ LexZ A.in1 ⟨hp, g, d, tk, os⟩ (fun V V r => r = true) false r (items.size = items2.size) rest) _
  case turn =>
   rintro ⟨y, x⟩ rest b s' ⟨hb', rfl, ⟨h1, h2⟩ | ⟨h1, h2⟩⟩
   · refine wpAny_bind (h1 prog w _ _ ?_)
     wp_walk
     exact ⟨rfl, rfl, h2⟩
   · refine wpAny_bind (h1 prog w _ _ ?_)
     have h2 : r = true := h2
     subst h2
     wp_walk
     exact ⟨_, rfl, h⟩
  case fin =>
   rintro ⟨b1, b2⟩ s' ⟨hb', rfl, hx⟩
   simp only at hb'
   subst hb'
   obtain ⟨hz, hx⟩ := hx
   have hx : r = false := hx
   subst hx
   wp_walk
   exact ⟨_, rfl, by simpa [Builtin.Tuple.tupleCompareSizes, hz] using h⟩
  case h =>
   exact ⟨rfl, rfl, he⟩
theorem tuple_lexLt (l b : Addr) (items items2 : Array Value) (n n2 : Nat) (dd dd2 : Option Addr) (sl sl2 : Array (Option Value)) (r : Bool) :
 Meets (Builtin.«tuple.__lt__» ⟨[.ref l, .ref b], []⟩)
  (fun A R s => s.heap.get? l = some { cls := .type "tuple", dict := dd, data := .seq items n, slots := sl } ∧ s.heap.get? b = some { cls := .type "tuple", dict := dd2, data := .seq items2 n2, slots := sl2 } ∧
   LexAt A.in1 s (LtAt A.in1 s) false items.toList items2.toList r ∧ R (.ok (.ret (.bool r))) s) :=
 .of_wp fun prog w A R s h => by
  obtain ⟨hp, g, d, tk, os⟩ := s; obtain ⟨hl, hb, he, h⟩ := h
  have f2 := AutoSeq1.sub_tuple_tuple
  wp_walk using wpAny_loadPart' hl, wpAny_loadPart' hb, wpAny_forIn_list _ (fun rest b s' => b.1 = none ∧ s' = ⟨hp, g, d, tk, os⟩ ∧ LexZ A.in1 ⟨hp, g, d, tk, os⟩ (LtAt A.in1 ⟨hp, g, d, tk, os⟩) false r (items.size = items2.size) rest) _
  case turn =>
   rintro ⟨y, x⟩ rest b s' ⟨hb', rfl, ⟨h1, h2⟩ | ⟨h1, h2⟩⟩
   · refine wpAny_bind (h1 prog w _ _ ?_)
     wp_walk
     exact ⟨rfl, rfl, h2⟩
   · refine wpAny_bind (h1 prog w _ _ ?_)
     simp only [Bool.not_false, if_true]
     first
      | refine wpAny_bind (wpAny_rule (wpAny_bind (h2 prog w _ _ ?_)))
      | refine wpAny_rule (wpAny_bind (wpAny_bind (h2 prog w _ _ ?_)))
      | refine wpAny_bind (wpAny_rule (wpAny_bind (wpAny_bind (h2 prog w _ _ ?_))))
     wp_walk
     exact ⟨_, rfl, h⟩
  case fin =>
   rintro ⟨b1, b2⟩ s' ⟨hb', rfl, hx⟩
   simp only at hb'
   subst hb'
   obtain ⟨hz, hx⟩ := hx
   have hx : r = false := hx
   subst hx
   wp_walk
   exact ⟨_, rfl, by simpa [Builtin.Tuple.tupleCompareSizes, hz] using h⟩
  case h =>
   exact ⟨rfl, rfl, he⟩
theorem tuple_lexLe (l b : Addr) (items items2 : Array Value) (n n2 : Nat) (dd dd2 : Option Addr) (sl sl2 : Array (Option Value)) (r : Bool) :
 Meets (Builtin.«tuple.__le__» ⟨[.ref l, .ref b], []⟩)
  (fun A R s => s.heap.get? l = some { cls := .type "tuple", dict := dd, data := .seq items n, slots := sl } ∧ s.heap.get? b = some { cls := .type "tuple", dict := dd2, data := .seq items2 n2, slots := sl2 } ∧
   LexAt A.in1 s (LeAt A.in1 s) true items.toList items2.toList r ∧ R (.ok (.ret (.bool r))) s) :=
 .of_wp fun prog w A R s h => by
  obtain ⟨hp, g, d, tk, os⟩ := s; obtain ⟨hl, hb, he, h⟩ := h
  have f2 := AutoSeq1.sub_tuple_tuple
  wp_walk using wpAny_loadPart' hl, wpAny_loadPart' hb, wpAny_forIn_list _ (fun rest b s' => b.1 = none ∧ s' = ⟨hp, g, d, tk, os⟩ ∧ LexZ A.in1 ⟨hp, g, d, tk, os⟩ (LeAt A.in1 ⟨hp, g, d, tk, os⟩) true r (items.size = items2.size) rest) _
  case turn =>
   rintro ⟨y, x⟩ rest b s' ⟨hb', rfl, ⟨h1, h2⟩ | ⟨h1, h2⟩⟩
   · refine wpAny_bind (h1 prog w _ _ ?_)
     wp_walk
     exact ⟨rfl, rfl, h2⟩
   · refine wpAny_bind (h1 prog w _ _ ?_)
     simp only [Bool.not_false, if_true]
     first
      | refine wpAny_bind (wpAny_rule (wpAny_bind (h2 prog w _ _ ?_)))
      | refine wpAny_rule (wpAny_bind (wpAny_bind (h2 prog w _ _ ?_)))
      | refine wpAny_bind (wpAny_rule (wpAny_bind (wpAny_bind (h2 prog w _ _ ?_))))
     wp_walk
     exact ⟨_, rfl, h⟩
  case fin =>
   rintro ⟨b1, b2⟩ s' ⟨hb', rfl, hx⟩
   simp only at hb'
   subst hb'
   obtain ⟨hz, hx⟩ := hx
   have hx : r = true := hx
   subst hx
   wp_walk
   exact ⟨_, rfl, by simpa [Builtin.Tuple.tupleCompareSizes, hz] using h⟩
  case h =>
   exact ⟨rfl, rfl, he⟩
end Mst
end
section
namespace Mst
open PySem PySem.W PyProof.Rows PySem.Calls PySem.SeqAt
variable {G : Gl} {Z : ER} [EOk0 G Z]
noncomputable def pick (r : Bool) (t f : B) : Prop := ifB r t f = true
theorem pick.ite {r : Bool} {t f : B} (h : pick r t f) : (if r then t else f) = true := by cases r <;> exact h
inductive PkR (Q : Bool → Prop) (t f : B) : Prop
 | mk (r : Bool) : pick r t f → Q r → PkR Q t f
theorem EqAt.bytes {A : Around} {s : Shared} (b c : Array UInt8) (t u : Tok) : RcAt A s (.bytes b t) (.bytes c u) (b.toList == c.toList) := fun prog w E Q h =>
 richCompare_gives (op := .Eq) (T := "bytes") (typeIs_bytes s b t) (typeIs_bytes s c u) FB.slot_bytes_eq FB.entry_bytes_eq (FB.args_bytes_eq_2 _ _) (gives_bytes_eq b c t u) (fun x => nomatch x) h
theorem EqAt.rc_bytes {A : Around} {s : Shared} {b c : Array UInt8} {t u : Tok} {r : Bool} (h : RcAt A s (.bytes b t) (.bytes c u) r) (hr : Value.bytes b t = .bytes c u → r = true) : EqAt A s (.bytes b t) (.bytes c u) r := fun prog w' E Q hq => by
 unfold eqBool
 refine wpAny_holding ?_
 refine wpAny_ite_split (fun hab => ?_) (fun V => ?_)
 · have e := eq_of_beq hab
   rw [hr e] at hq
   exact wpAny_bind (wpAny_rule (wpAny_pure hq))
 · exact wpAny_bind (h prog w' E _ (wpAny_truthy_bool hq))
theorem EqAt.rc_refs {A : Around} {s : Shared} {a b : Addr} {r : Bool} (h : RcAt A s (.ref a) (.ref b) r) (hr : Value.ref a = .ref b → r = true) : EqAt A s (.ref a) (.ref b) r := by
 by_cases e : a = b
 · subst e; rw [hr rfl]; exact EqAt.same _
 · exact EqAt.of_refs e h
theorem rc_lex {A : Around} {s : Shared} {a b : Addr} {vs ws : List Value} {r : Bool} (g1 : s.heap.get? a = some (tupO vs)) (g2 : s.heap.get? b = some (tupO ws)) (hu : A.units < cLine) (h : LexAt A.in1 s (fun V V r => r = false) true vs ws r) : RcAt A s (.ref a) (.ref b) r := fun prog w E Q hq =>
 richCompare_meets_room (op := .Eq) ⟨_, g1, rfl⟩ ⟨_, g2, rfl⟩ PySem.F.slot_tuple_eq PySem.F.entry_tuple_eq (PySem.F.args_tuple_eq_2 _ _) (tuple_lexEq a b vs.toArray ws.toArray 0 0 none none #[] #[] r)
  ⟨g1, g2, h, show Value.bool r ≠ Value.notImplemented ∧ Q (.bool r) s from ⟨(fun x => nomatch x), hq⟩⟩ hu
theorem ne_lex {A : Around} {s : Shared} {a b : Addr} {vs ws : List Value} {r : Bool} (g1 : s.heap.get? a = some (tupO vs)) (g2 : s.heap.get? b = some (tupO ws)) (hu : A.units < cLine) (h : LexAt A.in1 s (fun V V r => r = true) false vs ws r) : RcNeAt A s (.ref a) (.ref b) r := fun prog w E Q hq =>
 richCompare_meets_room (op := .NotEq) ⟨_, g1, rfl⟩ ⟨_, g2, rfl⟩ PySem.F.slot_tuple_ne PySem.F.entry_tuple_ne (PySem.F.args_tuple_ne_2 _ _) (tuple_lexNe a b vs.toArray ws.toArray 0 0 none none #[] #[] r)
  ⟨g1, g2, h, show Value.bool r ≠ Value.notImplemented ∧ Q (.bool r) s from ⟨(fun x => nomatch x), hq⟩⟩ hu
theorem lt_lex {A : Around} {s : Shared} {a b : Addr} {vs ws : List Value} {r : Bool} (g1 : s.heap.get? a = some (tupO vs)) (g2 : s.heap.get? b = some (tupO ws)) (hu : A.units < cLine) (h : LexAt A.in1 s (LtAt A.in1 s) false vs ws r) : LtAt A s (.ref a) (.ref b) r := fun prog w E Q hq =>
 richCompare_meets_room (op := .Lt) ⟨_, g1, rfl⟩ ⟨_, g2, rfl⟩ PySem.F.slot_tuple_lt PySem.F.entry_tuple_lt (PySem.F.args_tuple_lt_2 _ _) (tuple_lexLt a b vs.toArray ws.toArray 0 0 none none #[] #[] r)
  ⟨g1, g2, h, show Value.bool r ≠ Value.notImplemented ∧ Q (.bool r) s from ⟨(fun x => nomatch x), hq⟩⟩ hu
theorem le_lex {A : Around} {s : Shared} {a b : Addr} {vs ws : List Value} {r : Bool} (g1 : s.heap.get? a = some (tupO vs)) (g2 : s.heap.get? b = some (tupO ws)) (hu : A.units < cLine) (h : LexAt A.in1 s (LeAt A.in1 s) true vs ws r) : LeAt A s (.ref a) (.ref b) r := fun prog w E Q hq =>
 richCompare_meets_room (op := .LtE) ⟨_, g1, rfl⟩ ⟨_, g2, rfl⟩ PySem.F.slot_tuple_le PySem.F.entry_tuple_le (PySem.F.args_tuple_le_2 _ _) (tuple_lexLe a b vs.toArray ws.toArray 0 0 none none #[] #[] r)
  ⟨g1, g2, h, show Value.bool r ≠ Value.notImplemented ∧ Q (.bool r) s from ⟨(fun x => nomatch x), hq⟩⟩ hu
noncomputable def isByt (a : AV) : Bool := AV.rec (motive := fun V => Bool) false (fun V => false) (fun V => false) (fun V => false) (fun V V => true) (fun V => false) (fun V => false) (fun V V => false) false (fun V V V V => false) (fun V V => false) a
inductive EqD (G : Gl) : Nat → AV → AV → Bool → Prop
 | none {d : Nat} : EqD G d .none .none true
 | bool {d : Nat} {x y : Bool} : EqD G d (.bool x) (.bool y) (x == y)
 | int {d : Nat} {x y : AI} {r : Bool} : (x.val G.ν == y.val G.ν) = r → EqD G d (.int x) (.int y) r
 | str {d : Nat} {x y : Nat} {r : Bool} : (G.nmS x == G.nmS y) = r → EqD G d (.str x) (.str y) r
 | byt {d : Nat} {x y : AV} {r : Bool} : EqD G d x y r → EqD G d (.byt x) (.byt y) r
 | tup {d : Nat} {x y : AV} {r : Bool} : EqD G d x y r → EqD G (d + 1) (.tup x) (.tup y) r
 | nil {d : Nat} : EqD G d .nil .nil true
 | ne {d : Nat} {x y l m : AV} : EqD G d x y false → EqD G d (.cons x l) (.cons y m) false
 | eq {d : Nat} {x y l m : AV} {r : Bool} : EqD G d x y true → EqD G d l m r → EqD G d (.cons x l) (.cons y m) r
theorem eqV_d {R : Orc} (hR : OrcOk G.ν R) (Y : Cy G) : ∀ {a : AV} {d : Nat} {b : AV} {t f : B}, eqV R a d b t f = true → PkR (EqD G d a b) t f := by
 intro a
 induction a with
 | none =>
  intro d b t f h
  obtain ⟨e, g⟩ := noneK_e h
  subst e
  exact ⟨true, g, .none⟩
 | bool x =>
  intro d b t f h
  obtain ⟨y, e, g⟩ := boolK_e h
  exact e ▸ ⟨_, g, .bool⟩
 | int x =>
  intro d b t f h
  obtain ⟨y, e, g⟩ := intK_e h
  rcases eqI_e hR g with ⟨q, g⟩ | ⟨q, g⟩
  · exact e ▸ ⟨true, g, .int (beq_iff_eq.mpr q)⟩
  · exact e ▸ ⟨false, g, .int (beq_eq_false_iff_ne.mpr q)⟩
 | str x =>
  intro d b t f h
  obtain ⟨y, e, g⟩ := strK_e h
  rcases beq_e g with ⟨q, g⟩ | ⟨q, g⟩
  · exact e ▸ ⟨true, g, .str (beq_iff_eq.mpr (congrArg G.nmS q))⟩
  · exact e ▸ ⟨false, g, .str (beq_eq_false_iff_ne.mpr fun z => q (Y.injS _ _ z))⟩
 | byt x ih =>
  intro d b t f h
  obtain ⟨y, e, g⟩ := bytK_e h
  obtain ⟨r, g, q⟩ := ih g
  exact e ▸ ⟨r, g, .byt q⟩
 | tup x ih =>
  intro d b t f h
  cases d with
  | zero => exact ff h
  | succ d =>
   obtain ⟨y, e, g⟩ := tupK_e h
   obtain ⟨r, g, q⟩ := ih g
   exact e ▸ ⟨r, g, .tup q⟩
 | nil =>
  intro d b t f h
  obtain ⟨e, g⟩ := nilK_e h
  subst e
  exact ⟨true, g, .nil⟩
 | cons x l ih1 ih2 =>
  intro d b t f h
  obtain ⟨y, m, e, g⟩ := consK_e h
  obtain ⟨r, g, q⟩ := ih1 g
  cases r with
  | false => exact e ▸ ⟨false, g, .ne q⟩
  | true =>
   obtain ⟨r, g, q2⟩ := ih2 g
   exact e ▸ ⟨r, g, .eq q q2⟩
 | _ => exact fun h => ff h
structure EqR (A : Around) (s : Shared) (v w : Value) (r nb : Bool) : Prop where
 eq : EqAt A s v w r
 rc : RcAt A s v w r
 ne : nb = false → RcNeAt A s v w (!r)
 same : v = w → r = true
inductive BC (ν : Nat → Int) (a l : AV) (us : List UInt8) : Prop
 | mk (i : AI) (u : UInt8) (r : List UInt8) : a = .int i → us = u :: r → i.val ν = (u.toNat : Int) → BRel ν l r → BC ν a l us
noncomputable def BI (ν : Nat → Int) (us : List UInt8) (a : AV) : Prop := AV.rec (motive := fun V => Prop) False (fun V => False) (fun V => False) (fun V => False) (fun V V => False) (fun V => False) (fun V => False) (fun V V => False)
 (us = []) (fun a l V V => BC ν a l us) (fun V V => False) a
theorem BRel.inv {ν : Nat → Int} {a : AV} {us : List UInt8} (x : BRel ν a us) : BI ν us a := by
 cases x with
 | nil => exact rfl
 | cons a b => exact ⟨_, _, _, rfl, rfl, a, b⟩
noncomputable def EqQ1 (G : Gl) (ρ : Rh) (s : Shared) (d : Nat) (a b : AV) (r : Bool) : Prop := ∀ {v w : Value} {A : Around}, V1 G ρ s.heap a v → V1 G ρ s.heap b w → A.units + d < 9900 → EqR A s v w r (isByt a)
noncomputable def EqQ2 (G : Gl) (ρ : Rh) (s : Shared) (d : Nat) (a b : AV) (r : Bool) : Prop := ∀ {vs ws : List Value} {A : Around}, V2 G ρ s.heap a vs → V2 G ρ s.heap b ws → A.units + d < 9900 → LexAt A s (fun V V r => r = false) true vs ws r ∧ (vs = ws → r = true)
noncomputable def EqQ3 (G : Gl) (a b : AV) (r : Bool) : Prop := ∀ {us xs : List UInt8}, BRel G.ν a us → BRel G.ν b xs → r = decide (us = xs)
noncomputable def onI (P : AI → Prop) (a : AV) : Prop := AV.rec (motive := fun V => Prop) True (fun V => True) P (fun V => True) (fun V V => True) (fun V => True) (fun V => True) (fun V V => True) True (fun V V V V => True) (fun V V => True) a
theorem EqD.int_inv {d : Nat} {a b : AV} {r : Bool} (q : EqD G d a b r) : onI (fun x => onI (fun y => (x.val G.ν == y.val G.ν) = r) b) a := by
 cases q with
 | int h => exact h
 | _ => exact trivial
theorem EqD.val {ρ : Rh} {s : Shared} {d : Nat} {a b : AV} {r : Bool} (q : EqD G d a b r) : EqQ1 G ρ s d a b r ∧ EqQ2 G ρ s d a b r ∧ EqQ3 G a b r := by
 induction q with
 | none =>
  refine ⟨fun hv hw V => ?_, fun hv => hv.inv.elim, fun hv => hv.inv.elim⟩
  cases hv.none_inv; cases hw.none_inv
  exact ⟨EqAt.same _, RcAt.none_none, fun V => RcNeAt.none_none, fun V => rfl⟩
 | @bool d x y =>
  refine ⟨fun hv hw V => ?_, fun hv => hv.inv.elim, fun hv => hv.inv.elim⟩
  cases hv.bool_inv; cases hw.bool_inv
  exact ⟨EqAt.bool_bool x y, RcAt.bool_bool x y, fun V => RcNeAt.bool_bool x y, fun e => beq_iff_eq.mpr (Value.bool.inj e)⟩
 | int h =>
  refine ⟨fun hv hw V => ?_, fun hv => hv.inv.elim, fun hv => hv.inv.elim⟩
  obtain ⟨tx, rfl⟩ := hv.int_inv
  obtain ⟨ty, rfl⟩ := hw.int_inv
  subst h
  exact ⟨EqAt.int_int _ _ _ _, RcAt.int_int _ _ _ _, fun V => RcNeAt.int_int _ _ _ _, fun e => beq_iff_eq.mpr (Value.int.inj e).1⟩
 | str h =>
  refine ⟨fun hv hw V => ?_, fun hv => hv.inv.elim, fun hv => hv.inv.elim⟩
  obtain ⟨tx, rfl⟩ := hv.str_inv
  obtain ⟨ty, rfl⟩ := hw.str_inv
  subst h
  exact ⟨EqAt.str_str _ _ _ _, RcAt.str_str _ _ _ _, fun V => RcNeAt.str_str _ _ _ _, fun e => beq_iff_eq.mpr (Value.str.inj e).1⟩
 | @byt d x y r h ih =>
  refine ⟨fun hv hw V => ?_, fun hv => hv.inv.elim, fun hv => hv.inv.elim⟩
  obtain ⟨b1, tx, rfl, h1, z1⟩ := hv.byt_inv
  obtain ⟨b2, ty, rfl, h2, z2⟩ := hw.byt_inv
  have e := ih.2.2 h1 h2
  have e2 : (b1.toList == b2.toList) = r := by rw [e, Bool.eq_iff_iff]; simp
  have rc : ∀ A, RcAt A s (.bytes b1 tx) (.bytes b2 ty) r := fun A => e2 ▸ EqAt.bytes b1 b2 tx ty
  have same : Value.bytes b1 tx = Value.bytes b2 ty → r = true := fun q => e.trans (decide_eq_true (congrArg Array.toList (Value.bytes.inj q).1))
  exact ⟨EqAt.rc_bytes (rc _) same, rc _, (fun q => absurd q.symm Bool.false_ne_true), same⟩
 | @tup d x y r h ih =>
  refine ⟨fun hv hw hA => ?_, fun hv => hv.inv.elim, fun hv => hv.inv.elim⟩
  obtain ⟨a1, vs, rfl, g1, h1, z1⟩ := hv.tup_inv
  obtain ⟨a2, ws, rfl, g2, h2, z2⟩ := hw.tup_inv
  obtain ⟨l, e⟩ := ih.2.1 (A := Around.in1 _) h1 h2 (Nat.add_right_comm _ d 1 ▸ hA)
  have hu := Nat.lt_of_le_of_lt (Nat.le_add_right _ _) hA
  have rc := rc_lex g1 g2 hu l
  have same : Value.ref a1 = Value.ref a2 → r = true := fun q => by
   cases q
   have g := g1.symm.trans g2
   simp only [Option.some.injEq, Obj.mk.injEq, Data.seq.injEq, true_and, and_true] at g
   exact e (by simpa using g)
  exact ⟨EqAt.rc_refs rc same, rc, fun V => ne_lex g1 g2 hu l.not, same⟩
 | nil =>
  refine ⟨fun hv => hv.inv.elim, fun hv hw V => ?_, fun hv hw => ?_⟩
  · cases (hv.inv : _ = []); cases (hw.inv : _ = [])
    exact ⟨.nil, fun V => rfl⟩
  · rw [show _ = [] from hv.inv, show _ = [] from hw.inv]; rfl
 | ne h ih =>
  refine ⟨fun hv => hv.inv.elim, fun hv hw hA => ?_, fun hv hw => ?_⟩
  · obtain ⟨v, vs, rfl, v1, v2⟩ := hv.inv
    obtain ⟨w, ws, rfl, w1, w2⟩ := hw.inv
    have q := ih.1 v1 w1 hA
    exact ⟨.diff q.eq rfl, fun e => q.same (List.cons.inj e).1⟩
  · obtain ⟨i, u, us, rfl, rfl, e1, _⟩ := hv.inv
    obtain ⟨j, x, xs, rfl, rfl, e2, _⟩ := hw.inv
    have q := beq_eq_false_iff_ne.mp h.int_inv
    rw [e1, e2] at q
    exact (decide_eq_false fun e => q (congrArg (fun u => ((UInt8.toNat u : Nat) : Int)) (List.cons.inj e).1)).symm
 | eq h h2 ih ih2 =>
  refine ⟨fun hv => hv.inv.elim, fun hv hw hA => ?_, fun hv hw => ?_⟩
  · obtain ⟨v, vs, rfl, v1, v2⟩ := hv.inv
    obtain ⟨w, ws, rfl, w1, w2⟩ := hw.inv
    obtain ⟨l, e⟩ := ih2.2.1 v2 w2 hA
    exact ⟨.same (ih.1 v1 w1 hA).eq l, fun q => e (List.cons.inj q).2⟩
  · obtain ⟨i, u, us, rfl, rfl, e1, r1⟩ := hv.inv
    obtain ⟨j, x, xs, rfl, rfl, e2, r2⟩ := hw.inv
    have q := beq_iff_eq.mp h.int_inv
    rw [e1, e2] at q
    cases UInt8.toNat_inj.mp (Int.ofNat.inj q)
    rw [ih2.2.2 r1 r2]
    exact decide_eq_decide.mpr ⟨congrArg _, fun e => (List.cons.inj e).2⟩
theorem eqV_some {R : Orc} (hR : OrcOk G.ν R) (Y : Cy G) {A : Around} {ρ : Rh} {s : Shared} {a b : AV} {d : Nat} {t f : B} {v w : Value} (h : eqV R a d b t f = true) (hv : V1 G ρ s.heap a v) (hw : V1 G ρ s.heap b w) (hA : A.units + d < 9900) :
 PkR (fun r => EqR A s v w r (isByt a)) t f := let ⟨r, g, q⟩ := eqV_d hR Y h; ⟨r, g, q.val.1 hv hw hA⟩
end Mst
end
section
namespace Mst
open PySem PySem.W PyProof.Rows PySem.Calls PySem.SeqAt
variable {G : Gl} {Z : ER} [EOk0 G Z]
theorem pick_bool {r : Bool} {t f : B} (h : tstK (.bool r) t f = true) : pick r t f := h
inductive Ord2 : Nat → CmpOp → Prop | lt : Ord2 10 .Lt | le : Ord2 11 .LtE
inductive LtD (G : Gl) (o : Nat) : Nat → AV → AV → Bool → Prop
 | int {d : Nat} {x y : AI} {r : Bool} : ISpec G.ν o (x.val G.ν) (y.val G.ν) (.bool r) → LtD G o d (.int x) (.int y) r
 | tup {d : Nat} {x y : AV} {r : Bool} : LtD G o d x y r → LtD G o (d + 1) (.tup x) (.tup y) r
 | nil {d : Nat} : LtD G o d .nil .nil (Nat.beq o 11)
 | ne {d : Nat} {x y l m : AV} {r : Bool} : EqD G d x y false → LtD G o d x y r → LtD G o d (.cons x l) (.cons y m) r
 | eq {d : Nat} {x y l m : AV} {r : Bool} : EqD G d x y true → LtD G o d l m r → LtD G o d (.cons x l) (.cons y m) r
theorem ltV_d {R : Orc} (hR : OrcOk G.ν R) (Y : Cy G) {o : Nat} : ∀ {a : AV} {d : Nat} {b : AV} {t f : B}, ltV R o a d b t f = true → PkR (LtD G o d a b) t f := by
 intro a
 induction a with
 | int x =>
  intro d b t f h
  obtain ⟨y, e, g⟩ := intK_e h
  obtain ⟨v, hs, g⟩ := opI_some hR g
  obtain ⟨r, e2, g⟩ := boolK_e g
  exact e ▸ ⟨r, g, .int (e2 ▸ hs)⟩
 | tup x ih =>
  intro d b t f h
  cases d with
  | zero => exact ff h
  | succ d =>
   obtain ⟨y, e, g⟩ := tupK_e h
   obtain ⟨r, g, q⟩ := ih g
   exact e ▸ ⟨r, g, .tup q⟩
 | nil =>
  intro d b t f h
  obtain ⟨e, g⟩ := nilK_e h
  subst e
  exact ⟨_, g, .nil⟩
 | cons x l ih1 ih2 =>
  intro d b t f h
  obtain ⟨y, m, e, g⟩ := consK_e h
  obtain ⟨r, g, q⟩ := eqV_d hR Y g
  cases r with
  | false =>
   obtain ⟨r, g, q2⟩ := ih1 g
   exact e ▸ ⟨r, g, .ne q q2⟩
  | true =>
   obtain ⟨r, g, q2⟩ := ih2 g
   exact e ▸ ⟨r, g, .eq q q2⟩
 | _ => exact fun h => ff h
noncomputable def OrAt (op : CmpOp) (A : Around) (s : Shared) (v w : Value) (r : Bool) : Prop := ∀ (prog : Program) (W : World) (E Q : Value → Shared → Prop), Q (.bool r) s → wpAny (model prog W) A (richCompare op v w) Q E s
theorem LtD.val {o : Nat} {op : CmpOp} (hop : Ord2 o op) {ρ : Rh} {s : Shared} {d : Nat} {a b : AV} {r : Bool} (q : LtD G o d a b r) :
 (∀ {v w : Value} {A : Around}, V1 G ρ s.heap a v → V1 G ρ s.heap b w → A.units + d < 9900 → OrAt op A s v w r) ∧
 (∀ {vs ws : List Value} {A : Around}, V2 G ρ s.heap a vs → V2 G ρ s.heap b ws → A.units + d < 9900 → LexAt A s (OrAt op A s) (Nat.beq o 11) vs ws r) := by
 induction q with
 | int hs =>
  refine ⟨fun hv hw V => ?_, fun hv => hv.inv.elim⟩
  obtain ⟨tx, rfl⟩ := hv.int_inv
  obtain ⟨ty, rfl⟩ := hw.int_inv
  cases hop with
  | lt =>
   cases (show AV.bool _ = .bool (decide (_ < _)) from hs)
   exact fun prog w E Q hq => PySem.P.lt_int hq
  | le =>
   cases (show AV.bool _ = .bool (decide (_ ≤ _)) from hs)
   exact fun prog w E Q hq => PySem.P.le_int hq
 | @tup d x y r h ih =>
  refine ⟨fun hv hw hA => ?_, fun hv => hv.inv.elim⟩
  obtain ⟨a1, vs, rfl, g1, h1, z1⟩ := hv.tup_inv
  obtain ⟨a2, ws, rfl, g2, h2, z2⟩ := hw.tup_inv
  have l := ih.2 (A := Around.in1 _) h1 h2 (Nat.add_right_comm _ d 1 ▸ hA)
  have hu := Nat.lt_of_le_of_lt (Nat.le_add_right _ _) hA
  cases hop with
  | lt => exact lt_lex g1 g2 hu l
  | le => exact le_lex g1 g2 hu l
 | nil =>
  refine ⟨fun hv => hv.inv.elim, fun hv hw V => ?_⟩
  cases (hv.inv : _ = []); cases (hw.inv : _ = [])
  exact .nil
 | ne h h2 ih =>
  refine ⟨fun hv => hv.inv.elim, fun hv hw hA => ?_⟩
  obtain ⟨v, vs, rfl, v1, v2⟩ := hv.inv
  obtain ⟨w, ws, rfl, w1, w2⟩ := hw.inv
  exact .diff (h.val.1 v1 w1 hA).eq (ih.1 v1 w1 hA)
 | eq h h2 ih =>
  refine ⟨fun hv => hv.inv.elim, fun hv hw hA => ?_⟩
  obtain ⟨v, vs, rfl, v1, v2⟩ := hv.inv
  obtain ⟨w, ws, rfl, w1, w2⟩ := hw.inv
  exact .same (h.val.1 v1 w1 hA).eq (ih.2 v2 w2 hA)
theorem ltV_some {R : Orc} (hR : OrcOk G.ν R) (Y : Cy G) {A : Around} {ρ : Rh} {s : Shared} {o : Nat} {op : CmpOp} (hop : Ord2 o op) {a b : AV} {d : Nat} {t f : B} {v w : Value} (h : ltV R o a d b t f = true) (hv : V1 G ρ s.heap a v) (hw : V1 G ρ s.heap b w) (hA : A.units + d < 9900) :
 PkR (fun r => OrAt op A s v w r) t f := let ⟨r, g, q⟩ := ltV_d hR Y h; ⟨r, g, (q.val hop).1 hv hw hA⟩
inductive LtI (ν : Nat → Int) (o : Nat) (v w : Value) (t f : B) : Prop
 | mk (x y : Int) (tx ty : Tok) (u : AV) : v = .int x tx → w = .int y ty → ISpec ν o x y u → tstK u t f = true → LtI ν o v w t f
theorem ltV_int {R : Orc} (hR : OrcOk G.ν R) {ρ : Rh} {h : Heap} {o : Nat} {a b : AV} {t f : B} {v w : Value} (hk : ltV R o a 0 b t f = true) (hv : V1 G ρ h a v) (hw : V1 G ρ h b w) : LtI G.ν o v w t f := by
 cases a with
 | int x =>
  obtain ⟨tx, rfl⟩ := hv.int_inv
  obtain ⟨y, ty, rfl, g⟩ := hw.intK hk
  obtain ⟨u, hs, h⟩ := opI_some hR g
  exact ⟨_, _, tx, ty, u, rfl, rfl, hs, h⟩
 | nil => exact hv.inv.elim
 | cons => exact hv.inv.elim
 | _ => exact ff hk
end Mst
end
section
namespace Mst
open PySem PySem.W PyProof.Rows PySem.Calls PySem.SeqAt
variable {G : Gl} {Z : ER} [EOk0 G Z]
noncomputable def cmpOf : Nat → Option CmpOp
 | 0 => some .Eq | 1 => some .NotEq | 2 => some .Lt | 3 => some .LtE | 4 => some .Gt | 5 => some .GtE | 6 => some .In | 7 => some .NotIn | 8 => some .Is | 9 => some .IsNot
 | _ => none
variable (G)
noncomputable def NoIn : Prop := ∀ n, n = 21 ∨ n = 22 → (Builtin.Str.occurrences (G.nmS n) (G.nmS 8) 0 (G.nmS n).length 1).isEmpty = true
variable {G}
inductive QC (s : Shared) (t f : B) (c : Value) (s' : Shared) : Prop
 | mk (r : Bool) (k : Nat) : c = .bool r → pick r t f → s' = { s with toks := k } → QC s t f c s'
theorem QC.now {s : Shared} {t f : B} {r : Bool} (h : pick r t f) : QC s t f (.bool r) s := ⟨r, s.toks, rfl, h, rfl⟩
theorem pick_not {r : Bool} {t f : B} (h : pick r f t) : pick (!r) t f := by cases r <;> exact h
theorem memV_some {R : Orc} (hR : OrcOk G.ν R) (Y : Cy G) {A : Around} {ρ : Rh} {s : Shared} {q : AV} {w : Value} (hw : V1 G ρ s.heap q w) (hA : A.units + 8 < 9900) {vs : List Value} {l : AV} (v : LR (V1 G ρ s.heap) l vs) {t f : B} : memV R l q t f = true → PkR (HasAt A s w vs) t f := by
 induction v with
 | nil => exact fun h => ⟨false, h, .nil⟩
 | cons a _ ih =>
  intro h
  obtain ⟨r, hr, e⟩ := eqV_some hR Y h a hw hA
  cases r with
  | true => exact ⟨true, hr, .here e.eq⟩
  | false => exact let ⟨r, h1, h2⟩ := ih hr; ⟨r, h1, .there e.eq h2⟩
theorem dict_kinds {prog : Program} {w : World} {o : Obj} (h : o.IsDictOf (intKind prog w) []) : o.IsDictOf (PySem.strKind prog w) [] := by
 obtain ⟨es, ep, h1, h2, h3, h4, h5⟩ := h
 have e : es.toList = [] := by
  have := h4.length
  exact List.length_eq_zero_iff.mp this
 refine ⟨es, ep, h1, h2, ?_, ?_, List.nodup_nil⟩
 · intro x hx
   rw [Array.mem_def, e] at hx; cases hx
 · rw [e]; exact .nil
theorem dict_kinds' {prog : Program} {w : World} {o : Obj} (h : o.IsDictOf (PySem.strKind prog w) []) : o.IsDictOf (intKind prog w) [] := by
 obtain ⟨es, ep, h1, h2, h3, h4, h5⟩ := h
 have e : es.toList = [] := by
  have := h4.length
  exact List.length_eq_zero_iff.mp this
 refine ⟨es, ep, h1, h2, ?_, ?_, List.nodup_nil⟩
 · intro x hx
   rw [Array.mem_def, e] at hx; cases hx
 · rw [e]; exact .nil
inductive RcR (A : Around) (s : Shared) (va vb : Value) (nb : Bool) (t f : B) : Prop
 | mk (r : Bool) : pick r t f → RcAt A s va vb r → (nb = false → RcNeAt A s va vb (!r)) → RcR A s va vb nb t f
section
variable {A : Around} {s : Shared} {a b : Addr} {n m : Nat} {vs ws : List Value} {t f : B} {nb : Bool}
theorem ls_nil (g1 : s.heap.get? a = some (listOf #[] n)) (g2 : s.heap.get? b = some (listOf #[] m)) (hu : A.units < cLine) (h : t = true) : RcR A s (.ref a) (.ref b) nb t f :=
 have I1 : s.heap.IsList a #[] := ⟨_, g1, rfl, n, rfl⟩
 have I2 : s.heap.IsList b #[] := ⟨_, g2, rfl, m, rfl⟩
 ⟨true, h, RcAt.lists (e := fun V => true) I1 I2 rfl hu (fun j h1 => absurd h1 (Nat.not_lt_zero _)), fun V => RcNeAt.lists (e := fun V => true) I1 I2 rfl hu (fun j h1 => absurd h1 (Nat.not_lt_zero _))⟩
theorem ls_len (g1 : s.heap.get? a = some (listOf vs.toArray n)) (g2 : s.heap.get? b = some (listOf ws.toArray m)) (hu : A.units < cLine) (e : vs.length ≠ ws.length) (h : f = true) : RcR A s (.ref a) (.ref b) nb t f :=
 have I1 : s.heap.IsList a vs.toArray := ⟨_, g1, rfl, n, rfl⟩
 have I2 : s.heap.IsList b ws.toArray := ⟨_, g2, rfl, m, rfl⟩
 have hs : (vs.toArray.size != ws.toArray.size) = true := bne_iff_ne.mpr e
 ⟨false, h, RcAt.lists_lengths I1 I2 hs hu, fun V => RcNeAt.lists_lengths I1 I2 hs hu⟩
theorem ls_one {x y : Value} {r : Bool} (g1 : s.heap.get? a = some (listOf [x].toArray n)) (g2 : s.heap.get? b = some (listOf [y].toArray m)) (hu : A.units < cLine) (e : EqAt A.in1 s x y r) (h : pick r t f) : RcR A s (.ref a) (.ref b) nb t f := by
 have I1 : s.heap.IsList a [x].toArray := ⟨_, g1, rfl, n, rfl⟩
 have I2 : s.heap.IsList b [y].toArray := ⟨_, g2, rfl, m, rfl⟩
 have key : ∀ j (h1 : j < [x].toArray.size) (h2 : j < [y].toArray.size), EqAt A.in1 s ([x].toArray[j]) ([y].toArray[j]) r := fun j h1 h2 => by
  cases j with
  | zero => exact e
  | succ j => exact absurd (Nat.lt_of_succ_lt_succ h1) (Nat.not_lt_zero _)
 have q1 := RcAt.lists (e := fun V => r) I1 I2 rfl hu key
 have q2 := RcNeAt.lists (e := fun V => r) I1 I2 rfl hu key
 have e : (List.range [x].toArray.size).all (fun V => r) = r := Bool.and_true r
 rw [e] at q1 q2
 exact ⟨r, h, q1, fun V => q2⟩
end
theorem nilB_e {α : Type} {P : AV → α → Prop} {l : AV} {xs : List α} {t f : B} (x : LR P l xs) (h : nilB l t f = true) : (xs = [] ∧ t = true) ∨ (xs.length ≠ 0 ∧ f = true) := by
 cases x with
 | nil => exact .inl ⟨rfl, h⟩
 | cons a r => exact .inr ⟨Nat.succ_ne_zero _, h⟩
theorem lists_eq {R : Orc} (hR : OrcOk G.ν R) (Y : Cy G) {A : Around} {ρ : Rh} {s : Shared} {a b : Addr} {n m : Nat} {vs ws : List Value} {l k : AV} {t f : B} {nb : Bool} (hA : A.units + 9 < 9900) (hu : A.units < cLine) (g1 : s.heap.get? a = some (listOf vs.toArray n)) (g2 : s.heap.get? b = some (listOf ws.toArray m))
 (v : V2 G ρ s.heap l vs) (w : V2 G ρ s.heap k ws) (hk : lsEq R l k t f = true) : RcR A s (.ref a) (.ref b) nb t f := by
 rcases nilB_e v.lr hk with ⟨rfl, h⟩ | ⟨e, h⟩
 · rcases nilB_e w.lr h with ⟨rfl, h⟩ | ⟨e, h⟩
   · exact ls_nil g1 g2 hu h
   · exact ls_len g1 g2 hu e.symm h
 · rcases nilB_e w.lr h with ⟨rfl, h⟩ | ⟨e, h⟩
   · exact ls_len g1 g2 hu e h
   · obtain ⟨x, xv, rfl, hx, h⟩ := v.oneK h
     obtain ⟨y, yv, rfl, hy, h⟩ := w.oneK h
     obtain ⟨r, hr, e⟩ := eqV_some hR Y (A := A.in1) h hx hy (Nat.lt_of_le_of_lt (Nat.le_of_eq (Nat.add_right_comm _ 1 8)) hA)
     exact ls_one g1 g2 hu e.eq hr
theorem eqK_some {R : Orc} (hR : OrcOk G.ν R) (Y : Cy G) {A : Around} {ρ : Rh} {σ : St} {s : Shared} {a b : AV} {va vb : Value} {t f : B} (X : SR G ρ σ s.heap) (hA : A.units + 9 < 9900) (ha : V1 G ρ s.heap a va) (hb : V1 G ρ s.heap b vb) (hk : eqK R σ a b t f = true) : RcR A s va vb (isByt a) t f := by
 have hu : A.units < cLine := Nat.lt_of_le_of_lt (Nat.le_add_right _ _) hA
 have fin : eqV R a 8 b t f = true → RcR A s va vb (isByt a) t f := fun h => let ⟨r, g, e⟩ := eqV_some hR Y h ha hb (Nat.lt_of_succ_lt hA); ⟨r, g, e.rc, e.ne⟩
 cases a with
 | ref p =>
  obtain ⟨_, _, l, vs, n, rfl, _, _, g1, v, _, hk⟩ := ha.lsP X hk
  obtain ⟨_, _, m, ws, n, rfl, _, _, g2, w, _, hk⟩ := hb.lsP X hk
  exact lists_eq hR Y hA hu g1 g2 v w hk
 | frl l =>
  obtain ⟨ap, vs, n, rfl, g1, v, _⟩ := ha.frl_inv
  obtain ⟨_, _, m, ws, n, rfl, _, _, g2, w, _, hk⟩ := hb.lsP X hk
  obtain ⟨rfl, hk⟩ := w.nilK hk
  rcases nilB_e (v.v2 (ρ := ρ) (h := s.heap)).lr hk with ⟨rfl, h⟩ | ⟨e, h⟩
  · exact ls_nil (X.base _ _ g1) g2 hu h
  · exact ls_len (X.base _ _ g1) g2 hu e h
 | kd => exact ff hk
 | _ => exact fin hk
end Mst
end
section
namespace Mst
open PySem PySem.W PyProof.Rows PySem.Calls PySem.SeqAt
variable {G : Gl} {Z : ER} [EOk0 G Z]
inductive InR (G : Gl) (A : Around) (s : Shared) (va vb : Value) (t f : B) : Prop
 | mk (r : Bool) (k : Nat) : pick r t f → (∀ {E : Value → Shared → Prop} (Q : Value → Shared → Prop), Q (.bool r) { s with toks := k } → wpAny (model G.prog G.w) A (compareOp .In va vb) Q E s) →
  (∀ {E : Value → Shared → Prop} (Q : Value → Shared → Prop), Q (.bool (!r)) { s with toks := k } → wpAny (model G.prog G.w) A (compareOp .NotIn va vb) Q E s) → InR G A s va vb t f
theorem in_gen {K : Type} [DecidableEq K] {knd : PySem.KeyKind G.prog G.w K} {A : Around} {s : Shared} {ap : Addr} {o : Obj} {kvs : List (K × Value)} {j : K} {va : Value} {t f : B} {r : Bool} (hk : knd.is j va = true) (y : (ap == sysModules) = false)
 (g : s.heap.get? ap = some o) (id : o.IsDictOf knd kvs) (hn : (valueAt kvs j).isSome = r) (hp : pick r t f) : InR G A s va (.ref ap) t f := by
 have D : s.heap.DictOf knd ap _ := Heap.dictOf_iff.mpr ⟨_, g, id⟩
 subst hn
 exact ⟨_, _, hp, fun Q hq => wpAny_in_of hk y D.mapOf hq, fun Q hq => wpAny_notIn_of hk y D.mapOf hq⟩
theorem in_nil {A : Around} {ρ : Rh} {s : Shared} {ap : Addr} {o : Obj} {a : AV} {va : Value} {t f : B} (ha : V1 G ρ s.heap a va) (y : (ap == sysModules) = false) (g : s.heap.get? ap = some o) (id : o.IsDictOf (intKind G.prog G.w) [])
 (h : keyish a f = true) : InR G A s va (.ref ap) t f := by
 rcases keyish_some h with ⟨⟨_, rfl⟩ | ⟨_, rfl⟩, h⟩
 · obtain ⟨u, rfl⟩ := ha.int_inv
   exact in_gen isInt_val y g id (r := false) rfl h
 · obtain ⟨u, rfl⟩ := ha.str_inv
   exact in_gen isStr_val y g (dict_kinds id) (r := false) rfl h
theorem in_dict {R : Orc} (hR : OrcOk G.ν R) (Y : Cy G) {A : Around} {ρ : Rh} {s : Shared} {a : AV} {l : AV} {ap d : Addr} {va : Value} {t f : B} (ho : OR G ρ s.heap ap d (.dict l)) (ha : V1 G ρ s.heap a va)
 (hk : dGet R l a f (fun V => t) = true) : InR G A s va (.ref ap) t f := by
 rcases ho.inv with ⟨o, kvs, e, g, id, dv, z, y⟩ | ⟨o, kvs, e, g, id, dv, z, y⟩
 · rcases dGet_int hR dv hk with ⟨j, ⟨i, rfl, rfl⟩, h1, h2⟩ | ⟨j, v, w, ⟨i, rfl, rfl⟩, h1, _, h2⟩ | ⟨rfl, h⟩
   · obtain ⟨u, rfl⟩ := ha.int_inv
     exact in_gen isInt_val y g id (r := false) (h1 ▸ rfl) h2
   · obtain ⟨u, rfl⟩ := ha.int_inv
     exact in_gen isInt_val y g id (r := true) (h1 ▸ rfl) h2
   · exact in_nil ha y g id h
 · rcases dGet_str Y.injS dv hk with ⟨j, ⟨i, rfl, rfl⟩, h1, h2⟩ | ⟨j, v, w, ⟨i, rfl, rfl⟩, h1, _, h2⟩ | ⟨rfl, h⟩
   · obtain ⟨u, rfl⟩ := ha.str_inv
     exact in_gen isStr_val y g id (r := false) (h1 ▸ rfl) h2
   · obtain ⟨u, rfl⟩ := ha.str_inv
     exact in_gen isStr_val y g id (r := true) (h1 ▸ rfl) h2
   · exact in_nil ha y g (dict_kinds' id) h
theorem inK_some {R : Orc} (hR : OrcOk G.ν R) (Y : Cy G) {A : Around} {ρ : Rh} {σ : St} {s : Shared} {a b : AV} {va vb : Value} {t f : B} (X : SR G ρ σ s.heap) (hA : A.units + 9 < 9900) (ha : V1 G ρ s.heap a va) (hb : V1 G ρ s.heap b vb) (hk : inK R σ a b t f = true) : InR G A s va vb t f := by
 cases b with
 | ref p =>
  obtain ⟨_, _, _, l, rfl, _, _, ho, hk⟩ := hb.dcP X hk
  exact in_dict hR Y ho ha hk
 | tup l =>
  obtain ⟨a1, vs, rfl, g1, h1, z1⟩ := hb.tup_inv
  obtain ⟨r, h3, h2⟩ := memV_some hR Y (A := A.in1) ha (Nat.lt_of_le_of_lt (Nat.le_of_eq (Nat.add_right_comm _ 1 8)) hA) h1.lr hk
  exact ⟨r, s.toks, h3, fun Q q => SeqRoads2.in_meets ⟨_, g1, rfl⟩ PySem.F.slot_tuple_contains PySem.F.entry_tuple_contains (PySem.F.args_tuple_contains_2 _ _) (tuple_has a1 vs.toArray 0 none #[] va r) ⟨g1, h2, _, rfl, q⟩,
   fun Q q => SeqRoads2.notIn_meets ⟨_, g1, rfl⟩ PySem.F.slot_tuple_contains PySem.F.entry_tuple_contains (PySem.F.args_tuple_contains_2 _ _) (tuple_has a1 vs.toArray 0 none #[] va r) ⟨g1, h2, _, rfl, q⟩⟩
 | _ => exact ff hk
theorem isNo_e {ρ : Rh} {h : Heap} {a : AV} {v : Value} {t f : B} (x : V1 G ρ h a v) (hk : isNo a t f = true) : (v = .none ∧ t = true) ∨ (v ≠ .none ∧ f = true) := by
 by_cases e : v = .none
 · cases a with
   | none => exact .inl ⟨e, hk⟩
   | nil => exact x.inv.elim
   | cons => exact x.inv.elim
   | _ =>
    subst e
    first
     | (obtain ⟨_, q⟩ := x.int_inv; cases q; done)
     | (obtain ⟨_, q⟩ := x.str_inv; cases q; done)
     | (obtain ⟨_, _, q, _⟩ := x.byt_inv; cases q; done)
     | (obtain ⟨_, _, q, _⟩ := x.ref_inv; cases q; done)
     | (obtain ⟨_, _, q, _⟩ := x.tup_inv; cases q; done)
     | (obtain ⟨_, _, _, q, _⟩ := x.frl_inv; cases q; done)
     | (cases x.bool_inv; done)
     | (cases x.kd_inv; done)
 · refine .inr ⟨e, ?_⟩
   cases a with
   | none => exact absurd x.none_inv e
   | _ => exact hk
theorem cmp_no {A : Around} {ρ : Rh} {s : Shared} {a b : AV} {va vb : Value} {t f : B} (ha : V1 G ρ s.heap a va) (hb : V1 G ρ s.heap b vb) :
 (noneK b (isNo a t f) = true → wpAny (model G.prog G.w) A (compareOp .Is va vb) (QC s t f) (fun V V => False) s) ∧ (noneK b (isNo a f t) = true → wpAny (model G.prog G.w) A (compareOp .IsNot va vb) (QC s t f) (fun V V => False) s) := by
 refine ⟨fun hk => ?_, fun hk => ?_⟩
 · obtain ⟨rfl, hk⟩ := hb.noneK hk
   rcases isNo_e ha hk with ⟨rfl, h⟩ | ⟨e, h⟩
   · exact is_none_none (QC.now h)
   · exact is_none_ne e (QC.now h)
 · obtain ⟨rfl, hk⟩ := hb.noneK hk
   rcases isNo_e ha hk with ⟨rfl, h⟩ | ⟨e, h⟩
   · exact isnot_none_none (QC.now h)
   · exact isnot_none_ne e (QC.now h)
theorem bytB_e {a : AV} {k : B} (h : bytB a k = true) : isByt a = false ∧ k = true := by
 cases a <;> first | exact ff h | exact ⟨rfl, h⟩
theorem in_str {A : Around} (NI : NoIn G) {ρ : Rh} {s : Shared} {a : AV} {n : Nat} {va vb : Value} {t f : B} (ha : V1 G ρ s.heap a va) (hb : V1 G ρ s.heap (.str n) vb) (hk : strK a (fun m => ifB (Nat.beq m 8) (ifB (Nat.beq n 21) f (ifB (Nat.beq n 22) f false)) false) = true) :
 wpAny (model G.prog G.w) A (compareOp .In va vb) (QC s t f) (fun V V => False) s := by
 obtain ⟨m, u, rfl, hk⟩ := ha.strK hk
 obtain ⟨u2, rfl⟩ := hb.str_inv
 rcases beq_e hk with ⟨rfl, g⟩ | ⟨_, g⟩
 · have fin : n = 21 ∨ n = 22 → f = true → wpAny (model G.prog G.w) A (compareOp .In (.str (G.nmS 8) u) (.str (G.nmS n) u2)) (QC s t f) (fun V V => False) s := fun hn hf => by
    refine PySem.P.in_str ?_
    rw [NI n hn]
    exact QC.now hf
   rcases beq_e g with ⟨e, g⟩ | ⟨_, g⟩
   · exact fin (.inl e) g
   · rcases beq_e g with ⟨e, g⟩ | ⟨_, g⟩
     · exact fin (.inr e) g
     · exact ff g
 · exact ff g
inductive CmpO : Nat → CmpOp → Prop
 | c0 : CmpO 0 .Eq | c1 : CmpO 1 .NotEq | c2 : CmpO 2 .Lt | c3 : CmpO 3 .LtE | c4 : CmpO 4 .Gt | c5 : CmpO 5 .GtE | c6 : CmpO 6 .In | c7 : CmpO 7 .NotIn | c8 : CmpO 8 .Is | c9 : CmpO 9 .IsNot
theorem cmpOf_inv {op : CmpOp} : ∀ {o : Nat}, cmpOf o = some op → CmpO o op
 | 0, h => Option.some.inj h ▸ .c0
 | 1, h => Option.some.inj h ▸ .c1
 | 2, h => Option.some.inj h ▸ .c2
 | 3, h => Option.some.inj h ▸ .c3
 | 4, h => Option.some.inj h ▸ .c4
 | 5, h => Option.some.inj h ▸ .c5
 | 6, h => Option.some.inj h ▸ .c6
 | 7, h => Option.some.inj h ▸ .c7
 | 8, h => Option.some.inj h ▸ .c8
 | 9, h => Option.some.inj h ▸ .c9
 | _ + 10, h => nomatch h
theorem cmpK_some {R : Orc} (hR : OrcOk G.ν R) (Y : Cy G) (NI : NoIn G) {A : Around} {ρ : Rh} {σ : St} {s : Shared} {o : Nat} {op : CmpOp} {a b : AV} {va vb : Value} {t f : B} (ho : cmpOf o = some op) (X : SR G ρ σ s.heap) (hA : A.units + 9 < 9900)
 (ha : V1 G ρ s.heap a va) (hb : V1 G ρ s.heap b vb) (hk : cmpK R σ o a b t f = true) : wpAny (model G.prog G.w) A (compareOp op va vb) (QC s t f) (fun V V => False) s := by
 have hA8 := Nat.lt_of_succ_lt hA
 cases cmpOf_inv ho with
 | c0 =>
  obtain ⟨r, h1, h2, _⟩ := eqK_some hR Y X hA ha hb hk
  exact h2 _ _ _ _ (QC.now h1)
 | c1 =>
  obtain ⟨h0, hk⟩ := bytB_e hk
  obtain ⟨r, h1, _, h2⟩ := eqK_some hR Y X hA ha hb hk
  exact h2 h0 _ _ _ _ (QC.now (pick_not h1))
 | c2 =>
  obtain ⟨r, h1, h2⟩ := ltV_some hR Y .lt hk ha hb hA8
  exact h2 _ _ _ _ (QC.now h1)
 | c3 =>
  obtain ⟨r, h1, h2⟩ := ltV_some hR Y .le hk ha hb hA8
  exact h2 _ _ _ _ (QC.now h1)
 | c4 =>
  obtain ⟨x, y, tx, ty, u, rfl, rfl, hs, h⟩ := ltV_int hR hk hb ha
  cases (show u = .bool (decide (x < y)) from hs)
  exact PySem.P.gt_int (QC.now (pick_bool h))
 | c5 =>
  obtain ⟨x, y, tx, ty, u, rfl, rfl, hs, h⟩ := ltV_int hR hk hb ha
  cases (show u = .bool (decide (x ≤ y)) from hs)
  exact PySem.P.ge_int (QC.now (pick_bool h))
 | c6 =>
  have gen : inK R σ a b t f = true → wpAny (model G.prog G.w) A (compareOp .In va vb) (QC s t f) (fun V V => False) s := fun hk =>
   let ⟨r, k, h1, h2, _⟩ := inK_some hR Y X hA ha hb hk; h2 _ ⟨r, k, rfl, h1, rfl⟩
  cases b with
  | str n => exact in_str NI ha hb hk
  | _ => exact gen hk
 | c7 =>
  obtain ⟨r, k, h1, _, h2⟩ := inK_some hR Y X hA ha hb hk
  exact h2 _ ⟨_, k, rfl, pick_not h1, rfl⟩
 | c8 => exact (cmp_no ha hb).1 hk
 | c9 => exact (cmp_no ha hb).2 hk
end Mst
end
section
namespace Mst
open PySem PySem.W PyProof.Rows PySem.Calls PySem.SeqAt
variable {G : Gl} {Z : ER} [EOk0 G Z]
theorem Rm.room {A : Around} {n : Nat} (R : Rm A n) : A.units + 9 < 9900 := by have := R.units; omega
theorem QC.step {ρ ρ' : Rh} {s s' s'' : Shared} {σ' : St} {t f : B} {c : Value} (P : Pst G ρ [] s ρ' s' σ') (h : QC s' t f c s'') : ∃ r, c = .bool r ∧ pick r t f ∧ Pst G ρ [] s ρ' s'' σ' := by
 obtain ⟨r, k, rfl, h1, rfl⟩ := h
 exact ⟨r, rfl, h1, P.trans (Pst.tok k P.sr)⟩
theorem cmp_core {R : Orc} (hR : OrcOk G.ν R) (Y : Cy G) (NI : NoIn G) {sc : Scope} {ev ev2 : Loc → St → (AV → St → B) → B} {n : Nat} {o : Nat} {op : CmpOp} {x y : PySem.Expr} (ho : cmpOf o = some op) (h : EvOk G Z sc ev n (fun env => eval x env)) (h2 : EvOk G Z sc ev2 n (fun env => eval y env))
 {l : Loc} {σ : St} {T F : St → B} (hk : ev l σ (fun a s => ev2 l s fun b s => cmpK R s o a b (T s) (F s)) = true) {env : Env} {A : Around} {s : Shared} {ρ : Rh} {m : PySem.Str → Option Value} (E : EnvOk G sc A env l ρ s.heap m) (X : SR G ρ σ s.heap) (Rr : Rm A n) :
 wpAny (model G.prog G.w) A (eval x env) (fun va s₁ => wpAny (model G.prog G.w) A (eval y env) (fun vb s₂ => wpAny (model G.prog G.w) A (compareOp op va vb)
  (fun c s₃ => ∃ r σ' ρ', c = .bool r ∧ Pst G ρ [] s ρ' s₃ σ' ∧ pick r (T σ') (F σ')) (Z env A ρ s) s₂) (Z env A ρ s) s₁) (Z env A ρ s) s := by
 refine wpAny_mono (h l σ _ hk env A s ρ m E X Rr) (fun va s₁ q => ?_) fun V V e => e
 obtain ⟨a, σ₁, ρ₁, P₁, hv₁, hk₁⟩ := q
 refine wpAny_mono (h2 l σ₁ _ hk₁ env A s₁ ρ₁ m (E.after P₁) P₁.sr Rr) (fun vb s₂ q => ?_) fun V V e => aft P₁ e
 obtain ⟨b, σ₂, ρ₂, P₂, hv₂, hk₂⟩ := q
 refine wpAny_mono (cmpK_some hR Y NI ho P₂.sr Rr.room (hv₁.mono P₂.le P₂.tups) hv₂ hk₂) (fun c s₃ q => ?_) fun V V e => e.elim
 obtain ⟨r, e, h3, P₃⟩ := QC.step (P₁.trans P₂) q
 exact ⟨r, σ₂, ρ₂, e, P₃, h3⟩
theorem ok_cmp {R : Orc} (hR : OrcOk G.ν R) (Y : Cy G) (NI : NoIn G) {sc : Scope} {ev ev2 : Loc → St → (AV → St → B) → B} {n : Nat} {p : Pos} {o : Nat} {op : CmpOp} {x y : PySem.Expr} (ho : cmpOf o = some op) (hm : behindInMarks op y = false) (h : EvOk G Z sc ev n (fun env => eval x env)) (h2 : EvOk G Z sc ev2 n (fun env => eval y env)) :
 EvOk G Z sc (fun l s k => ev l s fun a s => ev2 l s fun b s => cmpK R s o a b (k (.bool true) s) (k (.bool false) s)) n (fun env => eval (.Compare x [op] [y] p) env) := by
 intro l σ k hk env A s ρ m E X Rr
 refine wpAny_Compare1 (wpAny_mono (cmp_core hR Y NI ho h h2 (T := fun s => k (.bool true) s) (F := fun s => k (.bool false) s) hk E X Rr) (fun va s₁ q => wpAny_mono q (fun vb s₂ q => wpAny_mono q (fun c s₃ q => ?_) fun V V e => e) fun V V e => e) fun V V e => e) hm
 obtain ⟨r, σ', ρ', rfl, P, hk'⟩ := q
 exact ⟨.bool r, σ', ρ', P, .bool, by cases r <;> exact hk'⟩
theorem tr_cmp {R : Orc} (hR : OrcOk G.ν R) (Y : Cy G) (NI : NoIn G) {sc : Scope} {ev ev2 : Loc → St → (AV → St → B) → B} {n : Nat} {p : Pos} {o : Nat} {op : CmpOp} {x y : PySem.Expr} (ho : cmpOf o = some op) (hm : behindInMarks op y = false) (h : EvOk G Z sc ev n (fun env => eval x env)) (h2 : EvOk G Z sc ev2 n (fun env => eval y env)) :
 TrOk G Z sc (fun l s k => ev l s fun a s => ev2 l s fun b s => cmpK R s o a b (k (.bool true) s) (k (.bool false) s)) n (fun env => isTrue (.Compare x [op] [y] p) env (eval (.Compare x [op] [y] p) env)) := by
 intro l σ T F hk env A s ρ m E X Rr
 refine wpAny_isTrue_Compare1 (wpAny_mono (cmp_core hR Y NI ho h h2 (T := T) (F := F) hk E X Rr) (fun va s₁ q => wpAny_mono q (fun vb s₂ q => wpAny_mono q (fun c s₃ q => ?_) fun V V e => e) fun V V e => e) fun V V e => e) hm
 obtain ⟨r, σ', ρ', rfl, P, hk'⟩ := q
 exact wpAny_truthy_bool ⟨σ', ρ', P, hk'.ite⟩
theorem cmp2_core {R : Orc} (hR : OrcOk G.ν R) (Y : Cy G) (NI : NoIn G) {sc : Scope} {ev ev2 ev3 : Loc → St → (AV → St → B) → B} {n : Nat} {o o2 : Nat} {op op2 : CmpOp} {x y z : PySem.Expr} (ho : cmpOf o = some op) (ho2 : cmpOf o2 = some op2)
 (h : EvOk G Z sc ev n (fun env => eval x env)) (h2 : EvOk G Z sc ev2 n (fun env => eval y env)) (h3 : EvOk G Z sc ev3 n (fun env => eval z env))
 {l : Loc} {σ : St} {T F : St → B} (hk : ev l σ (fun a s => ev2 l s fun b s => cmpK R s o a b (ev3 l s fun c s => cmpK R s o2 b c (T s) (F s)) (F s)) = true) {env : Env} {A : Around} {s : Shared} {ρ : Rh} {m : PySem.Str → Option Value} (E : EnvOk G sc A env l ρ s.heap m) (X : SR G ρ σ s.heap) (Rr : Rm A n) :
 wpAny (model G.prog G.w) A (eval x env) (fun va s₁ => wpAny (model G.prog G.w) A (eval y env) (fun vb s₂ => wpAny (model G.prog G.w) A (compareOp op va vb)
  (fun c s₃ => wpAny (model G.prog G.w) A (truthy c) (fun t s₃ => if t then wpAny (model G.prog G.w) A (eval z env) (fun vc s₄ => wpAny (model G.prog G.w) A (compareOp op2 vb vc)
   (fun c s₅ => ∃ r σ' ρ', c = .bool r ∧ Pst G ρ [] s ρ' s₅ σ' ∧ pick r (T σ') (F σ')) (Z env A ρ s) s₄) (Z env A ρ s) s₃
   else c = .bool false ∧ ∃ σ' ρ', Pst G ρ [] s ρ' s₃ σ' ∧ F σ' = true) (Z env A ρ s) s₃) (Z env A ρ s) s₂) (Z env A ρ s) s₁) (Z env A ρ s) s := by
 refine wpAny_mono (h l σ _ hk env A s ρ m E X Rr) (fun va s₁ q => ?_) fun V V e => e
 obtain ⟨a, σ₁, ρ₁, P₁, hv₁, hk₁⟩ := q
 refine wpAny_mono (h2 l σ₁ _ hk₁ env A s₁ ρ₁ m (E.after P₁) P₁.sr Rr) (fun vb s₂ q => ?_) fun V V e => aft P₁ e
 obtain ⟨b, σ₂, ρ₂, P₂, hv₂, hk₂⟩ := q
 have P12 := P₁.trans P₂
 refine wpAny_mono (cmpK_some hR Y NI ho P₂.sr Rr.room (hv₁.mono P₂.le P₂.tups) hv₂ hk₂) (fun c s₃ q => ?_) fun V V e => e.elim
 obtain ⟨r, k, rfl, hp, rfl⟩ := q
 refine wpAny_truthy_bool ?_
 have P3 : Pst G ρ [] s ρ₂ { s₂ with toks := k } σ₂ := P12.trans (Pst.tok k P₂.sr)
 cases r with
 | false => exact ⟨rfl, σ₂, ρ₂, P3, hp⟩
 | true =>
  refine wpAny_mono (h3 l σ₂ _ hp env A _ ρ₂ m (E.after P3) P3.sr Rr) (fun vc s₄ q => ?_) fun V V e => aft P3 e
  obtain ⟨c, σ₃, ρ₃, P₄, hv₃, hk₃⟩ := q
  have P34 := P3.trans P₄
  refine wpAny_mono (cmpK_some hR Y NI ho2 P34.sr Rr.room (hv₂.mono P₄.le P₄.tups) hv₃ hk₃) (fun c s₅ q => ?_) fun V V e => e.elim
  obtain ⟨r, e, h5, P5⟩ := QC.step P34 q
  exact ⟨r, σ₃, ρ₃, e, P5, h5⟩
theorem ok_cmp2 {R : Orc} (hR : OrcOk G.ν R) (Y : Cy G) (NI : NoIn G) {sc : Scope} {ev ev2 ev3 : Loc → St → (AV → St → B) → B} {n : Nat} {p : Pos} {o o2 : Nat} {op op2 : CmpOp} {x y z : PySem.Expr} (ho : cmpOf o = some op) (ho2 : cmpOf o2 = some op2)
 (hm : lastMarks [op, op2] [y, z] = false) (h : EvOk G Z sc ev n (fun env => eval x env)) (h2 : EvOk G Z sc ev2 n (fun env => eval y env)) (h3 : EvOk G Z sc ev3 n (fun env => eval z env)) :
 EvOk G Z sc (fun l s k => ev l s fun a s => ev2 l s fun b s => cmpK R s o a b (ev3 l s fun c s => cmpK R s o2 b c (k (.bool true) s) (k (.bool false) s)) (k (.bool false) s)) n (fun env => eval (.Compare x [op, op2] [y, z] p) env) := by
 intro l σ k hk env A s ρ m E X Rr
 refine Compare_chain (wpAny_mono (cmp2_core hR Y NI ho ho2 h h2 h3 (T := fun s => k (.bool true) s) (F := fun s => k (.bool false) s) hk E X Rr) (fun va s₁ q => ?_) fun V V e => e) hm
 refine chain_link (wpAny_mono q (fun vb s₂ q => wpAny_mono q (fun c s₃ q => wpAny_mono q (fun t s₃ q => ?_) fun V V e => e) fun V V e => e) fun V V e => e)
 cases t with
 | false =>
  obtain ⟨rfl, σ', ρ', P, hk'⟩ := q
  exact ⟨.bool false, σ', ρ', P, .bool, hk'⟩
 | true =>
  refine chain_last (wpAny_mono q (fun vc s₄ q => wpAny_mono q (fun c s₅ q => ?_) fun V V e => e) fun V V e => e)
  obtain ⟨r, σ', ρ', rfl, P, hk'⟩ := q
  exact ⟨.bool r, σ', ρ', P, .bool, by cases r <;> exact hk'⟩
theorem tr_cmp2 {R : Orc} (hR : OrcOk G.ν R) (Y : Cy G) (NI : NoIn G) {sc : Scope} {ev ev2 ev3 : Loc → St → (AV → St → B) → B} {n : Nat} {p : Pos} {o o2 : Nat} {op op2 : CmpOp} {x y z : PySem.Expr} (ho : cmpOf o = some op) (ho2 : cmpOf o2 = some op2)
 (hm : lastMarks [op, op2] [y, z] = false) (h : EvOk G Z sc ev n (fun env => eval x env)) (h2 : EvOk G Z sc ev2 n (fun env => eval y env)) (h3 : EvOk G Z sc ev3 n (fun env => eval z env)) :
 TrOk G Z sc (fun l s k => ev l s fun a s => ev2 l s fun b s => cmpK R s o a b (ev3 l s fun c s => cmpK R s o2 b c (k (.bool true) s) (k (.bool false) s)) (k (.bool false) s)) n (fun env => isTrue (.Compare x [op, op2] [y, z] p) env (eval (.Compare x [op, op2] [y, z] p) env)) := by
 intro l σ T F hk env A s ρ m E X Rr
 refine isTrue_chain (wpAny_mono (cmp2_core hR Y NI ho ho2 h h2 h3 (T := T) (F := F) hk E X Rr) (fun va s₁ q => ?_) fun V V e => e) hm
 refine test_link (wpAny_mono q (fun vb s₂ q => wpAny_mono q (fun c s₃ q => wpAny_mono q (fun t s₃ q => ?_) fun V V e => e) fun V V e => e) fun V V e => e)
 cases t with
 | false =>
  obtain ⟨rfl, σ', ρ', P, hk'⟩ := q
  exact ⟨σ', ρ', P, hk'⟩
 | true =>
  refine test_last (wpAny_mono q (fun vc s₄ q => wpAny_mono q (fun c s₅ q => ?_) fun V V e => e) fun V V e => e)
  obtain ⟨r, σ', ρ', rfl, P, hk'⟩ := q
  exact wpAny_truthy_bool ⟨σ', ρ', P, hk'.ite⟩
end Mst
end
section
namespace Mst
open PySem PySem.W PyProof.Rows PySem.Calls PySem.SeqAt
variable {G : Gl} {Z : ER} [EOk0 G Z]
section
variable {M : Model} {A : Around} {E : Value → Shared → Prop} {s : Shared}
theorem evalArgs_any {f : Value} {args : List (Bool × Sem Value)} {kws : List (Option PySem.Str × Sem Value)} {Q : Args → Shared → Prop} (ha : args.any (·.1) = false) (hk : kws.all (·.1.isSome) = true)
 (h : wpAny M A (spliced args) (fun vs s₁ => wpAny M A (evalAll (kws.map (·.2))) (fun ks s₂ => Q ⟨vs, (kws.filterMap (·.1)).zip ks⟩ s₂) E s₁) E s) : wpAny M A (evalArgs f true args kws) Q E s := by
 match args, ha, h with
 | [], _, h => exact fun Γ p hΓ => evalArgs_kw_nil hk (h Γ p hΓ) Γ p hΓ
 | (false, x) :: rest, _, h => exact evalArgs_kw hk h
 | (true, x) :: rest, ha, _ => simp at ha
end
theorem noStar_any {env : Env} {pos : Pos} : ∀ {es : List PySem.Expr}, es.all notStar = true → (backTo pos (starEach es env)).any (·.1) = false
 | [], _ => rfl
 | e :: r, h => by
  simp only [List.all_cons, Bool.and_eq_true] at h
  rw [starEach_cons h.1, List.any_cons, noStar_any h.2]
  rfl
theorem call_plain {M : Model} {A : Around} {E : Value → Shared → Prop} {s : Shared} {P : Heap → Prop} {f : Value} {first : List Value} {es : List PySem.Expr} {env : Env} {pos : Pos} {Q : Value → Shared → Prop} (hs : es.all notStar = true)
 (hf : ∀ h, P h → ∃ k, (k = Keeper.frame ∨ k = Keeper.machine ∨ k = Keeper.boundFrame) ∧ Looks M h (keeperOf f) k)
 (h : wpAny M A (spliced (backTo pos (starEach es env))) (fun vs s₁ => P s₁.heap ∧ wpAny M A (call f (first ++ vs)) Q E s₁) E s) : wpAny M A (callWith pos f first (backTo pos (starEach es env)) []) Q E s :=
 callWith_of (by rw [noStar_any hs]; rfl) hf (evalArgs_any (noStar_any hs) rfl (wpAny_mono h (fun vs s₁ h₁ => wpAny_evalAll_nil h₁) fun V V e => e))
theorem keeps_type {M : Model} {T : String} (h : Heap) (_ : True) : ∃ k, (k = Keeper.frame ∨ k = Keeper.machine ∨ k = Keeper.boundFrame) ∧ Looks M h (keeperOf (.type T)) k := ⟨.machine, .inr (.inl rfl), Looks.of_pure rfl⟩
theorem keeps_blt {M : Model} {T : String} (h : Heap) (_ : True) : ∃ k, (k = Keeper.frame ∨ k = Keeper.machine ∨ k = Keeper.boundFrame) ∧ Looks M h (keeperOf (.builtin T)) k := ⟨.machine, .inr (.inl rfl), Looks.of_pure rfl⟩
end Mst
end
section
namespace Mst
open PySem PySem.W PyProof.Rows PySem.Calls PySem.SeqAt
variable {G : Gl} {Z : ER} [EOk0 G Z]
variable (G)
noncomputable def BltOk (R : Orc) (b : Nat) (f : Value) : Prop := ∀ (σ : St) (as : AV) (k : AV → St → B), bltK G.T R σ b as k = true → ∀ (A : Around) (s : Shared) (ρ : Rh) (vs : List Value) (n : Nat), SR G ρ σ s.heap → V2 G ρ s.heap as vs → Rm A n →
 wpAny (model G.prog G.w) A (call f vs) (QE (G := G) ρ s k) (fun V V => False) s
variable {G}
theorem V2.one {ρ : Rh} {h : Heap} {a l : AV} {vs : List Value} (x : V2 G ρ h (.cons a l) vs) : OneI G ρ h a l vs := x.inv
theorem ok_cB {R : Orc} {sc : Scope} {ev : Loc → St → (AV → St → B) → B} {n : Nat} {b : Nat} {f : Value} {x : PySem.Str} {p pos : Pos} {es : List PySem.Expr} (C : Cx G) (hx : sc.names.lookup x = some .globalImplicit) (e : nsIn G.K mainGlobals x = some none) (e2 : nsIn G.K builtinsNs x = some (some f)) (hd : (x == ("__debug__" : PySem.Str)) = false)
 (hs : es.all notStar = true) (hf : (∃ T, f = .type T) ∨ ∃ T, f = .builtin T) (hb : BltOk G R b f) (he : ∀ env : Env, eval (.Call (.Name x p) es [] pos) env = (do callWith pos (← eval (.Name x p) env) [] (backTo pos (starEach es env)) (backToKw pos (keywordEach [] env))))
 (h : EvLs G Z sc ev n (fun env => backTo pos (starEach es env))) : EvOk G Z sc (fun l s k => ev l s fun as s => bltK G.T R s b as k) n (fun env => eval (.Call (.Name x p) es [] pos) env) := by
 intro l σ k hk env A s ρ m E X Rr
 refine Call_ (name_blt C E X hx e e2 hd ?_) (he env)
 refine call_plain (P := fun V => True) hs (fun h V => ?_) (wpAny_mono (h l σ _ hk env A s ρ m E X Rr) (fun vs s₁ q => ⟨trivial, ?_⟩) fun V V e => e)
 · rcases hf with ⟨T, rfl⟩ | ⟨T, rfl⟩
   · exact keeps_type h trivial
   · exact keeps_blt h trivial
 · obtain ⟨_, a, σ₁, ρ₁, P, hv, hk₁⟩ := q
   exact wpAny_mono (hb σ₁ a k hk₁ A s₁ ρ₁ vs n P.sr hv Rr) (fun v s₂ q => q.after P) fun V V e => e.elim
end Mst
end
section
namespace Mst
open PySem PySem.W PyProof.Rows PySem.Calls PySem.SeqAt
variable {G : Gl} {Z : ER} [EOk0 G Z]
theorem args1 {ρ : Rh} {h : Heap} {a : AV} {vs : List Value} (x : V2 G ρ h (.cons a .nil) vs) : ∃ v, vs = [v] ∧ V1 G ρ h a v :=
 let ⟨v, _, e, p, q⟩ := x.inv; ⟨v, e.trans (congrArg _ q.inv), p⟩
theorem args2 {ρ : Rh} {h : Heap} {a b : AV} {vs : List Value} (x : V2 G ρ h (.cons a (.cons b .nil)) vs) : ∃ v w, vs = [v, w] ∧ V1 G ρ h a v ∧ V1 G ρ h b w :=
 let ⟨v, _, e, p, q⟩ := x.inv; let ⟨w, f, q⟩ := args1 q; ⟨v, w, e.trans (congrArg _ f), p, q⟩
theorem QE.grow {ρ : Rh} {s : Shared} {σ : St} {h' : Heap} {tk : Nat} {k : AV → St → B} {a : AV} {v : Value} (x : SR G ρ σ s.heap) (kp : ∀ b o, s.heap.get? b = some o → h'.get? b = some o) (hv : V1 G ρ h' a v) (hk : k a σ = true) :
 QE (G := G) ρ s k v { s with heap := h', toks := tk } := ⟨a, σ, ρ, Pst.grow tk x kp, hv, hk⟩
theorem ite_or {α : Type} {P : α → Prop} {c : Prop} [Decidable c] {x y : α} {t f : B} (h : tstK (.bool (decide c)) t f = true) (a : t = true → P x) (b : f = true → P y) : P (if c then x else y) := by
 by_cases q : c
 · rw [decide_eq_true q] at h
   rw [if_pos q]; exact a h
 · rw [decide_eq_false q] at h
   rw [if_neg q]; exact b h
theorem blt_max {R : Orc} (hR : OrcOk G.ν R) : BltOk G R 2 (.builtin "max") := by
 intro σ as k hk A s ρ vs n X hv Rr
 obtain ⟨a, b, v, w, rfl, h1, h2, hk⟩ := hv.twoK hk
 obtain ⟨x, y, tx, ty, u, rfl, rfl, hs, h⟩ := ltV_int hR hk h1 h2
 cases (show u = .bool (decide (x < y)) from hs)
 exact max_two_ints Rr.handled fun h' tk kp => ite_or (P := fun v => QE (G := G) ρ s k v _) h (QE.grow X kp (h2.mono (Rle.refl _) fun a vs e => kp a _ e)) (QE.grow X kp (h1.mono (Rle.refl _) fun a vs e => kp a _ e))
theorem blt_min {R : Orc} (hR : OrcOk G.ν R) : BltOk G R 1 (.builtin "min") := by
 intro σ as k hk A s ρ vs n X hv Rr
 obtain ⟨a, b, v, w, rfl, h1, h2, hk⟩ := hv.twoK hk
 obtain ⟨x, y, tx, ty, u, rfl, rfl, hs, h⟩ := ltV_int hR hk h2 h1
 cases (show u = .bool (decide (x < y)) from hs)
 exact min_two_ints Rr.handled fun h' tk kp => ite_or (P := fun v => QE (G := G) ρ s k v _) h (QE.grow X kp (h2.mono (Rle.refl _) fun a vs e => kp a _ e)) (QE.grow X kp (h1.mono (Rle.refl _) fun a vs e => kp a _ e))
theorem blt_int {R : Orc} : BltOk G R 6 (.type "int") := by
 intro σ as k hk A s ρ vs n X hv Rr
 obtain ⟨a, v, rfl, h1, hk⟩ := hv.oneK hk
 obtain ⟨b, rfl, hk⟩ := h1.boolK hk
 cases b with
 | false => exact call_int_bool (QE.tok (σ := σ) (a := .int (.lit 0)) _ X .int hk)
 | true => exact call_int_bool (QE.tok (σ := σ) (a := .int (.lit 1)) _ X .int hk)
end Mst
end
section
namespace Mst
open PySem PySem.W PyProof.Rows PySem.Calls PySem.SeqAt
variable {G : Gl} {Z : ER} [EOk0 G Z]
theorem none_at (h : Heap) : h.get? h.objs.size = none := by
 cases q : h.get? h.objs.size with
 | none => rfl
 | some o => exact absurd (Heap.lt_size q) (Nat.lt_irrefl _)
theorem alloc_range {ρ : Rh} {s : Shared} {σ : St} {x y z : Int} {t u v : Tok} {tk : Nat} {k : AV → St → B} (hk : allocK σ (.range x y z) k = true) (X : SR G ρ σ s.heap) :
 QE (G := G) ρ s k (.ref s.heap.objs.size) { s with heap := s.heap.push { cls := .type "range", data := .fields #[.int x t, .int y u, .int z v] }, toks := tk } := by
 obtain ⟨n, hh⟩ := σ
 obtain ⟨σ', P, hv, hk'⟩ := Pst.alloc (own := []) (s₀ := { s with heap := s.heap.push { cls := .type "range", data := .fields #[.int x t, .int y u, .int z v] }, toks := tk }) hk X (fun b o e => Heap.get?_push_of_some _ e) (none_at _) (none_at _) ⟨_, Heap.get?_push_size _ rfl⟩
  (.range rfl (IsRange.new s.heap x y z t u v)) rfl
 exact ⟨_, σ', _, P, hv, hk'⟩
theorem nz_some : ∀ {x : Int} {k : B}, nz x k = true → x ≠ 0 ∧ k = true
 | .ofNat 0, k, h => by cases h
 | .ofNat (n + 1), k, h => ⟨(fun e => nomatch e), h⟩
 | .negSucc n, k, h => ⟨(fun e => nomatch e), h⟩
theorem blt_range {R : Orc} : BltOk G R 8 (.type "range") := by
 intro σ as k hk A s ρ vs n X hv Rr
 obtain ⟨a, l, v, vs, rfl, h1, hv, hk⟩ := hv.consK hk
 obtain ⟨i, t, rfl, hk⟩ := h1.litK hk
 cases l with
 | nil =>
  cases (hv.inv : vs = [])
  exact call_range_1 (alloc_range hk X)
 | cons b l =>
  obtain ⟨w, ws, rfl, h2, hw⟩ := hv.inv
  obtain ⟨j, u, rfl, hk⟩ := h2.litK hk
  cases l with
  | nil =>
   cases (hw.inv : ws = [])
   exact call_range_2 (alloc_range hk X)
  | cons c l =>
   obtain ⟨z, zs, rfl, h3, hz⟩ := hw.inv
   obtain ⟨rfl, hk⟩ := hz.nilK hk
   obtain ⟨st, u3, rfl, hk⟩ := h3.litK hk
   obtain ⟨n0, hk⟩ := nz_some hk
   obtain ⟨hs, hk⟩ := sml_some hk
   exact call_range_3 n0 (alloc_range (t := t) (u := u) (v := u3) (tk := s.toks) hk X) (.inl (noPy hs))
  | _ => exact ff hk
 | _ => exact ff hk
end Mst
end
section
namespace Mst
open PySem PySem.W PyProof.Rows PySem.Calls PySem.SeqAt
variable {G : Gl} {Z : ER} [EOk0 G Z]
theorem blt_tuple {R : Orc} : BltOk G R 9 (.type "tuple") := by
 intro σ as k hk A s ρ vs n X hv Rr
 obtain ⟨a, v, rfl, h1, hk⟩ := hv.oneK hk
 obtain ⟨_, _, l, ws, n1, rfl, _, _, g1, v1, z1, hk⟩ := h1.lsP X hk
 obtain ⟨_, hk⟩ := capK_some v1 hk
 refine call_tuple_list (items := ws.toArray) ⟨_, g1, rfl, n1, rfl⟩ (fun h' kp => ?_) (by rw [List.size_toArray, sizeLine_eq]; exact Nat.le_trans z1 (by decide))
 have kp2 : ∀ b o, s.heap.get? b = some o → (h'.push (tupO ws)).get? b = some o := fun b o e => Heap.get?_push_of_some _ (kp b o e)
 exact QE.grow (tk := s.toks) X kp2 (.tup (Heap.get?_push_size _ rfl) (v1.mono (Rle.refl _) fun a vs e => kp2 a _ e) z1) hk
theorem alloc_dict {K : Type} [DecidableEq K] {knd : PySem.KeyKind G.prog G.w K} {ρ : Rh} {s : Shared} {σ : St} {h' : Heap} {l : AV} {tk : Nat} {k : AV → St → B} (hk : allocK σ (.dict l) k = true) (X : SR G ρ σ s.heap)
 (kp : ∀ b o, s.heap.get? b = some o → h'.get? b = some o) {a : Addr} (hn : s.heap.get? a = none) {o : Obj} (ho : h'.get? a = some o)
 (hd : ∀ ρ', Rle ρ ρ' → OR G ρ' h' a a (.dict l)) : QE (G := G) ρ s k (.ref a) { s with heap := h', toks := tk } := by
 obtain ⟨n, hh⟩ := σ
 obtain ⟨σ', P, hv, hk'⟩ := Pst.alloc (own := []) (s₀ := { s with heap := h', toks := tk }) hk X kp hn hn ⟨_, ho⟩ (hd _ (Rle.ext X.free)) rfl
 exact ⟨_, σ', _, P, hv, hk'⟩
theorem blt_dict {R : Orc} (hm : ∃ a o, sysModules ≤ a ∧ G.H0.get? a = some o) : BltOk G R 10 (.type "dict") := by
 intro σ as k hk A s ρ vs n X hv Rr
 obtain ⟨a, v, rfl, h1, hk⟩ := hv.oneK hk
 obtain ⟨_, ap, d, l, rfl, _, _, ho, hk⟩ := h1.dcP X hk
 have hbig : (s.heap.objs.size == sysModules) = false := by
  obtain ⟨a, o, h1, h2⟩ := hm
  exact beq_eq_false_iff_ne.mpr (Nat.ne_of_gt (Nat.lt_of_le_of_lt h1 (Heap.lt_size (X.base _ _ h2))))
 have kp : ∀ {h' : Heap}, Heap.SameBut s.heap.objs.size (s.heap.push { cls := .type "dict", data := .dict #[] }) h' → ∀ b o, s.heap.get? b = some o → h'.get? b = some o := fun hs b o e =>
  (hs.2 b (Nat.ne_of_lt (Heap.lt_size e))).trans (Heap.get?_push_of_some _ e)
 rcases ho.inv with ⟨o, kvs, e, g, id, dv, z, y⟩ | ⟨o, kvs, e, g, id, dv, z, y⟩
 · refine kt_call_dict y (Heap.dictOf_iff.mpr ⟨_, g, id⟩) (by rw [sizeLine_eq]; exact Nat.le_trans z (by decide)) fun h' hd' hs => ?_
   obtain ⟨o', ho', hd2⟩ := Heap.dictOf_iff.mp hd'
   exact alloc_dict (knd := intKind G.prog G.w) (tk := s.toks) hk X (kp hs) (none_at _) ho' fun ρ' le => .dictI rfl ho' hd2 (dv.mono le fun a vs e => kp hs a _ e) z hbig
 · refine kt_call_dict y (Heap.dictOf_iff.mpr ⟨_, g, id⟩) (by rw [sizeLine_eq]; exact Nat.le_trans z (by decide)) fun h' hd' hs => ?_
   obtain ⟨o', ho', hd2⟩ := Heap.dictOf_iff.mp hd'
   exact alloc_dict (knd := intKind G.prog G.w) (tk := s.toks) hk X (kp hs) (none_at _) ho' fun ρ' le => .dictS rfl ho' hd2 (dv.mono le fun a vs e => kp hs a _ e) z hbig
end Mst
end
section
namespace Mst
open PySem PySem.W PyProof.Rows PySem.Calls PySem.SeqAt
variable {G : Gl} {Z : ER} [EOk0 G Z]
theorem blt_divmod {R : Orc} (hR : OrcOk G.ν R) : BltOk G R 5 (.builtin "divmod") := by
 intro σ as k hk A s ρ vs n X hv Rr
 obtain ⟨a, b, v, w, rfl, h1, h2, hk⟩ := hv.twoK hk
 obtain ⟨x, t, rfl, hk⟩ := h1.intK hk
 obtain ⟨y, u, rfl, hk⟩ := h2.intK hk
 obtain ⟨q, hq, hk⟩ := opI_some hR hk
 obtain ⟨r, hr, hk⟩ := opI_some hR hk
 obtain ⟨⟨p1, p2⟩, q', rfl, eq⟩ := (show IGives G.ν q _ _ from hq)
 obtain ⟨p3, r', rfl, er⟩ := (show IGives G.ν r _ _ from hr)
 refine divmod_int p1 ?_ (.inl (noPy p2))
 have kp : ∀ (o : Obj) b o', s.heap.get? b = some o' → (s.heap.push o).get? b = some o' := fun o b o' e => Heap.get?_push_of_some _ e
 refine QE.grow X (kp _) (.tup (vs := [.int (q'.val G.ν) s.toks, .int (r'.val G.ν) (s.toks + 1)]) ?_ (.cons .int (.cons .int .nil)) (Nat.le_of_ble_eq_true rfl)) hk
 rw [eq, er]
 exact Heap.get?_push_size _ rfl
theorem DI.len {ρ : Rh} {h : Heap} {kvs : List (Int × Value)} {l : AV} {n : Nat} {k : Nat → B} (d : DI G ρ h l kvs) (e : lenV l n k = true) : k (n + kvs.length) = true := d.lr.len e
theorem DS.len {ρ : Rh} {h : Heap} {kvs : List (PySem.Str × Value)} {l : AV} {n : Nat} {k : Nat → B} (d : DS G ρ h l kvs) (e : lenV l n k = true) : k (n + kvs.length) = true := d.lr.len e
theorem le_big {n : Nat} (h : n ≤ 65536) : (n : Int) < 2 ^ 63 := Int.lt_of_le_of_lt (Int.ofNat_le.mpr h) (by decide)
theorem LR.len0 {α : Type} {P : AV → α → Prop} {l : AV} {xs : List α} (x : LR P l xs) {k : Nat → B} (h : lenV l 0 k = true) : k xs.length = true := by
 have := x.len h
 rw [Nat.zero_add] at this
 exact this
theorem blt_len {R : Orc} (hS : ∀ n m, G.T.strLen n = m + 1 → (G.nmS n).length = m + 1 ∧ m < 65536) : BltOk G R 0 (.builtin "len") := by
 intro σ as k hk A s ρ vs n X hv Rr
 obtain ⟨a, v, rfl, h1, hk⟩ := hv.oneK hk
 have fin : ∀ {n tk : Nat} {t : Tok}, k (.int (.lit (.ofNat n))) σ = true → QE (G := G) ρ s k (.int n t) { s with toks := tk } := fun {n tk t} h => QE.tok (a := .int (.lit (.ofNat n))) tk X .int h
 cases a with
 | str m =>
  obtain ⟨t, rfl⟩ := h1.str_inv
  have hk : Nat.rec (motive := fun V => B) false (fun m V => k (.int (.lit (.ofNat (m + 1)))) σ) (G.T.strLen m) = true := hk
  cases e : G.T.strLen m with
  | zero => rw [e] at hk; exact ff hk
  | succ j =>
   rw [e] at hk
   obtain ⟨e2, e3⟩ := hS m j e
   refine PySem.P.len_str (by rw [e2]; exact Int.not_le.mpr (le_big e3)) ?_
   rw [e2]
   exact fin hk
 | byt r =>
  obtain ⟨b, t, rfl, hb, hz⟩ := h1.byt_inv
  have hk := hb.lr.len0 hk
  exact len_bytes (Nat.le_trans hz (by decide)) (fin hk)
 | ref p =>
  obtain ⟨ap, dp, rfl, r1⟩ := h1.ref_inv
  obtain ⟨x, hx, hk⟩ := HT.getK_some hk
  have hr := (X.at hx r1).inv
  cases x with
  | list l =>
   obtain ⟨ws, n1, e1, g1, v1, z1⟩ := hr
   refine call_len_list (items := ws.toArray) ⟨_, g1, rfl, n1, rfl⟩ (by rw [List.size_toArray]; exact le_big z1) ?_
   rw [List.size_toArray]
   exact fin (v1.lr.len0 hk)
  | dict l =>
   rcases hr with ⟨o, kvs, e, g, id, dv, z, y⟩ | ⟨o, kvs, e, g, id, dv, z, y⟩
   · exact call_len_dict y (Heap.dictOf_iff.mpr ⟨_, g, id⟩) (le_big z) (fin (dv.lr.len0 hk))
   · exact call_len_dict y (Heap.dictOf_iff.mpr ⟨_, g, id⟩) (le_big z) (fin (dv.lr.len0 hk))
  | _ => exact ff hk
 | tup r =>
  obtain ⟨a1, ws, rfl, g1, hb, hz⟩ := h1.tup_inv
  refine PySem.P.len_tuple (items := ws.toArray) (n := 0) g1 (by rw [List.size_toArray]; exact Int.not_le.mpr (le_big hz)) ?_
  rw [List.size_toArray]
  exact fin (hb.lr.len0 hk)
 | _ => exact ff hk
end Mst
end
section
namespace Mst
open PySem PySem.W PyProof.Rows PySem.Calls PySem.SeqAt
variable {G : Gl} {Z : ER} [EOk0 G Z]
section
variable {M : Model} {A : Around} {E : Value → Shared → Prop} {s : Shared}
theorem kw_loop {β : Type} (mk : List (PySem.Str × Value) → β) (f : PySem.Str × Value → β → Sem (ForInStep β)) :
 ∀ (kws slots : List (PySem.Str × Value)), (∀ x sl, x ∈ kws → sl.lookup x.1 = none → f x (mk sl) = pure (.yield (mk (sl ++ [x])))) → (∀ x ∈ kws, slots.lookup x.1 = none) → (kws.map (·.1)).Nodup →
 forIn kws (mk slots) f = pure (mk (slots ++ kws))
 | [], slots, _, _, _ => by rw [List.forIn_nil, List.append_nil]
 | x :: kws, slots, hf, hn, nd => by
  rw [List.forIn_cons, hf x slots List.mem_cons_self (hn x List.mem_cons_self), pure_bind]
  dsimp only
  rw [List.map_cons, List.nodup_cons] at nd
  have := kw_loop mk f kws (slots ++ [x]) (fun y sl hy => hf y sl (List.mem_cons_of_mem _ hy)) (fun y hy => ?_) nd.2
  · rw [this, List.append_assoc]; rfl
  · rw [List.lookup_append, hn y (List.mem_cons_of_mem _ hy), Option.none_or]
    have : (y.1 == x.1) = false := by
     rw [beq_eq_false_iff_ne]; intro q; exact nd.1 (q ▸ List.mem_map_of_mem hy)
    obtain ⟨a, b⟩ := x
    simp only [List.lookup_cons, List.lookup_nil]
    dsimp only at this
    rw [this]
theorem df_loop {β : Type} (mk : List (PySem.Str × Value) → β) (f : PySem.Str × Value → β → Sem (ForInStep β)) (hf : ∀ n d sl, f (n, d) (mk sl) = pure (.yield (mk (if (sl.lookup n).isNone then sl ++ [(n, d)] else sl)))) :
 ∀ (ds slots : List (PySem.Str × Value)), ∃ r, forIn ds (mk slots) f = pure (mk r) ∧ ∀ n, r.lookup n = (slots ++ ds).lookup n
 | [], slots => ⟨slots, by rw [List.forIn_nil], fun n => by rw [List.append_nil]⟩
 | (n, d) :: ds, slots => by
  rw [List.forIn_cons, hf, pure_bind]
  dsimp only
  obtain ⟨r, h1, h2⟩ := df_loop mk f hf ds (if (slots.lookup n).isNone then slots ++ [(n, d)] else slots)
  refine ⟨r, h1, fun m => ?_⟩
  rw [h2, List.lookup_append, List.lookup_append]
  cases q : slots.lookup n with
  | none =>
   simp only [Option.isNone_none, if_true]
   rw [List.lookup_append, List.lookup_cons, List.lookup_cons, List.lookup_nil]
   cases e : m == n <;> simp
  | some v =>
   simp only [Option.isNone_some, Bool.false_eq_true, if_false]
   rw [List.lookup_cons]
   cases e : m == n with
   | false => rfl
   | true => rw [beq_iff_eq.mp e, q]; simp
end
theorem lookup_zip_take {α : Type} : ∀ {ps : List PySem.Str} {vs : List α} {n : PySem.Str}, n ∉ ps.take vs.length → (ps.zip vs).lookup n = none
 | [], _, _, _ => by simp
 | _ :: _, [], _, _ => by simp
 | p :: ps, v :: vs, n, h => by
  simp only [List.length_cons, List.take_succ_cons, List.mem_cons, not_or] at h
  rw [List.zip_cons_cons, List.lookup_cons, beq_eq_false_iff_ne.mpr h.1]
  exact lookup_zip_take h.2
theorem lookup_zip_in {α : Type} : ∀ {ps : List PySem.Str} {vs : List α} {n : PySem.Str}, n ∈ ps.take vs.length → ((ps.zip vs).lookup n).isSome = true
 | [], _, _, h => by simp at h
 | _ :: _, [], _, h => by simp at h
 | p :: ps, v :: vs, n, h => by
  rw [List.zip_cons_cons, List.lookup_cons]
  cases e : n == p with
  | true => rfl
  | false =>
   simp only [List.length_cons, List.take_succ_cons, List.mem_cons] at h
   rcases h with h | h
   · rw [h, beq_self_eq_true] at e; cases e
   · exact lookup_zip_in h
theorem binds_gen {s : Shared} {fd : FuncData} {ps : List PySem.Str} {vs : List Value} {kws : List (PySem.Str × Value)} {dl : List Value} (hpo : fd.params.posonlyargs = []) (hn : fd.params.args.map (·.arg) = ps)
 (hva : fd.params.vararg = none) (hko : fd.params.kwonlyargs = []) (hkw : fd.params.kwarg = none)
 (hd : ∀ (M : Model) (A : Around) (E : Value → Shared → Prop) (Q : Option (Array Value) → Shared → Prop), (∀ o, (o.getD #[]).toList = dl → Q o s) → wpAny M A (seqItems? fd.defaults) Q E s)
 (hl : vs.length ≤ ps.length) (hdl : dl.length ≤ ps.length) (hk1 : (kws.map (·.1)).Nodup) (hk2 : ∀ x ∈ kws, x.1 ∈ ps ∧ x.1 ∉ ps.take vs.length)
 (hm : ∀ n ∈ ps.take (ps.length - dl.length), ((ps.zip vs ++ kws).lookup n).isSome = true) :
 BindsTo s fd ⟨vs, kws⟩ (ps.filterMap fun n => ((ps.zip vs ++ kws ++ (ps.drop (ps.length - dl.length)).zip dl).lookup n).map (n, ·)) := by
 intro M A E Q hq
 obtain ⟨nm, qn, ⟨po, ar, va, ko, kd, kwa, df⟩, bd, sc, gl, cl, dfs, kdf, doc, pm, an, cd, ct, bt⟩ := fd
 dsimp only at hpo hn hva hko hkw hd
 subst hpo; subst hva; subst hko; subst hkw
 unfold bindArgs
 dsimp only
 rw [hn]
 simp only [List.map_nil, List.nil_append]
 refine wpAny_bind (wpAny_of_eq (kw_loop (fun sl => ((sl, []) : List (PySem.Str × Value) × List (PySem.Str × Value))) _ kws (ps.zip vs) ?_ ?_ hk1) ?_)
 rotate_left 2
 · refine wpAny_bind (hd _ _ _ _ fun o ho => ?_)
   dsimp only
   rw [ho]
   rw [if_neg (by rw [decide_eq_false (Nat.not_lt.mpr hl)]; exact Bool.false_ne_true)]
   have e0 : dl.length - ps.length = 0 := Nat.sub_eq_zero_of_le hdl
   rw [e0, List.drop_zero]
   have em : ((ps.take (ps.length - dl.length)).filter fun n => ((ps.zip vs ++ kws).lookup n).isNone) = [] := by
    rw [List.filter_eq_nil_iff]
    intro n hn' q
    have := hm n hn'
    rw [Option.isNone_iff_eq_none] at q
    rw [q] at this; cases this
   rw [em]
   simp only [List.isEmpty_nil, Bool.not_true, Bool.false_eq_true, if_false, List.forIn_nil]
   obtain ⟨r, h1, h2⟩ := df_loop (fun sl => sl) (fun x (z : List (PySem.Str × Value)) => if (List.lookup x.fst z).isNone = true then pure (ForInStep.yield (z ++ [(x.fst, x.snd)])) else pure (ForInStep.yield z))
    (fun n d sl => by dsimp only; split <;> simp_all) ((List.drop (ps.length - dl.length) ps).zip dl) (ps.zip vs ++ kws)
   refine wpAny_bind ?_
   rw [h1]
   refine wpAny_pure (wpAny_bind (wpAny_pure ?_))
   dsimp only
   simp only [List.isEmpty_nil, Bool.not_true, Bool.false_eq_true, if_false]
   refine wpAny_pure ?_
   rw [List.append_nil, show (List.filterMap (fun n => Option.map (fun x => (n, x)) (List.lookup n r)) ps) = _ from congrArg (fun f => List.filterMap f ps) (funext fun n => by rw [h2])]
   exact hq
 · intro x sl hx hs
   have : (ps.contains x.1) = true := by rw [List.contains_iff_mem]; exact (hk2 x hx).1
   dsimp only
   rw [this, hs]
   simp only [Bool.true_or, if_true, Option.isSome_none, Bool.false_eq_true, if_false]
 · intro x hx
   exact lookup_zip_take (hk2 x hx).2
inductive KwR (G : Gl) (ρ : Rh) (h : Heap) : AV → List (PySem.Str × Value) → Prop
 | nil : KwR G ρ h .nil []
 | cons {n : Nat} {a l : AV} {v : Value} {kvs : List (PySem.Str × Value)} : V1 G ρ h a v → KwR G ρ h l kvs → KwR G ρ h (.cons (.cons (.int (.lit (.ofNat n))) a) l) ((G.nmV n, v) :: kvs)
theorem KwR.mono {ρ ρ' : Rh} {h h' : Heap} (r : Rle ρ ρ') (t : Tups h h') {a : AV} {x : List (PySem.Str × Value)} (v : KwR G ρ h a x) : KwR G ρ' h' a x := by
 induction v with
 | nil => exact .nil
 | cons e _ ih => exact .cons (e.mono r t) ih
theorem kwK_some {ρ : Rh} {h : Heap} (Y : Cy G) {p : Nat} {e : B} {k : AV → B} {kvs : List (PySem.Str × Value)} {l : AV} (r : KwR G ρ h l kvs) : kwK l p e k = true →
 (kvs.lookup (G.nmV p) = none ∧ e = true) ∨ ∃ a v, kvs.lookup (G.nmV p) = some v ∧ V1 G ρ h a v ∧ k a = true := by
 induction r with
 | nil => exact fun hk => .inl ⟨rfl, hk⟩
 | @cons n a l w kvs hv r ih =>
  intro hk
  rw [List.lookup_cons]
  rcases beq_e (m := n) (n := p) (t := k a) (f := kwK l p e k) hk with ⟨q, hk⟩ | ⟨q, hk⟩
  · rw [q, beq_self_eq_true]
    exact .inr ⟨_, w, rfl, hv, hk⟩
  · rw [beq_eq_false_iff_ne.mpr fun e => q (Y.injV _ _ e.symm)]
    exact ih hk
inductive BdR (G : Gl) (ρ : Rh) (h : Heap) (ps : List Nat) (look : PySem.Str → Option Value) (k : Loc → B) : Prop
 | mk (l : Loc) : k l = true → (∀ p ∈ ps, (look (G.nmV p)).isSome = true) → (∀ n a, l.get n = some a → n ∈ ps ∧ ∃ v, look (G.nmV n) = some v ∧ V1 G ρ h a v) → BdR G ρ h ps look k
theorem BdR.cons {ρ : Rh} {h : Heap} {p : Nat} {ps : List Nat} {look look' : PySem.Str → Option Value} {k : Loc → B} {a : AV} {v : Value} (x : BdR G ρ h ps look fun l => k (.cons p a l)) (ha : V1 G ρ h a v) (hv : look' (G.nmV p) = some v) (ho : ∀ n, n ≠ p → look' (G.nmV n) = look (G.nmV n)) : BdR G ρ h (p :: ps) look' k := by
 obtain ⟨l, h1, h2, h3⟩ := x
 refine ⟨_, h1, fun q hq => ?_, fun n b q => ?_⟩
 · by_cases e : q = p
   · rw [e, hv]; rfl
   · rw [ho q e]; exact h2 q ((List.mem_cons.mp hq).resolve_left e)
 · by_cases e : n = p
   · subst e
     cases Option.some.inj (Loc.get_same.symm.trans q)
     exact ⟨List.mem_cons_self, v, hv, ha⟩
   · obtain ⟨h5, h6⟩ := h3 n b ((Loc.get_other e).symm.trans q)
     exact ⟨List.mem_cons_of_mem _ h5, by rw [ho n e]; exact h6⟩
theorem bindK_kw {ρ : Rh} {h : Heap} (Y : Cy G) {ks ds : AV} {kws dz : List (PySem.Str × Value)} (hk : KwR G ρ h ks kws) (hd : KwR G ρ h ds dz) {ps : List Nat} : ∀ {k : Loc → B}, bindK ps .nil ks ds k = true → BdR G ρ h ps (fun x => (kws ++ dz).lookup x) k := by
 induction ps with
 | nil => exact fun e => ⟨.nil, e, fun p hp => (by cases hp), fun n a q => (by cases q)⟩
 | cons p ps ih =>
  intro k e
  rcases kwK_some Y hk (show kwK ks p _ _ = true from e) with ⟨h1, h2⟩ | ⟨a, v, h1, h2, h3⟩
  · rcases kwK_some Y hd h2 with ⟨_, h2⟩ | ⟨a, v, h3, h4, h5⟩
    · cases h2
    · exact (ih h5).cons h4 (by rw [List.lookup_append, h1, h3]; rfl) fun V V => rfl
  · exact (ih h3).cons h2 (by rw [List.lookup_append, h1]; rfl) fun V V => rfl
theorem bindK_some {ρ : Rh} {h : Heap} (Y : Cy G) {ks ds : AV} {kws dz : List (PySem.Str × Value)} (hk : KwR G ρ h ks kws) (hd : KwR G ρ h ds dz) {as : AV} {vs : List Value} (x : LR (V1 G ρ h) as vs) : ∀ {ps : List Nat} {k : Loc → B}, bindK ps as ks ds k = true →
 vs.length ≤ ps.length ∧ BdR G ρ h ps (fun x => (((ps.map G.nmV).zip vs) ++ kws ++ dz).lookup x) k := by
 induction x with
 | nil =>
  intro ps k e
  rw [List.zip_nil_right, List.nil_append]
  exact ⟨Nat.zero_le _, bindK_kw Y hk hd e⟩
 | cons ha _ ih =>
  intro ps k e
  cases ps with
  | nil => exact ff e
  | cons p ps =>
   obtain ⟨h2, y⟩ := ih (k := fun l => k (.cons p _ l)) e
   refine ⟨Nat.succ_le_succ h2, y.cons ha ?_ fun n hn => ?_⟩
   · rw [List.map_cons, List.zip_cons_cons, List.cons_append, List.cons_append, List.lookup_cons, beq_self_eq_true]
   · rw [List.map_cons, List.zip_cons_cons, List.cons_append, List.cons_append, List.lookup_cons, show (G.nmV n == G.nmV p) = false from by rw [beq_eq_false_iff_ne]; intro e; exact hn (Y.injV _ _ e)]
end Mst
end
section
namespace Mst
open PySem PySem.W PyProof.Rows PySem.Calls PySem.SeqAt
variable {G : Gl}
variable (G)
inductive QXn (sc : Scope) (A : Around) (env : Env) (ρ : Rh) (h : Heap) (kn : Loc → B) : Prop
 | mk (l : Loc) (m : PySem.Str → Option Value) : EnvOk G sc A env l ρ h m → kn l = true → QXn sc A env ρ h kn
noncomputable def QXf (sc : Scope) (A : Around) (env : Env) (ρ : Rh) (h : Heap) (σ : St) (kn : Loc → St → B) (kr : AV → St → B) (kc : Loc → St → B) : Flow → Prop
 | .next => QXn G sc A env ρ h (fun l => kn l σ)
 | .ret v => ∃ a, V1 G ρ h a v ∧ kr a σ = true
 | .cont => QXn G sc A env ρ h (fun l => kc l σ)
 | .brk => False
inductive QX (sc : Scope) (A : Around) (env : Env) (ρ : Rh) (s : Shared) (kn : Loc → St → B) (kr : AV → St → B) (kc : Loc → St → B) (fl : Flow) (s' : Shared) : Prop
 | mk (σ' : St) (ρ' : Rh) : Pst G ρ (ownOf env) s ρ' s' σ' → QXf G sc A env ρ' s'.heap σ' kn kr kc fl → QX sc A env ρ s kn kr kc fl s'
variable (Z : ER)
noncomputable def ExOk (sc : Scope) (ex : Loc → St → (Loc → St → B) → (AV → St → B) → (Loc → St → B) → B) (n : Nat) (t : Env → Sem Flow) : Prop :=
 ∀ (l : Loc) (σ : St) (kn : Loc → St → B) (kr : AV → St → B) (kc : Loc → St → B), ex l σ kn kr kc = true → ∀ (env : Env) (A : Around) (s : Shared) (ρ : Rh) (m : PySem.Str → Option Value),
  OnTop A env → EnvOk G sc A env l ρ s.heap m → SR G ρ σ s.heap → Rm A n → wpAny (model G.prog G.w) A (t env) (QX G sc A env ρ s kn kr kc) (Z env A ρ s) s
noncomputable def RC (ρ : Rh) (s : Shared) (k : AV → St → B) (Er : Value → Shared → Prop) (r : Result) (s' : Shared) : Prop := match r with
 | .ok (.ret v) => QE (G := G) ρ s k v s'
 | .ok _ => False
 | .error e => Er e s'
noncomputable def KwFine (ps : List Nat) (kws : List (PySem.Str × Value)) (n : Nat) : Prop := (kws.map (·.1)).Nodup ∧ ∀ x ∈ kws, x.1 ∈ ps.map G.nmV ∧ x.1 ∉ (ps.map G.nmV).take n
noncomputable def HOk (F : Nat → FDef) (H : Nat → AV → AV → St → (AV → St → B) → B) (n : Nat) : Prop :=
 ∀ (f : Nat) (as ks : AV) (σ : St) (k : AV → St → B), H f as ks σ k = true → ∀ (env : Env) (A : Around) (s : Shared) (ρ : Rh) (vs : List Value) (kws : List (PySem.Str × Value)),
  Stk G A ρ s.heap → SR G ρ σ s.heap → V2 G ρ s.heap as vs → KwR G ρ s.heap ks kws → KwFine G (F f).ps kws vs.length → RmH A n →
  codeAny (model G.prog G.w) A (.call (.ref (G.fnA f)) ⟨vs, kws⟩) (RC G ρ s k (Z env A ρ s)) s
structure FnS (f : Nat) (D : FDef) (fd : FuncData) (body : List Stmt) : Prop where
 at' : ∃ o, G.H0.get? (G.fnA f) = some o ∧ o.data = .func fd
 body : fd.body = .stmts body
 co : fd.scope.isCoroutine = false
 gen : fd.scope.isGenerator = false
 kind : fd.scope.kind = .function
 ndC : ((cellsFrom 0 fd.scope.names []).map (·.1)).Nodup
 globs : fd.globals = mainGlobals
 blts : fd.builtins = builtinsNs
 clo : fd.closure = []
 code : G.H0.CodeRec fd.code fd.qualname
 po : fd.params.posonlyargs = []
 va : fd.params.vararg = none
 ko : fd.params.kwonlyargs = []
 kw : fd.params.kwarg = none
 names : fd.params.args.map (·.arg) = D.ps.map G.nmV
 nd : D.ps.Nodup
 kinds : ∀ p ∈ D.ps, fd.scope.names.lookup (G.nmV p) = some .local ∨ fd.scope.names.lookup (G.nmV p) = some .cell
 dflt : ∃ dl, ((dl = [] ∧ fd.defaults = .none) ∨ ∃ T o n, fd.defaults = .ref T ∧ G.H0.get? T = some o ∧ o.data = .seq dl.toArray n) ∧ dl.length ≤ D.ps.length ∧
  KwR G (fun V => none) G.H0 D.ds (((D.ps.map G.nmV).drop (D.ps.length - dl.length)).zip dl)
class EFam (Ze Zs : Kx → ER) : Prop where
 ok0 : ∀ kx, EOk0 G (Ze kx)
 okS : ∀ kx, EOk G (Zs kx)
 up : ∀ {kx : Kx} {env : Env} {A : Around} {ρ : Rh} {s s' : Shared} {e : Value}, Ze kx env A ρ s e s' → Zs kx env A ρ s e s'
 leave : ∀ {kx : Kx} {env env' : Env} {A : Around} {ρ : Rh} {s s₁ s' : Shared} {σ : St} {e : Value}, Pst G ρ [] s ρ s₁ σ → (∀ b ∈ ownOf env', s.heap.get? b = none) → env'.frame = some env'.locals → env'.scope.kind = .function → Stk G A ρ s.heap →
  Zs kx env' (A.deeper env') ρ s₁ e s' → wpAny (model G.prog G.w) (A.deeper env') (leaving env' e) (fun V s'' => Ze kx env A ρ s e s'') (fun e' s'' => Ze kx env A ρ s e' s'') s'
variable {G} {Z}
theorem bindL_get {kof : PySem.Str → Option NameKind} : ∀ {binds : List (PySem.Str × Value)} {m : PySem.Str → Option Value} {x : PySem.Str} {v : Value}, (binds.map (·.1)).Nodup → kof x = some .local → binds.lookup x = some v → bindL kof binds m x = some v
 | (n, w) :: r, m, x, v, nd, hk, h => by
  rw [List.map_cons, List.nodup_cons] at nd
  unfold bindL
  rw [List.lookup_cons] at h
  cases e : x == n with
  | true =>
   rw [e] at h; cases h
   have := beq_iff_eq.mp e; subst this
   rw [if_pos hk]
   have key : ∀ (r : List (PySem.Str × Value)) (m : PySem.Str → Option Value), x ∉ r.map (·.1) → bindL kof r m x = m x := by
    intro r
    induction r with
    | nil => intro m _; rfl
    | cons y r ih =>
     intro m h
     obtain ⟨a, b⟩ := y
     simp only [List.map_cons, List.mem_cons, not_or] at h
     unfold bindL
     rw [ih _ h.2]
     split
     · simp [h.1]
     · rfl
   rw [key r _ nd.1]; simp
  | false =>
   rw [e] at h
   exact bindL_get nd.2 hk h
theorem bindC_get {kof : PySem.Str → Option NameKind} : ∀ {binds : List (PySem.Str × Value)} {m : PySem.Str → Option Value} {x : PySem.Str} {v : Value}, (binds.map (·.1)).Nodup → kof x ≠ some .local → binds.lookup x = some v → bindC kof binds m x = some v
 | (n, w) :: r, m, x, v, nd, hk, h => by
  rw [List.map_cons, List.nodup_cons] at nd
  unfold bindC
  rw [List.lookup_cons] at h
  cases e : x == n with
  | true =>
   rw [e] at h; cases h
   have := beq_iff_eq.mp e; subst this
   rw [if_neg hk]
   have key : ∀ (r : List (PySem.Str × Value)) (m : PySem.Str → Option Value), x ∉ r.map (·.1) → bindC kof r m x = m x := by
    intro r
    induction r with
    | nil => intro m _; rfl
    | cons y r ih =>
     intro m h
     obtain ⟨a, b⟩ := y
     simp only [List.map_cons, List.mem_cons, not_or] at h
     unfold bindC
     rw [ih _ h.2]
     split
     · rfl
     · simp [h.1]
   rw [key r _ nd.1]; simp
  | false =>
   rw [e] at h
   exact bindC_get nd.2 hk h
theorem lookup_filterMap {g : PySem.Str → Option Value} : ∀ {ps : List PySem.Str} {x : PySem.Str}, x ∈ ps → (ps.filterMap fun n => (g n).map (n, ·)).lookup x = g x
 | p :: ps, x, h => by
  rw [List.filterMap_cons]
  by_cases e : x = p
  · subst e
    cases q : g x with
    | none =>
     simp only [Option.map_none]
     have key : ∀ (ps : List PySem.Str), (ps.filterMap fun n => (g n).map (n, ·)).lookup x = none := by
      intro ps
      induction ps with
      | nil => rfl
      | cons y r ih =>
       rw [List.filterMap_cons]
       cases q2 : g y with
       | none => exact ih
       | some w =>
        simp only [Option.map_some, List.lookup_cons]
        cases e2 : x == y with
        | true => rw [← beq_iff_eq.mp e2, q] at q2; cases q2
        | false => exact ih
     exact key ps
    | some v => simp only [Option.map_some, List.lookup_cons, beq_self_eq_true]
  · have hx : x ∈ ps := by
     rcases List.mem_cons.mp h with h | h
     · exact absurd h e
     · exact h
    cases q : g p with
    | none => exact lookup_filterMap hx
    | some v =>
     simp only [Option.map_some, List.lookup_cons, beq_eq_false_iff_ne.mpr e]
     exact lookup_filterMap hx
theorem fst_filterMap {g : PySem.Str → Option Value} {ps : List PySem.Str} (h : ∀ p ∈ ps, (g p).isSome = true) : (ps.filterMap fun n => (g n).map (n, ·)).map (·.1) = ps := by
 induction ps with
 | nil => rfl
 | cons p ps ih =>
  obtain ⟨v, hv⟩ := Option.isSome_iff_exists.mp (h p List.mem_cons_self)
  rw [List.filterMap_cons, hv]
  simp only [Option.map_some, List.map_cons]
  rw [ih fun q hq => h q (List.mem_cons_of_mem _ hq)]
theorem SR.mut_lt {ρ : Rh} {σ : St} {h : Heap} (x : SR G ρ σ h) {b : Addr} (m : Mut ρ b) : b < h.objs.size := by
 obtain ⟨p, a, e⟩ := m
 obtain ⟨o, ho⟩ := x.live p a b e
 exact Heap.lt_size ho
theorem SR.h0_lt {ρ : Rh} {σ : St} {h : Heap} (x : SR G ρ σ h) {b : Addr} (hb : h.objs.size ≤ b) : G.H0.get? b = none := by
 cases e : G.H0.get? b with
 | none => rfl
 | some o => exact absurd (Heap.lt_size (x.base b o e)) (Nat.not_lt.mpr hb)
theorem RmH.down {A : Around} {n : Nat} (R : RmH A (n + 1)) (env : Env) : Rm (A.deeper env) n := by
 refine ⟨R.handled, ?_, ?_⟩
 · show A.depth + 1 + 8 * n + 8 ≤ 600
   have := R.depth; omega
 · show A.units + 3 + 64 * n + 256 ≤ 6000
   have := R.units; omega
theorem Rm.toH {A : Around} {n : Nat} (R : Rm A n) : RmH A n := ⟨R.handled, by have := R.depth; omega, by have := R.units; omega⟩
theorem cells_key {names : List (PySem.Str × NameKind)} {n : Nat} {x : PySem.Str} (h : names.lookup x = some .cell) : ∃ c, (cellsFrom n names []).lookup x = some c :=
 Option.isSome_iff_exists.mp (cellsFrom_some names n [] (.inl h))
theorem call_enter (hlim : G.H0.NoLimit) {f : Nat} {D : FDef} {fd : FuncData} {body : List Stmt} (S : FnS G f D fd body) {A : Around} {s : Shared} {ρ : Rh} {σ : St} {vs : List Value} {kws binds : List (PySem.Str × Value)} {R : Result → Shared → Prop}
 (hbind : BindsTo s fd ⟨vs, kws⟩ binds) (bfst : binds.map (·.1) = D.ps.map G.nmV) (ndN : (D.ps.map G.nmV).Nodup) (st : Stk G A ρ s.heap) (X : SR G ρ σ s.heap) (hroom : A.depth < recursionLimit)
 (h : ∀ env' h₁ tk, OnTop (A.deeper env') env' → env'.scope.kind = .function → (∀ b ∈ ownOf env', s.heap.get? b = none) → (∀ b o, s.heap.get? b = some o → h₁.get? b = some o) →
  EnvOk G fd.scope (A.deeper env') env' .nil ρ h₁ (bindL env'.kindOf binds fun V => none) →
  (∀ p ∈ D.ps, ∀ v, binds.lookup (G.nmV p) = some v → (env'.kindOf (G.nmV p) = some .local → bindL env'.kindOf binds (fun V => none) (G.nmV p) = some v) ∧
   ((env'.kindOf (G.nmV p) = some .cell ∨ env'.kindOf (G.nmV p) = some .free) → ∃ c, env'.cells.lookup (G.nmV p) = some c ∧ h₁.IsCell c (some v))) →
  wpAny (model G.prog G.w) (A.deeper env') (execs body env') (fun f s' => R (.ok (.ret (match f with | .ret v => v | _ => .none))) s')
   (fun e s' => wpAny (model G.prog G.w) (A.deeper env') (leaving env' e) (fun V s'' => R (.error e) s'') (fun e' s'' => R (.error e') s'') s') { s with heap := h₁, toks := tk }) :
 codeAny (model G.prog G.w) A (.call (.ref (G.fnA f)) ⟨vs, kws⟩) R s := by
 obtain ⟨o, ho, hd⟩ := S.at'
 have bk : (binds.all fun y => fd.scope.names.lookup y.1 == some .local || fd.scope.names.lookup y.1 == some .cell) = true := by
  rw [List.all_eq_true]
  intro y hy
  have : y.1 ∈ D.ps.map G.nmV := by rw [← bfst]; exact List.mem_map_of_mem hy
  obtain ⟨q, hq, e⟩ := List.mem_map.mp this
  rw [← e]
  rcases S.kinds q hq with h | h <;> rw [h] <;> rfl
 have kp : ∀ b o, G.H0.get? b = some o → s.heap.get? b = some o := X.base
 refine codeAny_call_function hroom (kp _ _ ho) hd S.co S.gen S.body ?_ (hbind _ _ _ _ ?_)
 · obtain ⟨c, oc, vs', tq, h1, h2, h3, h4⟩ := S.code
   exact ⟨c, oc, vs', tq, h1, kp _ _ h2, h3, h4⟩
 rw [S.clo]
 refine newFunctionEnv_C S.kind (kindsX bk _) fun env' he s' x xf => ?_
 obtain ⟨h₁, tk, rfl, keep⟩ := x.done
 have eL : env'.locals = s.heap.objs.size := by rw [he]; rfl
 have eF : env'.frame = some env'.locals := by rw [he]; rfl
 have eS : env'.scope = fd.scope := by rw [he]; rfl
 have own : ∀ b ∈ ownOf env', s.heap.objs.size ≤ b := by
  intro b hb
  rw [List.mem_singleton.mp hb, eL]; exact Nat.le_refl _
 have free : ∀ b ∈ ownOf env', s.heap.get? b = none := fun b hb => Heap.get?_none_of_le (own b hb)
 have offM : ∀ b ∈ ownOf env', ¬ Mut ρ b := fun b hb m => absurd (X.mut_lt m) (Nat.not_lt.mpr (own b hb))
 have offC : ∀ y c, env'.cells.lookup y = some c → ¬ Mut ρ c := fun y c h m => by
  have h1 := x.above y c (mem_of_lookup h)
  rw [eL] at h1
  exact absurd (X.mut_lt m) (Nat.not_lt.mpr (Nat.le_of_lt h1))
 obtain ⟨oL, es, ep, hL, hLd, _⟩ := x.toInCall.ns
 have isF : IsFr oL := by
  obtain ⟨oF, f1, f2⟩ := xf
  have f3 := (show h₁.get? env'.locals = some oL from hL).symm.trans f1
  cases f3
  exact ⟨f2, _, _, hLd⟩
 have stk' : Stk G (A.deeper env') ρ h₁ := by
  obtain ⟨l, hl, h⟩ := st
  refine ⟨env' :: l, by show A.frames.map _ = _; rw [hl]; rfl, fun e he2 => ?_⟩
  rcases List.mem_cons.mp he2 with rfl | he2
  · exact ⟨by rw [eS, S.kind]; decide, _, oL, eF, hL, isF, offM _ List.mem_cons_self, X.h0_lt (own _ List.mem_cons_self)⟩
  · obtain ⟨hk, L, o, h1, h2, h3, h4, h5⟩ := h e he2
    exact ⟨hk, L, o, h1, keep _ _ h2, h3, h4, h5⟩
 refine ⟨(hlim.keeps kp).keeps keep, codeAny_func (h env' h₁ tk ⟨eF, let ⟨l, hl, _⟩ := st; ⟨l, by show A.frames.map _ = _; rw [hl]; rfl⟩⟩ (by rw [eS]; exact S.kind) free keep ⟨eS, by rw [eS]; exact S.kind, by rw [he]; exact S.blts, by rw [he]; exact S.globs, x.toInCall.ns, offM _ List.mem_cons_self, fun y c hc => let ⟨o, h1, h2⟩ := x.cell y c hc; ⟨offC y c hc, o, _, h1, h2⟩, fun m a V ha => (by cases ha), X.h0_lt (own _ List.mem_cons_self), (by
  rw [he]
  show ((cellsFrom (s.heap.objs.size + 1) fd.scope.names []).map (·.1)).Nodup
  rw [cellsFrom_names fd.scope.names (s.heap.objs.size + 1) 0 [] [] rfl]; exact S.ndC), (fun y hy => by
  rw [he]
  exact cells_key (by rw [eS] at hy; exact hy)), stk'⟩ fun p hp v hv => ⟨fun hk => bindL_get (by rw [bfst]; exact ndN) hk hv, fun hk => ?_⟩)⟩
 have hkc : fd.scope.names.lookup (G.nmV p) = some .cell := by
  rcases S.kinds p hp with h | h
  · exfalso
    have e : env'.kindOf (G.nmV p) = some .local := by unfold Env.kindOf; rw [eS]; exact h
    rw [e] at hk
    rcases hk with hk | hk <;> cases hk
  · exact h
 obtain ⟨c, hc⟩ := cells_key (n := s.heap.objs.size + 1) hkc
 have ec : env'.cells.lookup (G.nmV p) = some c := by rw [he]; exact hc
 have := x.cell _ _ ec
 rw [bindC_get (by rw [bfst]; exact ndN) (by unfold Env.kindOf; rw [eS, hkc]; decide) hv] at this
 exact ⟨c, ec, this⟩
theorem call_ok {Ze Zs : Kx → ER} [EFam G Ze Zs] (Y : Cy G) (hlim : G.H0.NoLimit) {f : Nat} {D : FDef} {fd : FuncData} {body : List Stmt} (S : FnS G f D fd body) {kx : Kx} {n : Nat}
 {ex : Loc → St → (Loc → St → B) → (AV → St → B) → (Loc → St → B) → B} (hb : ExOk G (Zs kx) fd.scope ex n (fun env => execs body env))
 {as ks : AV} {σ : St} {k : AV → St → B} (hk : bindK D.ps as ks D.ds (fun l => ex l σ (fun V s => k .none s) k (fun V V => false)) = true)
 {env : Env} {A : Around} {s : Shared} {ρ : Rh} {vs : List Value} {kws : List (PySem.Str × Value)} (st : Stk G A ρ s.heap) (X : SR G ρ σ s.heap) (hv : V2 G ρ s.heap as vs) (hkw : KwR G ρ s.heap ks kws)
 (fine : KwFine G D.ps kws vs.length) (R : RmH A (n + 1)) : codeAny (model G.prog G.w) A (.call (.ref (G.fnA f)) ⟨vs, kws⟩) (RC G ρ s k (Ze kx env A ρ s)) s := by
 obtain ⟨o, ho, hd⟩ := S.at'
 obtain ⟨dl, hdl, hdn, hds⟩ := S.dflt
 have hds' : KwR G ρ s.heap D.ds (((D.ps.map G.nmV).drop (D.ps.length - dl.length)).zip dl) := hds.mono (fun V V e => by cases e) fun a vs e => X.base a _ e
 obtain ⟨hlen, l, hl, hcov, hlook⟩ := bindK_some Y hkw hds' hv.lr hk
 have hlen' : vs.length ≤ (D.ps.map G.nmV).length := by rw [List.length_map]; exact hlen
 have hdn' : dl.length ≤ (D.ps.map G.nmV).length := by rw [List.length_map]; exact hdn
 have ndN : (D.ps.map G.nmV).Nodup := List.Pairwise.map _ (fun a b h e => h (Y.injV _ _ e)) S.nd
 have e1 : D.ps.length = (D.ps.map G.nmV).length := by rw [List.length_map]
 rw [e1] at hcov hlook
 have cov : ∀ p ∈ D.ps.map G.nmV, (((D.ps.map G.nmV).zip vs ++ kws ++ ((D.ps.map G.nmV).drop ((D.ps.map G.nmV).length - dl.length)).zip dl).lookup p).isSome = true := by
  intro p hp
  obtain ⟨q, hq, rfl⟩ := List.mem_map.mp hp
  exact hcov q hq
 have hbind : BindsTo s fd ⟨vs, kws⟩ _ := binds_gen (ps := D.ps.map G.nmV) (vs := vs) (kws := kws) (dl := dl) S.po S.names S.va S.ko S.kw (fun M A E Q hQ => ?_) hlen' hdn' fine.1 fine.2 (fun p hp => ?_)
 rotate_left
 · rcases hdl with ⟨h1, h2⟩ | ⟨T, oT, nT, h1, h2, h3⟩
   · rw [h2]; exact wpAny_pure (hQ _ (by rw [h1]; rfl))
   · rw [h1]; exact wpAny_seqItems (X.base _ _ h2) h3 (hQ _ (by simp))
 · have h1 := cov p (List.mem_of_mem_take hp)
   rw [List.lookup_append] at h1
   cases q : List.lookup p ((D.ps.map G.nmV).zip vs ++ kws) with
   | some v => rfl
   | none =>
    exfalso
    rw [q, Option.none_or] at h1
    obtain ⟨v, hv'⟩ := Option.isSome_iff_exists.mp h1
    have h3 := List.of_mem_zip (mem_of_lookup hv')
    have nd2 : ((D.ps.map G.nmV).take ((D.ps.map G.nmV).length - dl.length) ++ (D.ps.map G.nmV).drop ((D.ps.map G.nmV).length - dl.length)).Nodup := by rw [List.take_append_drop]; exact ndN
    exact (List.nodup_append.mp nd2).2.2 p hp p h3.1 rfl
 generalize hB : ((D.ps.map G.nmV).filterMap fun n => (((D.ps.map G.nmV).zip vs ++ kws ++ ((D.ps.map G.nmV).drop ((D.ps.map G.nmV).length - dl.length)).zip dl).lookup n).map (n, ·)) = binds at hbind
 have bfst : binds.map (·.1) = D.ps.map G.nmV := by rw [← hB]; exact fst_filterMap cov
 have blook : ∀ p ∈ D.ps, ∀ v, ((D.ps.map G.nmV).zip vs ++ kws ++ ((D.ps.map G.nmV).drop ((D.ps.map G.nmV).length - dl.length)).zip dl).lookup (G.nmV p) = some v → binds.lookup (G.nmV p) = some v := by
  intro p hp v h
  rw [← hB, lookup_filterMap (List.mem_map_of_mem hp), h]
 have hroom : A.depth < recursionLimit := by
  have := R.depth
  have e : recursionLimit = 1000 := rfl
  omega
 refine call_enter hlim S hbind bfst ndN st X hroom fun env' h₁ tk top hkf free keep E₀ hval => ?_
 have P₁ : Pst G ρ [] s ρ { s with heap := h₁, toks := tk } σ := Pst.grow tk X keep
 have E' : EnvOk G fd.scope (A.deeper env') env' l ρ h₁ (bindL env'.kindOf binds fun V => none) := ⟨E₀.scope, E₀.kind, E₀.blts, E₀.globs, E₀.ns, E₀.offL, E₀.offC, fun m a V ha => (by
  obtain ⟨hm, v, h1, h2⟩ := hlook m a ha
  exact ⟨v, h2.mono (Rle.refl _) fun a vs e => keep a _ e, (hval m hm v (blook m hm v h1)).1, (hval m hm v (blook m hm v h1)).2⟩), E₀.baseL, E₀.ndC, E₀.hasC, E₀.stk⟩
 refine wpAny_mono (hb l σ _ _ _ hl env' (A.deeper env') _ ρ _ top E' P₁.sr (R.down env')) (fun fl s' q => ?_) fun e s' q => ?_
 · obtain ⟨σ', ρ', P, hq⟩ := q
   have P2 : Pst G ρ [] s ρ' s' σ' := (Pst.any P₁).trans P |>.drop fun b hb => .inr (free b hb)
   cases fl with
   | next =>
    obtain ⟨l', m', _, hk'⟩ := hq
    exact ⟨.none, σ', ρ', P2, .none, hk'⟩
   | ret v =>
    obtain ⟨a, h1, h2⟩ := hq
    exact ⟨a, σ', ρ', P2, h1, h2⟩
   | brk => exact hq.elim
   | cont =>
    obtain ⟨l', m', _, hk'⟩ := hq
    cases hk'
 · exact EFam.leave (Zs := Zs) P₁ free top.1 hkf st q
end Mst
end
section
namespace Mst
open PySem PySem.W PyProof.Rows PySem.Calls PySem.SeqAt
variable {G : Gl} {Z : ER} [EOk0 G Z]
variable (G) (Z)
noncomputable def EvKs (sc : Scope) (ev : Loc → St → (AV → St → B) → B) (n : Nat) (ns : List PySem.Str) (t : Env → List (Option PySem.Str × Sem Value)) : Prop :=
 ∀ (l : Loc) (σ : St) (k : AV → St → B), ev l σ k = true → ∀ (env : Env) (A : Around) (s : Shared) (ρ : Rh) (m : PySem.Str → Option Value),
  EnvOk G sc A env l ρ s.heap m → SR G ρ σ s.heap → Rm A n →
  wpAny (model G.prog G.w) A (evalAll ((t env).map (·.2))) (fun ws s' => ∃ a σ' ρ', Pst G ρ [] s ρ' s' σ' ∧ KwR G ρ' s'.heap a (ns.zip ws) ∧ ws.length = ns.length ∧ k a σ' = true) (Z env A ρ s) s
noncomputable def FnAtK (K : Frag) (f : Value) : Prop := keepIn K f = true
variable {G} {Z}
theorem ok_knil {sc : Scope} {n : Nat} {pos : Pos} : EvKs G Z sc (fun V s k => k .nil s) n [] (fun env => backToKw pos (keywordEach [] env)) :=
 fun V σ V h V V V ρ V V x V => wpAny_evalAll_nil ⟨_, σ, ρ, Pst.refl x, .nil, rfl, h⟩
theorem ok_kcons {sc : Scope} {ev ev2 : Loc → St → (AV → St → B) → B} {n : Nat} {pos p : Pos} {e : PySem.Expr} {r : List Keyword} {v : Nat} {x : PySem.Str} {ns : List PySem.Str} (hx : x = G.nmV v) (h : EvOk G Z sc ev n (fun env => eval e env))
 (g : EvKs G Z sc ev2 n ns (fun env => backToKw pos (keywordEach r env))) : EvKs G Z sc (fun l s k => ev l s fun a s => ev2 l s fun m s => k (.cons (.cons (.int (.lit (.ofNat v))) a) m) s) n (x :: ns) (fun env => backToKw pos (keywordEach (⟨some x, e, p⟩ :: r) env)) := by
 intro l σ k hk env A s ρ m E X R
 show wpAny _ _ (evalAll ((do let v ← eval e env; standAt pos; pure v) :: (backToKw pos (keywordEach r env)).map (·.2))) _ _ _
 refine wpAny_evalAll_cons (wpAny_bind (wpAny_mono (h l σ _ hk env A s ρ m E X R) (fun w s₁ q => ?_) fun V V e => e))
 obtain ⟨a, σ₁, ρ₁, P, hv, hk₁⟩ := q
 refine wpAny_bind (wpAny_standAt (wpAny_pure ?_))
 refine wpAny_mono (g l σ₁ _ hk₁ env A s₁ ρ₁ m (E.after P) P.sr R) (fun ws s₂ q => ?_) fun V V e => aft P e
 obtain ⟨b, σ₂, ρ₂, P₂, hvs, hl, hk₂⟩ := q
 refine ⟨_, σ₂, ρ₂, P.trans P₂, ?_, by rw [List.length_cons, List.length_cons, hl], hk₂⟩
 rw [hx, List.zip_cons_cons]
 exact .cons (hv.mono P₂.le P₂.tups) hvs
noncomputable def kwNames : List Keyword → Option (List PySem.Str)
 | [] => some []
 | ⟨some x, _, _⟩ :: r => (kwNames r).map (x :: ·)
 | ⟨none, _, _⟩ :: _ => none
theorem kw_all {env : Env} {pos : Pos} : ∀ {ks : List Keyword} {ns : List PySem.Str}, kwNames ks = some ns → (backToKw pos (keywordEach ks env)).all (·.1.isSome) = true ∧ (backToKw pos (keywordEach ks env)).any (·.1.isNone) = false ∧ (backToKw pos (keywordEach ks env)).filterMap (·.1) = ns
 | [], ns, h => by cases h; exact ⟨rfl, rfl, rfl⟩
 | ⟨some x, e, p⟩ :: r, ns, h => by
  obtain ⟨ns', h1, rfl⟩ := Option.map_eq_some_iff.mp (show (kwNames r).map (x :: ·) = some ns from h)
  obtain ⟨a, b, c⟩ := kw_all (env := env) (pos := pos) h1
  refine ⟨?_, ?_, ?_⟩
  · show (_ && (backToKw pos (keywordEach r env)).all (·.1.isSome)) = true
    rw [a]; rfl
  · show (_ || (backToKw pos (keywordEach r env)).any (·.1.isNone)) = false
    rw [b]; rfl
  · show (x :: (backToKw pos (keywordEach r env)).filterMap (·.1)) = _
    rw [c]
theorem call_kws {M : Model} {A : Around} {E : Value → Shared → Prop} {s : Shared} {P : Heap → Prop} {f : Value} {first : List Value} {es : List PySem.Expr} {ks : List Keyword} {ns : List PySem.Str} {env : Env} {pos : Pos} {Q : Value → Shared → Prop} (hs : es.all notStar = true)
 (hn : kwNames ks = some ns) (hf : ∀ h, P h → ∃ k, (k = Keeper.frame ∨ k = Keeper.machine ∨ k = Keeper.boundFrame) ∧ Looks M h (keeperOf f) k)
 (h : wpAny M A (spliced (backTo pos (starEach es env))) (fun vs s₁ => wpAny M A (evalAll ((backToKw pos (keywordEach ks env)).map (·.2))) (fun ws s₂ => P s₂.heap ∧ wpAny M A (call f (first ++ vs) (ns.zip ws)) Q E s₂) E s₁) E s) :
 wpAny M A (callWith pos f first (backTo pos (starEach es env)) (backToKw pos (keywordEach ks env))) Q E s := by
 obtain ⟨a, b, c⟩ := kw_all (env := env) (pos := pos) hn
 exact callWith_of (by rw [noStar_any hs, b]; rfl) hf (evalArgs_any (noStar_any hs) a (wpAny_mono h (fun vs s₁ h₁ => wpAny_mono h₁ (fun ws s₂ h₂ => by rw [c]; exact h₂) fun V V e => e) fun V V e => e))
theorem ok_cF {F : Nat → FDef} {H : Nat → AV → AV → St → (AV → St → B) → B} {n : Nat} (C : Cx G) (hH : HOk G Z F H n) {sc : Scope} {ev : Loc → St → (AV → St → B) → B} {f : Nat} {x : PySem.Str} {p pos : Pos} {es : List PySem.Expr}
 (hx : sc.names.lookup x = some .globalImplicit) (e : nsIn G.K mainGlobals x = some (some (.ref (G.fnA f)))) (hk : keepIn G.K (.ref (G.fnA f)) = true) (hd : (x == ("__debug__" : PySem.Str)) = false)
 (hs : es.all notStar = true) (he : ∀ env : Env, eval (.Call (.Name x p) es [] pos) env = (do callWith pos (← eval (.Name x p) env) [] (backTo pos (starEach es env)) (backToKw pos (keywordEach [] env))))
 (h : EvLs G Z sc ev n (fun env => backTo pos (starEach es env))) : EvOk G Z sc (fun l s k => ev l s fun as s => H f as .nil s k) n (fun env => eval (.Call (.Name x p) es [] pos) env) := by
 intro l σ k hk' env A s ρ m E X R
 refine Call_ (name_glob C E X hx e hd ?_) (he env)
 refine call_plain (P := fun h => G.K.In h) hs (keeps_K hk) (wpAny_mono (h l σ _ hk' env A s ρ m E X R) (fun vs s₁ q => ?_) fun V V e => e)
 obtain ⟨_, a, σ₁, ρ₁, P, hv, hk₁⟩ := q
 refine ⟨P.sr.kin C, wpAny_call ?_⟩
 refine codeAny_mono (hH f a .nil σ₁ k hk₁ env A s₁ ρ₁ vs [] (E.after P).stk P.sr hv .nil ⟨List.nodup_nil, fun x hx => by cases hx⟩ R.toH) fun r s' q => ?_
 rcases r with er | (v | _ | _ | _)
 · exact aft P q
 · exact q.elim
 · exact q.elim
 · exact q.elim
 · exact QE.after P q
end Mst
end
section
namespace Mst
open PySem PySem.W PyProof.Rows PySem.Calls PySem.SeqAt
variable {G : Gl} {Z : ER} [EOk0 G Z]
theorem len_back {env : Env} {pos : Pos} : ∀ {es : List PySem.Expr}, es.all notStar = true → (backTo pos (starEach es env)).length = es.length
 | [], _ => rfl
 | e :: r, h => by
  simp only [List.all_cons, Bool.and_eq_true] at h
  rw [starEach_cons h.1, List.length_cons, List.length_cons, len_back h.2]
variable (G)
structure Cw : Prop where
 make : ∀ c, c < G.nC → G.T.init c ≠ 9999 → makesIn G.K (G.clA c) = true ∧ findIn G.K (.ref (G.clA c)) "__init__" = some (some (.ref (G.fnA (G.T.init c)))) ∧ typeIn G.K (.ref (G.fnA (G.T.init c))) = some (.type "function")
 meth : ∀ c p, c < G.nC → G.T.meth c p ≠ 9999 → findIn G.K (.ref (G.clA c)) (G.nmA (pIdx p)) = some (some (.ref (G.fnA (G.T.meth c p)))) ∧ typeIn G.K (.ref (G.fnA (G.T.meth c p))) = some (.type "function") ∧ keepIn G.K (.ref (G.fnA (G.T.meth c p))) = true
 fld : ∀ c p, c < G.nC → G.T.fld c p = true → FldOk G c p ∧ pIdx p < 500
variable {G}
theorem Call_method_gen {prog : Program} {w : World} {A : Around} {E : Value → Shared → Prop} {s : Shared} {env : Env} {o : PySem.Expr} {name : PySem.Str} {apos pos : Pos} {args : List PySem.Expr} {Q : Value → Shared → Prop}
 (hn : notSuper o = true) (hs : args.all notStar = true) (hz : args.length < 29) (hline : (apos.endLine == pos.line) = true)
 (h : wpAny (model prog w) A (eval o env) (fun ov s₁ => ∀ pl : Sem Bool, wpAny (model prog w) A (getMethod ov name pl) (fun fx s₂ => wpAny (model prog w) A (callWith pos fx.1 fx.2 (backTo pos (starEach args env)) []) Q E s₂) E s₁) E s) :
 wpAny (model prog w) A (eval (.Call (.Attribute o name apos) args [] pos) env) Q E s := by
 rw [arm_eval_Call]
 refine wpAny_bind (base_wp hn (wpAny_mono h (fun ov s₁ h₁ => ?_) fun V V e => e))
 refine wpAny_bind (wpAny_standAt ?_)
 have hform : methodCallForm (args.length + ([] : List Keyword).length) (backTo pos (starEach args env)) (backToKw pos (keywordEach [] env)) = true := by
  unfold methodCallForm
  have h1 : ((backTo pos (starEach args env)).all fun x => !x.1) = true := by
   have := noStar_any (env := env) (pos := pos) hs
   rw [List.any_eq_false] at this
   rw [List.all_eq_true]
   intro x hx
   have := this x hx
   simpa using this
  rw [h1]
  show (true && true && decide _) = true
  rw [Bool.true_and, Bool.true_and, decide_eq_true_iff]
  show args.length + 0 + 0 < 30
  omega
 have hpos : methodCallPos true o env apos pos = pure pos := by unfold methodCallPos; simp [hline]
 unfold methodCall
 rw [hform]
 refine wpAny_bind (wpAny_holding ?_)
 show wpAny _ _ (getMethod ov name _) _ _ _
 refine wpAny_mono (h₁ _) (fun fx s₂ h₂ => ?_) fun V V e => e
 obtain ⟨f, first⟩ := fx
 exact wpAny_bind (wpAny_of_eq hpos h₂)
theorem ok_cM {F : Nat → FDef} {H : Nat → AV → AV → St → (AV → St → B) → B} {n : Nat} (C : Cx G) (W : Cw G) (hH : HOk G Z F H n) {sc : Scope} {ev ev2 : Loc → St → (AV → St → B) → B} {nm : PySem.Str} {a : Pth} {o : PySem.Expr} {apos pos : Pos} {es : List PySem.Expr}
 (hnm : nm = G.nmA (pIdx a)) (hn : notSuper o = true) (hs : es.all notStar = true) (hz : es.length < 29) (hline : (apos.endLine == pos.line) = true)
 (h : EvOk G Z sc ev n (fun env => eval o env)) (h2 : EvLs G Z sc ev2 n (fun env => backTo pos (starEach es env))) :
 EvOk G Z sc (fun l s k => ev l s fun v s => inP s.h v fun p c V => ifB (Nat.beq (G.T.meth c a) 9999) false (ev2 l s fun as s => H (G.T.meth c a) (.cons (.ref p) as) .nil s k)) n (fun env => eval (.Call (.Attribute o nm apos) es [] pos) env) := by
 intro l σ k hk env A s ρ m E X R
 refine Call_method_gen hn hs hz hline (wpAny_mono (h l σ _ hk env A s ρ m E X R) (fun v s₁ q => ?_) fun V V e => e)
 obtain ⟨av, σ₁, ρ₁, P, hv, hk₁⟩ := q
 intro pl
 obtain ⟨p, ad, d, c, f, rfl, hr, ho, ⟨es', n', hc, h1, h2', h3, h4, fld⟩, hk2⟩ := hv.inP P.sr hk₁
 rcases beq_e hk2 with ⟨_, hk3⟩ | ⟨hb', hk3⟩
 · exact ff hk3
 · clear hk2 hk₁ hk
   have KX := P.sr.kin C
   obtain ⟨m1, m2, m3⟩ := W.meth c a hc hb'
   have cl := C.cls c hc
   have fa := h3 a
   have fn : f.get a = none := by
    cases e : f.get a with
    | none => rfl
    | some b =>
     have := fld a (by rw [e]; simp)
     unfold FldOk at this
     rw [m1] at this; cases this
   rw [fn] at fa
   have I : InstAt s₁.heap ad (instObj (G.clA c) d) (G.clA c) (some (dictOf es' n')) := ⟨h1, rfl, rfl, h2'⟩
   subst hnm
   refine method_fn KX I cl.1 cl.2.1 m1 m2 (by show (lookIn _ (dictOf es' n')).map _ = _; rw [lookIn_dict, fa]; rfl) ?_
   refine call_plain (P := fun h => G.K.In h) hs (keeps_K m3) (wpAny_mono (h2 l σ₁ _ hk3 env A s₁ ρ₁ m (E.after P) P.sr R) (fun vs s₂ q => ?_) fun V V e => aft P e)
   obtain ⟨_, b, σ₂, ρ₂, P₂, hvs, hk4⟩ := q
   refine ⟨P₂.sr.kin C, wpAny_call ?_⟩
   have P12 := P.trans P₂
   have hself : V1 G ρ₂ s₂.heap (.ref p) (.ref ad) := .ref (P₂.le _ _ hr)
   refine codeAny_mono (hH _ _ .nil σ₂ k hk4 env A s₂ ρ₂ (.ref ad :: vs) [] (E.after P12).stk P12.sr (.cons hself hvs) .nil ⟨List.nodup_nil, fun x hx => by cases hx⟩ R.toH) fun r s' q => ?_
   rcases r with er | (v | _ | _ | _)
   · exact aft P12 q
   · exact q.elim
   · exact q.elim
   · exact q.elim
   · exact QE.after P12 q
theorem ok_cC {F : Nat → FDef} {H : Nat → AV → AV → St → (AV → St → B) → B} {n : Nat} (C : Cx G) (W : Cw G) (hH : HOk G Z F H n) {sc : Scope} {ev ev2 : Loc → St → (AV → St → B) → B} {c : Nat} {x : PySem.Str} {p pos : Pos} {es : List PySem.Expr} {ks : List Keyword} {ns : List PySem.Str}
 (hc : c < G.nC) (hi : G.T.init c ≠ 9999) (hx : sc.names.lookup x = some .globalImplicit) (e : nsIn G.K mainGlobals x = some (some (.ref (G.clA c)))) (hk : keepIn G.K (.ref (G.clA c)) = true) (hd : (x == ("__debug__" : PySem.Str)) = false)
 (hs : es.all notStar = true) (hns : kwNames ks = some ns) (nd : ns.Nodup) (fine : ∀ x ∈ ns, x ∈ (F (G.T.init c)).ps.map G.nmV ∧ x ∉ ((F (G.T.init c)).ps.map G.nmV).take (es.length + 1))
 (h : EvLs G Z sc ev n (fun env => backTo pos (starEach es env))) (h2 : EvKs G Z sc ev2 n ns (fun env => backToKw pos (keywordEach ks env))) :
 EvOk G Z sc (fun l s k => ev l s fun as s => ev2 l s fun ks s => allocK s (.inst c .nil) fun r s => H (G.T.init c) (.cons r as) ks s fun v s => noneK v (k r s)) n (fun env => eval (.Call (.Name x p) es ks pos) env) := by
 intro l σ k hk' env A s ρ m E X R
 refine wpAny_Call_ofName (name_glob C E X hx e hd ?_)
 refine call_kws (P := fun h => G.K.In h) hs hns (keeps_K hk) (wpAny_mono (h l σ _ hk' env A s ρ m E X R) (fun vs s₁ q => ?_) fun V V e => e)
 obtain ⟨hl, a, σ₁, ρ₁, P, hv, hk₁⟩ := q
 refine wpAny_mono (h2 l σ₁ _ hk₁ env A s₁ ρ₁ m (E.after P) P.sr R) (fun ws s₂ q => ?_) fun V V e => aft P e
 obtain ⟨b, σ₂, ρ₂, P₂, hw, hwl, hk₂⟩ := q
 have P12 := P.trans P₂
 refine ⟨P12.sr.kin C, wpAny_call ?_⟩
 obtain ⟨hp, gn, dr, tk, os⟩ := s₂
 obtain ⟨m1, m2, m3⟩ := W.make c hc hi
 have KX : G.K.In hp := P₂.sr.kin C
 obtain ⟨nx, hh⟩ := σ₂
 have kp : ∀ b o, hp.get? b = some o → ((hp.push emptyDict).push (instObj (G.clA c) hp.objs.size)).get? b = some o := fun b o e => Heap.get?_push_of_some _ (Heap.get?_push_of_some _ e)
 have hd' : ((hp.push emptyDict).push (instObj (G.clA c) hp.objs.size)).get? hp.objs.size = some emptyDict := Heap.get?_push_of_some _ (Heap.get?_push_size _ rfl)
 have hx' : ((hp.push emptyDict).push (instObj (G.clA c) hp.objs.size)).get? (hp.objs.size + 1) = some (instObj (G.clA c) hp.objs.size) := by heap_get
 obtain ⟨σ₃, P₃, hr, hk₃⟩ := Pst.alloc (own := []) (s := ⟨hp, gn, dr, tk, os⟩) (s₀ := ⟨(hp.push emptyDict).push (instObj (G.clA c) hp.objs.size), gn, dr, tk, os⟩) (a := hp.objs.size + 1) (d := hp.objs.size) hk₂ P₂.sr kp (Heap.get?_none_of_le (Nat.le_succ _)) (none_at _) ⟨_, hd'⟩
  (.inst (es := []) (n := 0) hc hx' hd' (fun q => by rw [FT.get_nil]; rfl) ⟨[], List.nodup_nil, (fun n hn => by cases hn), Nat.le_refl _⟩ (fun q hq => absurd (FT.get_nil q) hq)) rfl
 have P13 := P12.trans P₃
 refine make_core (makes_of KX m1) (looks_findIn KX m2) (fun self => bind_fn KX self m3) (.inl rfl) ?_
 have hv3 := (hv.mono P₂.le P₂.tups).mono P₃.le P₃.tups
 have st := (E.after P13).stk
 refine codeAny_mono (hH _ _ _ σ₃ _ hk₃ env _ _ _ (.ref (hp.objs.size + 1) :: vs) (ns.zip ws) ?_ P₃.sr (.cons hr hv3) (hw.mono P₃.le P₃.tups) ⟨?_, fun y hy => ?_⟩ ?_) fun r s' q => ?_
 · obtain ⟨fr, h1, h2⟩ := st
   exact ⟨fr, h1, h2⟩
 · rw [List.map_fst_zip (by omega)]; exact nd
 · have := fine y.1 (List.of_mem_zip hy).1
   rw [List.length_cons, hl]
   refine ⟨this.1, ?_⟩
   have e2 : ((fun env => backTo pos (starEach es env)) env).length = es.length := by
    show (backTo pos (starEach es env)).length = _
    exact len_back hs
   rw [e2]; exact this.2
 · refine ⟨R.handled, ?_, ?_⟩
   · rw [depth_under_kw]; have := R.depth; omega
   · have := R.units
     have e : ∀ (a : Args), (A.under (Code.builtin "type.__call__" a)).units = A.units + (Code.builtin "type.__call__" a).cUnits := fun a => rfl
     rw [e]
     have e2 : ∀ (a : Args), (Code.builtin "type.__call__" a).cUnits ≤ 32 := fun a => by
      show (Code.builtin "type.__call__" ⟨[], []⟩).cUnits ≤ 32
      decide +kernel
     have := e2 ⟨Value.ref (G.clA c) :: ([] ++ vs), ns.zip ws⟩
     omega
 · rcases r with er | (v | _ | _ | _)
   · exact aft P13 (EOk0.frames G (A := A.under (Code.builtin "type.__call__" ⟨Value.ref (G.clA c) :: ([] ++ vs), ns.zip ws⟩)) rfl q)
   · exact q.elim
   · exact q.elim
   · exact q.elim
   · obtain ⟨b', σ', ρ', P', hv', hk4⟩ := q
     cases b' <;> try exact absurd (show false = true from hk4) Bool.false_ne_true
     refine ⟨V1.none_inv hv', ?_⟩
     exact ⟨.ref nx, σ', ρ', P13.trans P', .ref (P'.le _ _ Rh.ext_self), hk4⟩
end Mst
end
section
namespace Mst
open PySem PySem.W PyProof.Rows PySem.Calls PySem.SeqAt
variable {G : Gl} {Z : ER} [EOk0 G Z]
noncomputable def Apart (o : Obj) : Prop := (∀ vs, o ≠ tupO vs) ∧ (∀ C d, o ≠ instObj C d)
theorem Apart.dict {o : Obj} {es : Array DictEntry} {ep : Nat} (h : o.data = .dict es ep) : Apart o :=
 ⟨fun vs e => (by rw [e] at h; cases h), fun C d e => (by rw [e] at h; cases h)⟩
theorem Apart.list {its : Array Value} {n : Nat} : Apart (listOf its n) := ⟨fun vs e => absurd (Value.type.inj (congrArg Obj.cls e)) (by decide), fun C d e => nomatch congrArg Obj.cls e⟩
theorem Apart.cell {o : Obj} {v : Option Value} (h : o.data = .cell v) : Apart o :=
 ⟨fun vs e => (by rw [e] at h; cases h), fun C d e => (by rw [e] at h; cases h)⟩
theorem Apart.fields {o : Obj} {v : Array Value} (h : o.data = .fields v) : Apart o :=
 ⟨fun vs e => (by rw [e] at h; cases h), fun C d e => (by rw [e] at h; cases h)⟩
theorem Pst.touch {ρ : Rh} {own : List Addr} {s : Shared} {σ : St} {b : Addr} {o : Obj} {h' : Heap} (tk : Nat) (X : SR G ρ σ s.heap) (ho : s.heap.get? b = some o) (ap : Apart o) (nm : ¬ Mut ρ b) (nH : G.H0.get? b = none) (hb : b ∈ own)
 (hs : ∀ c o, c ≠ b → s.heap.get? c = some o → h'.get? c = some o) (lv : ∃ o', h'.get? b = some o') : Pst G ρ own s ρ { s with heap := h', toks := tk } σ := by
 have tp : Tups s.heap h' := fun a vs e => hs a _ (fun q => ap.1 vs (by rw [q, ho] at e; exact Option.some.inj e)) e
 refine ⟨rfl, ⟨fun c o e => hs c o (fun q => by rw [q, nH] at e; cases e) (X.base c o e), fun p o hp => ?_, X.fresh, X.inj, X.apart, fun p a d hp => ?_⟩, Rle.refl ρ, fun V V V h => .inl h, fun c o e V hc => ⟨o.slots, hs c o (fun q => hc (q ▸ hb)) e, fun V => rfl⟩, fun c o e => ?_, tp, fun c hc => .same fun o e => hs c o (fun q => nm (q ▸ hc)) e⟩
 · obtain ⟨a, d, h1, h2⟩ := X.obj p o hp
   have nd : d ≠ b := fun q => nm ⟨p, a, q ▸ h1⟩
   refine ⟨a, d, h1, ?_⟩
   by_cases na : a = b
   · exfalso
     subst na
     cases h2 with
     | list e _ _ _ => exact nd e
     | dictI e _ _ _ _ _ => exact nd e
     | dictS e _ _ _ _ _ => exact nd e
     | inst _ g1 _ _ _ _ => rw [ho] at g1; exact ap.2 _ _ (Option.some.inj g1)
     | range e _ => exact nd e
   · exact h2.keeps (Rle.refl ρ) (fun o e => hs a o na e) (fun o e => hs d o nd e) tp
 · obtain ⟨o', h1⟩ := X.live p a d hp
   exact ⟨o', hs d o' (fun q => nm ⟨p, a, q ▸ hp⟩) h1⟩
 · by_cases q : c = b
   · subst q; exact lv
   · exact ⟨o, hs c o q e⟩
theorem Stk.touch {A : Around} {ρ : Rh} {h h' : Heap} {b : Addr} (x : Stk G A ρ h) (hs : ∀ c o, c ≠ b → h.get? c = some o → h'.get? c = some o) (hb : ∀ o, h.get? b = some o → IsFr o → ∃ o', h'.get? b = some o' ∧ IsFr o') : Stk G A ρ h' := by
 obtain ⟨l, hl, h1⟩ := x
 refine ⟨l, hl, fun e he => ?_⟩
 obtain ⟨hk, L, o, h2, h3, h4, h5, h6⟩ := h1 e he
 by_cases q : L = b
 · subst q
   obtain ⟨o', h7, h8⟩ := hb o h3 h4
   exact ⟨hk, L, o', h2, h7, h8, h5, h6⟩
 · exact ⟨hk, L, o, h2, hs L o q h3, h4, h5, h6⟩
theorem EnvOkT.store {T : List Nat} {sc : Scope} {A : Around} {env : Env} {l l' : Loc} {ρ : Rh} {s : Shared} {σ : St} {m : PySem.Str → Option Value} {n : Nat} {av : AV} {v : Value} {h' : Heap} (Y : Cy G) (E : EnvOkT G T sc A env l ρ s.heap m) (X : SR G ρ σ s.heap) (hv : V1 G ρ s.heap av v)
 (hk : env.kindOf (G.nmV n) = some .local) (hl : l'.get n = some av) (hl2 : ∀ k, k ≠ n → l'.get k = l.get k) (hn : h'.Ns env.locals (fun y => if y = G.nmV n then some v else m y)) (hs : Heap.SameBut env.locals s.heap h') (hcl : ∀ o, s.heap.get? env.locals = some o → ∃ o', h'.get? env.locals = some o' ∧ o'.cls = o.cls) (tk : Nat) :
 Pst G ρ (ownOf env) s ρ { s with heap := h', toks := tk } σ ∧ EnvOkT G (T.filter (· ≠ n)) sc A env l' ρ h' (fun y => if y = G.nmV n then some v else m y) := by
 obtain ⟨oL, es, ep, hL, hd, _⟩ := E.ns
 have keep : ∀ c o, c ≠ env.locals → s.heap.get? c = some o → h'.get? c = some o := fun c o hc e => (hs.2 c hc).trans e
 obtain ⟨oL', es', ep', hL', hd', _⟩ := id hn
 have P : Pst G ρ (ownOf env) s ρ { s with heap := h', toks := tk } σ := Pst.touch tk X hL (.dict hd) E.offL E.baseL List.mem_cons_self keep ⟨_, hL'⟩
 refine ⟨P, E.scope, E.kind, E.blts, E.globs, hn, E.offL, fun x c hc => ?_, fun k a hkT hka => ?_, E.baseL, E.ndC, E.hasC, E.stk.touch keep fun o e nf => by
  obtain ⟨o', g1, g2⟩ := hcl o e
  rw [hL'] at g1; cases g1
  exact ⟨_, hL', g2.trans nf.1, _, _, hd'⟩⟩
 · obtain ⟨h1, o, v', h2, h3⟩ := E.offC x c hc
   exact ⟨h1, o, v', keep c o (fun e => by rw [e, hL] at h2; cases h2; rw [hd] at h3; cases h3) h2, h3⟩
 · by_cases q : k = n
   · subst q
     rw [hl] at hka; cases hka
     exact ⟨v, hv.mono (Rle.refl _) P.tups, fun V => if_pos rfl, fun q => by rw [hk] at q; rcases q with q | q <;> cases q⟩
   · rw [hl2 k q] at hka
     have hkT' : k ∉ T := fun h => hkT (List.mem_filter.mpr ⟨h, by simpa using q⟩)
     obtain ⟨v', h1, h2, h3⟩ := E.look k a hkT' hka
     have nn : G.nmV k ≠ G.nmV n := fun e => q (Y.injV _ _ e)
     refine ⟨v', h1.mono (Rle.refl _) P.tups, fun q => by rw [if_neg nn]; exact h2 q, fun q => ?_⟩
     obtain ⟨c, h4, h5⟩ := h3 q
     refine ⟨c, h4, h5.sameBut hs fun e => ?_⟩
     obtain ⟨oc, h6, h7⟩ := h5
     rw [e, hL] at h6
     have := Option.some.inj h6
     subst this
     rw [hd] at h7; cases h7
variable (G) (Z)
inductive QA (T' : List Nat) (sc : Scope) (A : Around) (env : Env) (kn : Loc → St → B) (ρ : Rh) (s s' : Shared) : Prop
 | mk (σ' : St) (ρ' : Rh) (l' : Loc) (m' : PySem.Str → Option Value) : Pst G ρ (ownOf env) s ρ' s' σ' → EnvOkT G T' sc A env l' ρ' s'.heap m' → kn l' σ' = true → QA T' sc A env kn ρ s s'
noncomputable def AsOkT (T T' : List Nat) (sc : Scope) (tg : AV → Loc → St → (Loc → St → B) → B) (n : Nat) (t : Env → Value → Sem Unit) : Prop :=
 ∀ (av : AV) (l : Loc) (σ : St) (kn : Loc → St → B), tg av l σ kn = true → ∀ (env : Env) (A : Around) (s : Shared) (ρ : Rh) (m : PySem.Str → Option Value) (v : Value),
  EnvOkT G T sc A env l ρ s.heap m → SR G ρ σ s.heap → V1 G ρ s.heap av v → Rm A n →
  wpAny (model G.prog G.w) A (t env v) (fun V s' => QA G T' sc A env kn ρ s s') (Z env A ρ s) s
abbrev AsOk := AsOkT G Z [] []
variable {G} {Z}
theorem as_name {T : List Nat} {sc : Scope} {n : Nat} (Y : Cy G) {x : PySem.Str} {v : Nat} {p : Pos} (hx : x = G.nmV v) (hk : sc.names.lookup (G.nmV v) = some .local) :
 AsOkT G Z T (T.filter (· ≠ v)) sc (fun v' l s k => l.setK v v' fun l => k l s) n (fun env w => assign (.Name x p) env w) := by
 intro av l σ kn hkn env A s ρ m w E X hv R
 obtain ⟨l', h1, h2, h3⟩ := Loc.setK_some hkn
 have hk' : env.kindOf (G.nmV v) = some .local := by unfold Env.kindOf; rw [E.scope]; exact hk
 subst hx
 refine assign_Name (storeName_C hk' E.ns (fun h' hn hs hcl => ?_) (by rw [E.kind]; rfl))
 obtain ⟨P, E'⟩ := E.store Y X hv hk' h2 h3 hn hs hcl (s.toks + 1)
 exact ⟨σ, ρ, l', _, P, E', h1⟩
variable (G) (Z)
noncomputable def AsLsT (T T' : List Nat) (sc : Scope) (tg : AV → Loc → St → (Loc → St → B) → B) (n : Nat) (t : Env → List (Bool × (Value → Sem Unit))) : Prop :=
 ∀ (av : AV) (l : Loc) (σ : St) (kn : Loc → St → B), tg av l σ kn = true → ∀ (env : Env) (A : Around) (s : Shared) (ρ : Rh) (m : PySem.Str → Option Value) (vs : List Value),
  EnvOkT G T sc A env l ρ s.heap m → SR G ρ σ s.heap → V2 G ρ s.heap av vs → Rm A n →
  wpAny (model G.prog G.w) A (assignInOrder ((t env).map (·.2)) vs) (fun V s' => QA G T' sc A env kn ρ s s') (Z env A ρ s) s
abbrev AsLs := AsLsT G Z [] []
variable {G} {Z}
theorem as_nil {T : List Nat} {sc : Scope} {n : Nat} : AsLsT G Z T T sc (fun v l s k => nilK v (k l s)) n (fun env => assignEach [] env) := by
 intro av l σ kn hk env A s ρ m vs E X hv R
 obtain ⟨rfl, hk⟩ := hv.nilK hk
 exact wpAny_pure ⟨σ, ρ, l, m, Pst.refl X, E, hk⟩
theorem assignEach_cons {e : PySem.Expr} {r : List PySem.Expr} {env : Env} (h : notStar e = true) : assignEach (e :: r) env = (false, assign e env) :: assignEach r env := by
 cases e with
 | Starred => exact ff h
 | _ => rfl
theorem as_cons [EOk G Z] {T T1 T2 : List Nat} {sc : Scope} {n : Nat} {tg tg2 : AV → Loc → St → (Loc → St → B) → B} {e : PySem.Expr} {r : List PySem.Expr} (hs : notStar e = true) (h : AsOkT G Z T T1 sc tg n (fun env v => assign e env v)) (g : AsLsT G Z T1 T2 sc tg2 n (fun env => assignEach r env)) :
 AsLsT G Z T T2 sc (fun v l s k => consK v fun x m => tg x l s fun l s => tg2 m l s k) n (fun env => assignEach (e :: r) env) := by
 intro av l σ kn hk env A s ρ m vs E X hv R
 obtain ⟨a, m', v, vs, rfl, h1, h2, hk⟩ := hv.consK hk
 · show wpAny _ _ (assignInOrder ((assignEach (e :: r) env).map (·.2)) _) _ _ _
   rw [assignEach_cons hs, List.map_cons]
   refine wpAny_bind (wpAny_holding (wpAny_mono (h _ l σ _ hk env A s ρ m _ E X h1 R) (fun V s₁ q => ?_) fun V V e => e))
   obtain ⟨σ₁, ρ₁, l₁, m₁, P, E₁, hk₁⟩ := q
   refine wpAny_mono (g _ l₁ σ₁ _ hk₁ env A s₁ ρ₁ m₁ _ E₁ P.sr (h2.mono P.le P.tups) R) (fun V s₂ q => ?_) fun V V e => EOk.afterO P e
   obtain ⟨σ₂, ρ₂, l₂, m₂, P₂, E₂, hk₂⟩ := q
   exact ⟨σ₂, ρ₂, l₂, m₂, P.trans P₂, E₂, hk₂⟩
theorem lenEq_some {ρ : Rh} {h : Heap} {t : X} {v : AV} {vs : List Value} {k : B} (hv : V2 G ρ h v vs) (e : lenEq t v k = true) : lenX t = vs.length ∧ k = true := by
 have := lenV_some hv e
 rw [Nat.zero_add] at this
 cases q : Nat.beq vs.length (lenX t) with
 | true => rw [q] at this; exact ⟨(Nat.eq_of_beq_eq_true q).symm, this⟩
 | false => rw [q] at this; cases this
theorem each_len {env : Env} : ∀ {es : List PySem.Expr}, es.all notStar = true → (assignEach es env).length = es.length ∧ (assignEach es env).findIdx? (·.1) = none
 | [], _ => ⟨rfl, rfl⟩
 | e :: r, h => by
  simp only [List.all_cons, Bool.and_eq_true] at h
  obtain ⟨h1, h2⟩ := each_len (env := env) h.2
  rw [assignEach_cons h.1]
  refine ⟨by rw [List.length_cons, List.length_cons, h1], ?_⟩
  rw [List.findIdx?_cons, h2]; rfl
section
variable {prog : Program} {w : World} {A : Around} {E : Value → Shared → Prop}
theorem draw_lst {it t : Addr} {items : Array Value} (hne : t ≠ it) : ∀ (n i : Nat) (s : Shared) (Q : List Value → Shared → Prop), s.heap.IsListIter it t i → s.heap.IsList t items → i + n ≤ items.size →
 (∀ h', h'.IsListIter it t (i + n) → Heap.SameBut it s.heap h' → Q ((items.toList.drop i).take n) { s with heap := h' }) → wpAny (model prog w) A (draw (.ref it) n) Q E s
 | 0, i, s, Q, hit, _, _, hQ => by
  show wpAny _ _ (pure []) Q E s
  exact wpAny_pure (by simpa using hQ s.heap hit (Heap.SameBut.refl ..))
 | n + 1, i, s, Q, hit, ht, hle, hQ => by
  have hlt : i < items.size := by omega
  show wpAny _ _ (pyNext (.ref it) >>= _) Q E s
  refine wpAny_bind (wpAny_pyNext_list_item hit ht (x := items[i]) (by simp [hlt]) fun h₁ hit₁ hs₁ => ?_)
  refine wpAny_bind (wpAny_holding (draw_lst hne n (i + 1) _ _ hit₁ (ht.extBut hs₁.extBut hne) (by omega) fun h₂ hit₂ hs₂ => wpAny_pure ?_))
  have hd : items.toList.drop i = items[i] :: items.toList.drop (i + 1) := by simp [List.drop_eq_getElem_cons, hlt]
  have := hQ h₂ (by rw [show i + (n + 1) = i + 1 + n by omega]; exact hit₂) (hs₁.trans hs₂)
  rw [hd, List.take_succ_cons] at this
  exact this
theorem unpack_lst {s : Shared} {t : Addr} {items : Array Value} {Q : List Value → Shared → Prop} (hh : A.handled = none) (ht : s.heap.IsList t items)
 (hQ : ∀ h', Heap.ExtBut s.heap.objs.size s.heap h' → Q items.toList { s with heap := h' }) : wpAny (model prog w) A (unpackItems (.ref t) items.size none) Q E s := by
 have hlt : t ≠ s.heap.objs.size := by obtain ⟨o, ho, _⟩ := ht; exact Nat.ne_of_lt (Heap.lt_size ho)
 unfold unpackItems
 refine wpAny_bind ?_
 · unfold notIterableAtAll
   refine wpAny_bind (wpAny_specialOf ht.typeIs slot_list_iter.lookup ?_)
   refine wpAny_pure ?_
   simp only [Bool.false_eq_true, if_false]
   refine wpAny_bind (wpAny_holding (wpAny_pyIter_list ht ?_))
   have hp : (s.heap.push { cls := .type "list_iterator", data := .fields #[.ref t, .int 0 0] }).IsList t items := by
    obtain ⟨o, ho, r⟩ := ht
    exact ⟨o, Heap.get?_push_of_some _ ho, r⟩
   refine wpAny_bind (wpAny_holding (draw_lst hlt items.size 0 _ _ ⟨_, Heap.get?_push_size _ rfl, rfl, rfl⟩ hp (by omega) fun h₁ hit₁ hs₁ => ?_))
   have hall : List.take items.size (List.drop 0 items.toList) = items.toList := by
    rw [List.drop_zero]; exact List.take_of_length_le (by simp)
   rw [hall]
   rw [if_neg (by simp)]
   have ht₁ : h₁.IsList t items := hp.extBut hs₁.extBut hlt
   refine wpAny_bind (wpAny_holding (wpAny_pyNext_list_end hh hit₁ ht₁ (by simp) fun h₂ he₂ => ?_))
   simp only [Option.isSome_none, Bool.false_eq_true, if_false]
   refine wpAny_pure (hQ h₂ fun b o hb e => he₂ b o hb (hs₁.extBut b o hb (Heap.get?_push_of_some _ e)))
theorem assign_lst {s : Shared} {env : Env} {elts : List PySem.Expr} {x1} {pos : Pos} {t : Addr} {items : Array Value} {Q : Unit → Shared → Prop} (hh : A.handled = none) (ht : s.heap.IsList t items)
 (hn : (assignEach elts env).length = items.size) (hstar : (assignEach elts env).findIdx? (·.1) = none)
 (h : ∀ h', Heap.ExtBut s.heap.objs.size s.heap h' → wpAny (model prog w) A (assignInOrder ((assignEach elts env).map (·.2)) items.toList) Q E { s with heap := h' }) :
 wpAny (model prog w) A (assign (.Tuple elts x1 pos) env (.ref t)) Q E s := by
 rw [PyProof.Rows.assign_Tuple]
 refine wpAny_bind (wpAny_standAt ?_)
 unfold unpack
 rw [hn, hstar]
 exact wpAny_bind (wpAny_holding (unpack_lst hh ht h))
end
section
variable {T T' : List Nat} {sc : Scope} {n : Nat} {tg : AV → Loc → St → (Loc → St → B) → B} {t : X} {es : List PySem.Expr} {c : Nat} {p : Pos} {ls : AV} {l : Loc} {σ : St} {kn : Loc → St → B} {env : Env} {A : Around} {s : Shared} {ρ : Rh} {m : PySem.Str → Option Value}
theorem as_each {vs : List Value} {h' : Heap} (g : AsLsT G Z T T' sc tg n (fun env => assignEach es env)) (hk : tg ls l σ kn = true) (E : EnvOkT G T sc A env l ρ s.heap m) (X : SR G ρ σ s.heap) (hv : V2 G ρ s.heap ls vs) (R : Rm A n) (he : Heap.ExtBut s.heap.objs.size s.heap h') :
 wpAny (model G.prog G.w) A (assignInOrder ((assignEach es env).map (·.2)) vs) (fun V s' => QA G T' sc A env kn ρ s s') (Z env A ρ s) { s with heap := h' } := by
 have P : Pst G ρ [] s ρ { s with heap := h' } σ := Pst.grow s.toks X fun b o e => he b o (Nat.ne_of_lt (Heap.lt_size e)) e
 refine wpAny_mono (g ls l σ kn hk env A _ ρ m vs (E.after P) P.sr (hv.mono P.le P.tups) R) (fun V s₂ q => ?_) fun V V e => aft P e
 obtain ⟨σ₂, ρ₂, l₂, m₂, P₂, E₂, hk₂⟩ := q
 exact ⟨σ₂, ρ₂, l₂, m₂, P.any.trans P₂, E₂, hk₂⟩
theorem as_tup0 {a : Addr} {vs : List Value} (hs : es.all notStar = true) (ht : lenX t = es.length) (g : AsLsT G Z T T' sc tg n (fun env => assignEach es env)) (hk : lenEq t ls (tg ls l σ kn) = true) (E : EnvOkT G T sc A env l ρ s.heap m) (X : SR G ρ σ s.heap) (g1 : s.heap.get? a = some (tupO vs)) (hv : V2 G ρ s.heap ls vs) (R : Rm A n) :
 wpAny (model G.prog G.w) A (assign (.Tuple es c p) env (.ref a)) (fun V s' => QA G T' sc A env kn ρ s s') (Z env A ρ s) s := by
 obtain ⟨hl1, hl2⟩ := each_len (env := env) hs
 obtain ⟨h3, h4⟩ := lenEq_some hv hk
 exact assign_Tuple_tuple (items := vs.toArray) R.handled ⟨_, g1, rfl, 0, rfl⟩ (by rw [hl1, List.size_toArray, ← h3, ht]) hl2 fun h' he => as_each g h4 E X hv R he
theorem as_tupT (hs : es.all notStar = true) (ht : lenX t = es.length) (g : AsLsT G Z T T' sc tg n (fun env => assignEach es env)) :
 AsOkT G Z T T' sc (fun v l s k => tupK v fun m => lenEq t m (tg m l s k)) n (fun env v => assign (.Tuple es c p) env v) := by
 intro av l σ kn hk env A s ρ m v E X hv R
 obtain ⟨ls, a1, vs, rfl, g1, h1, z1, hk⟩ := hv.tupK hk
 exact as_tup0 hs ht g hk E X g1 h1 R
theorem as_tup (hs : es.all notStar = true) (ht : lenX t = es.length) (g : AsLs G Z sc tg n (fun env => assignEach es env)) :
 AsOk G Z sc (fun v l s k => seqK s.h v fun m => lenEq t m (tg m l s k)) n (fun env v => assign (.Tuple es c p) env v) := by
 intro av l σ kn hk env A s ρ m v E X hv R
 cases av with
 | ref q =>
  obtain ⟨_, _, ls, ws, n1, rfl, _, _, g1, v1, z1, hk⟩ := hv.lsP X (k := fun V m => lenEq t m (tg m l σ kn)) hk
  obtain ⟨hl1, hl2⟩ := each_len (env := env) hs
  obtain ⟨h3, h4⟩ := lenEq_some v1 hk
  exact assign_lst (items := ws.toArray) R.handled ⟨_, g1, rfl, n1, rfl⟩ (by rw [hl1, List.size_toArray, ← h3, ht]) hl2 fun h' he => as_each g h4 E X v1 R he
 | tup ls =>
  obtain ⟨a1, vs, rfl, g1, h1, z1⟩ := hv.tup_inv
  exact as_tup0 hs ht g hk E X g1 h1 R
 | _ => exact ff hk
end
end Mst
end
section
namespace Mst
open PySem PySem.W PyProof.Rows PySem.Calls PySem.SeqAt
variable {G : Gl} {Z : ER} [EOk0 G Z]
section
variable {name : PySem.Str} {hsh : Int} {t : Tok} {v : Value}
theorem isStr_self : (Value.str name t).isStr name = true := by simp [Value.isStr]
theorem isStr_ne {x : PySem.Str} {k : Value} (h : k.isStr name = true) (hx : x ≠ name) : k.isStr x = false := by
 cases k <;> simp [Value.isStr] at h ⊢
 rw [h]; exact fun e => hx e.symm
theorem getL_put_same : ∀ (es : List DictEntry), getL name (putL name hsh (.str name t) v es) = some (some v)
 | [] => by unfold getL putL; simp only [List.find?_cons, isStr_self]
 | e :: r => by
  unfold putL
  cases q : e.key.isStr name with
  | true => simp only [if_true]; unfold getL; simp only [List.find?_cons, q]
  | false =>
   simp only [Bool.false_eq_true, if_false]
   have ih := getL_put_same r
   unfold getL at ih ⊢
   simp only [List.find?_cons, q]
   cases f : (putL name hsh (Value.str name t) v r).find? (fun x => x.key.isStr name) with
   | some e' => rw [f] at ih; exact ih
   | none =>
    rw [f] at ih
    dsimp only at ih
    split at ih <;> cases ih
theorem putL_find_other {x : PySem.Str} (hx : x ≠ name) : ∀ (es : List DictEntry), ((putL name hsh (.str name t) v es).find? (fun e => e.key.isStr x)) = es.find? (fun e => e.key.isStr x)
 | [] => by
  unfold putL
  simp only [List.find?_cons, isStr_ne isStr_self hx]
 | e :: r => by
  unfold putL
  cases q : e.key.isStr name with
  | true =>
   have n := isStr_ne q hx
   simp only [if_true]
   simp only [List.find?_cons, n]
  | false =>
   simp only [Bool.false_eq_true, if_false]
   rw [List.find?_cons, List.find?_cons, putL_find_other hx r]
theorem putL_ref : ∀ (es : List DictEntry), (putL name hsh (.str name t) v es).any (·.refKey) = es.any (·.refKey)
 | [] => rfl
 | e :: r => by
  unfold putL
  cases q : e.key.isStr name with
  | true => simp only [if_true, List.any_cons]; rfl
  | false => simp only [Bool.false_eq_true, if_false, List.any_cons, putL_ref r]
theorem getL_put_other {x : PySem.Str} (hx : x ≠ name) (es : List DictEntry) : getL x (putL name hsh (.str name t) v es) = getL x es := by
 unfold getL
 rw [putL_find_other hx, putL_ref]
theorem putL_len : ∀ (es : List DictEntry), (putL name hsh (.str name t) v es).length = if es.any (·.key.isStr name) then es.length else es.length + 1
 | [] => rfl
 | e :: r => by
  unfold putL
  cases q : e.key.isStr name with
  | true => simp only [if_true, List.any_cons, q, Bool.true_or, List.length_cons]
  | false =>
   simp only [Bool.false_eq_true, if_false, List.any_cons, q, Bool.false_or, List.length_cons, putL_len r]
   split <;> rfl
theorem getL_any {es : List DictEntry} {w : Value} (h : getL name es = some (some w)) : es.any (·.key.isStr name) = true := by
 unfold getL at h
 cases f : es.find? (fun x => x.key.isStr name) with
 | some e => exact List.any_eq_true.mpr ⟨e, List.mem_of_find?_eq_some f, List.find?_some (p := fun x : DictEntry => x.key.isStr name) f⟩
 | none =>
  rw [f] at h
  dsimp only at h
  split at h <;> cases h
theorem getL_not {es : List DictEntry} (h : getL name es = some none) : es.any (·.key.isStr name) = false := by
 unfold getL at h
 cases f : es.find? (fun x => x.key.isStr name) with
 | some e => rw [f] at h; cases h
 | none =>
  rw [List.any_eq_false]
  intro x hx q
  have := List.find?_eq_none.mp f x hx
  exact this q
end
set_option tactic.hygienic true in
theorem set_inst {prog : Program} {w : World} {A : Around} {E : Value → Shared → Prop} {s : Shared} {K : Frag} {C x dx : Addr} {name : PySem.Str} {v : Value} {es : List DictEntry} {n : Nat} {Q : Unit → Shared → Prop}
 (X : K.In s.heap) (hx : s.heap.get? x = some (instObj C dx)) (hd : s.heap.get? dx = some (dictOf es n)) (hs : findIn K (.ref C) "__setattr__" = some (some (.builtin "object.__setattr__")))
 (hp : plainOver K C = true) (ht : findIn K (.ref C) name = some none) (hh : hasDictIn K C = true) (hg : (getL name es).isSome = true) (hz : es.length ≤ 900)
 (h : Q () { s with heap := s.heap.update dx (Obj.putName name (PyData.keyHash w.params name) (.str name (s.toks + 1)) v), toks := s.toks + 2 }) : wpAny (model prog w) A (setAttr (.ref x) name v) Q E s := by
 obtain ⟨hp', g, d, tk, os⟩ := s
 replace X : K.In hp' := X
 replace hx : hp'.get? x = some (instObj C dx) := hx
 replace hd : hp'.get? dx = some (dictOf es n) := hd
 have I : InstAt hp' x (instObj C dx) C (some (dictOf es n)) := ⟨hx, rfl, rfl, hd⟩
 refine set_plain X I hs ?_
 refine osa_open (s := ⟨hp', g, d, tk + 1, os⟩) X I hp (by unfold takerIn; rw [ht]; rfl) fun b => ?_
 obtain ⟨cd, hc, hd'⟩ := any_some hh
 refine wpAny_bind (wpAny_pure (wpAny_bind (wpAny_bind (wpAny_loadPart hx (wpAny_bind ((looks_clsIn X hc).here ?_))))))
 rw [hd']
 refine wpAny_pure (a := some dx) (wpAny_bind (wpAny_pure (wpAny_bind ?_)))
 unfold nsSet
 refine wpAny_bind (wpAny_bind (wpAny_askSetting (wpAny_pure (wpAny_bind (wpAny_mkText (wpAny_bind (wpAny_loadPart hd ?_)))))))
 dsimp only
 have c : (!es.toArray.any (·.key.isStr name) && es.toArray.any (·.refKey)) = false := by
  rw [← Array.any_toList, ← Array.any_toList]
  unfold getL at hg
  split at hg
  · rename_i en he
    rw [List.any_eq_true.mpr ⟨en, List.mem_of_find?_eq_some he, List.find?_some (p := fun x : DictEntry => x.key.isStr name) he⟩]; rfl
  · split at hg
    · cases hg
    · rename_i z; rw [Bool.not_eq_true] at z; rw [z, Bool.and_false]
 rw [aRefKeyMayBeTheName_at, c]
 refine wpAny_updatePart hd ?_
 have D' : (hp'.update dx (Obj.putName name (PyData.keyHash w.params name) (.str name (tk + 1)) v)).get? dx = some (dictOf (putL name (PyData.keyHash w.params name) (.str name (tk + 1)) v es) (putN name es n)) := by
  rw [Heap.get?_update_self _ hd (by rw [putName_dict]; rfl), putName_dict]
 refine wpAny_bind (wpAny_lookBehind D' (pastItsLine_dict (by rw [List.size_toArray, sizeLine_eq, putL_len]; split <;> omega)) ?_)
 exact wpAny_pure h
theorem Pst.mut {ρ : Rh} {own : List Addr} {s : Shared} {σ : St} {t' : HT} {p : Pth} {a d : Addr} {o : Obj} {o' : AO} {h' : Heap} (tk : Nat) (X : SR G ρ σ s.heap) (hr : ρ p = some (a, d)) (ho : s.heap.get? d = some o) (ap : Apart o)
 (t1 : t'.get p = some o') (t2 : ∀ q, q ≠ p → t'.get q = σ.h.get q) (hs : ∀ c o, c ≠ d → s.heap.get? c = some o → h'.get? c = some o) (lv : ∃ o, h'.get? d = some o) (hep : EpOk s.heap h' d) (hor : Tups s.heap h' → OR G ρ h' a d o') :
 Pst G ρ own s ρ { s with heap := h', toks := tk } ⟨σ.n, t'⟩ := by
 have tp : Tups s.heap h' := fun b vs e => hs b _ (fun q => ap.1 vs (by rw [q, ho] at e; exact Option.some.inj e)) e
 refine ⟨rfl, ⟨fun c o e => hs c o (fun q => ?_) (X.base c o e), fun q o2 hq => ?_, X.fresh, X.inj, X.apart, fun q b c hq => ?_⟩, Rle.refl ρ, fun V V V h => .inl h, fun c o2 e hm V => ⟨o2.slots, hs c o2 (fun q => hm ⟨p, a, q ▸ hr⟩) e, fun V => rfl⟩, fun c o2 e => ?_, tp, fun c hc => ?_⟩
 · rw [q, (X.apart p a d hr).1] at e; cases e
 · by_cases e : q = p
   · subst e
     rw [t1] at hq; cases hq
     exact ⟨a, d, hr, hor tp⟩
   · rw [t2 q e] at hq
     obtain ⟨a2, d2, h1, h2⟩ := X.obj q o2 hq
     have nd : d2 ≠ d := fun z => e (X.inj q p a2 a d (z ▸ h1) hr)
     refine ⟨a2, d2, h1, h2.keeps (Rle.refl ρ) (fun o3 e3 => ?_) (fun o3 e3 => hs d2 o3 nd e3) tp⟩
     by_cases na : a2 = d
     · exfalso
       subst na
       cases h2 with
       | list e _ _ _ => exact nd e
       | dictI e _ _ _ _ _ => exact nd e
       | dictS e _ _ _ _ _ => exact nd e
       | inst _ g1 _ _ _ _ => rw [ho] at g1; exact ap.2 _ _ (Option.some.inj g1)
       | range e _ => exact nd e
     · exact hs a2 o3 na e3
 · obtain ⟨o3, h1⟩ := X.live q b c hq
   by_cases e : c = d
   · rw [e]; exact lv
   · exact ⟨o3, hs c o3 e h1⟩
 · by_cases q : c = d
   · rw [q]; exact lv
   · exact ⟨o2, hs c o2 q e⟩
 · by_cases q : c = d
   · rw [q]; exact hep
   · exact .same fun o e => hs c o q e
theorem as_attr {sc : Scope} {n : Nat} (C : Cx G) (W : Cw G) (Y : Cy G) {ev : Loc → St → (AV → St → B) → B} {nm : PySem.Str} {a : Pth} {o : PySem.Expr} {p : Pos} (hnm : nm = G.nmA (pIdx a)) (h : EvOk G Z sc ev n (fun env => eval o env)) :
 AsOk G Z sc (fun v l s k => ev l s fun x s => inP s.h x fun p c f => ifB (G.T.fld c a) (FT.setK a f v fun f => HT.setK p s.h (.inst c f) fun h => k l ⟨s.n, h⟩) false) n (fun env w => assign (.Attribute o nm p) env w) := by
 intro av l σ kn hk env A s ρ m w E X hv R
 refine wpAny_bind (wpAny_holding (wpAny_mono (h l σ _ hk env A s ρ m E X R) (fun v s₁ q => ?_) fun V V e => e))
 obtain ⟨ax, σ₁, ρ₁, P, hx, hk₁⟩ := q
 obtain ⟨pp, ad, d, c, f, rfl, hr, ho, ⟨es, n', hc, h1, h2, h3, h4, fld⟩, hk2⟩ := hx.inP P.sr hk₁
 clear hk hk₁
 cases hf : G.T.fld c a with
 | false => rw [hf] at hk2; exact ff hk2
 | true =>
  rw [hf] at hk2
  have hv₁ := hv.mono P.le P.tups
  have avn : av ≠ .nil := by intro q; subst q; exact hv.inv.elim
  obtain ⟨f', hk3, f1, f2⟩ := FT.setK_some a hk2 avn
  obtain ⟨t', hk4, t1, t2⟩ := HT.setK_some pp hk3
  have cl := C.cls c hc
  obtain ⟨hfl, hlt⟩ := W.fld c a hc hf
  have KX := P.sr.kin C
  have fa := h3 a
  have hg : (getL nm es).isSome = true := by
   rw [hnm]
   cases e : f.get a with
   | none => rw [e] at fa; rw [fa]; rfl
   | some b => rw [e] at fa; obtain ⟨v', e2, _⟩ := fa; rw [e2]; rfl
  have hz := h4.le
  refine wpAny_bind (wpAny_standAt (wpAny_bind (wpAny_holding ?_)))
  refine set_inst KX h1 h2 cl.2.2.2.1 cl.2.2.2.2 (by rw [hnm]; exact hfl) cl.2.2.1 hg (by omega) ?_
  refine wpAny_release ?_
  have keep : ∀ c o, c ≠ d → s₁.heap.get? c = some o → (s₁.heap.update d (Obj.putName nm (PyData.keyHash G.w.params nm) (.str nm (s₁.toks + 1)) w)).get? c = some o := fun c o hc e => by
   rw [Heap.get?_update_other _ _ (Ne.symm hc)]; exact e
  have D' : (s₁.heap.update d (Obj.putName nm (PyData.keyHash G.w.params nm) (.str nm (s₁.toks + 1)) w)).get? d = some (dictOf (putL nm (PyData.keyHash G.w.params nm) (.str nm (s₁.toks + 1)) w es) (putN nm es n')) := by
   rw [Heap.get?_update_self _ h2 (by rw [putName_dict]; rfl), putName_dict]
  have nad : ad ≠ d := fun q => by rw [q, h2] at h1; cases h1
  have ne' : ∀ q, f.get q ≠ none → f'.get q ≠ none := fun q hq => by
   by_cases e : q = a
   · rw [e, f1]; simp
   · rw [f2 q e]; exact hq
  have ep : EpOk s₁.heap (s₁.heap.update d (Obj.putName nm (PyData.keyHash G.w.params nm) (.str nm (s₁.toks + 1)) w)) d := fun o1 es1 ep1 g1 g2 => by
   rw [h2] at g1; cases g1; cases g2
   refine ⟨_, _, _, D', rfl, ?_, ?_⟩
   · rw [List.size_toArray, List.size_toArray, putL_len]; split <;> omega
   · rw [List.size_toArray, List.size_toArray, putL_len]
     unfold putN
     split
     · exact fun V => rfl
     · intro e; omega
  have P₂ : Pst G ρ₁ [] s₁ ρ₁ { s₁ with heap := s₁.heap.update d (Obj.putName nm (PyData.keyHash G.w.params nm) (.str nm (s₁.toks + 1)) w), toks := s₁.toks + 2 } ⟨σ₁.n, t'⟩ := by
   refine Pst.mut (s₁.toks + 2) P.sr hr h2 (.dict rfl) t1 t2 keep ⟨_, D'⟩ ep fun tp => .inst hc (keep _ _ nad h1) D' (fun q => ?_) ?_ (fun q hq => ?_)
   · by_cases e : q = a
     · subst e
       rw [f1]
       exact ⟨w, by rw [hnm]; exact getL_put_same es, hv₁.mono (Rle.refl _) tp⟩
     · rw [f2 q e]
       have ne : G.nmA (pIdx q) ≠ nm := fun z => e (pIdx_inj (Y.injA _ _ (z.trans hnm)))
       rw [getL_put_other ne]
       have := h3 q
       cases z : f.get q with
       | none => rw [z] at this; exact this
       | some b => rw [z] at this; obtain ⟨v', g1, g2⟩ := this; exact ⟨v', g1, g2.mono (Rle.refl _) tp⟩
   · rw [putL_len]
     cases e : f.get a with
     | none =>
      rw [e] at fa
      rw [hnm, getL_not fa]
      exact h4.more ne' e (by rw [f1]; simp) hlt
     | some b =>
      rw [e] at fa
      obtain ⟨v', e2, _⟩ := fa
      rw [hnm, getL_any e2]
      exact h4.same ne'
   · by_cases e : q = a
     · rw [e]; exact hfl
     · rw [f2 q e] at hq; exact fld q hq
  exact ⟨_, ρ₁, l, m, (P.trans P₂).any, (E.after P).after P₂, hk4⟩
end Mst
end
section
namespace Mst
open PySem PySem.W PyProof.Rows PySem.Calls PySem.SeqAt
variable {G : Gl} {Z : ER} [EOk0 G Z]
theorem keyLit_some {q : AV} {e : B} (h : keyLit q e = true) : ((∃ i, q = .int (.lit i)) ∨ (∃ n, q = .str n)) ∧ e = true := by
 cases q with
 | int i =>
  cases i with
  | lit i => exact ⟨.inl ⟨_, rfl⟩, h⟩
  | sym => exact ff h
 | str => exact ⟨.inr ⟨_, rfl⟩, h⟩
 | _ => exact ff h
inductive SetG (G : Gl) (ρ : Rh) (h : Heap) {K : Type} [DecidableEq K] (P Q : AV → K → Prop) (kvs : List (K × Value)) (q v : AV) (wv : Value) (k : AV → B) : Prop
 | set (j : K) (l : AV) : Q q j → k l = true → LR (DP G ρ h P) l (stored kvs j wv) → SetG G ρ h P Q kvs q v wv k
 | nil : kvs = [] → keyLit q (k (.cons (.cons q v) .nil)) = true → SetG G ρ h P Q kvs q v wv k
theorem dSet_gen {R : Orc} {ρ : Rh} {h : Heap} {K : Type} [DecidableEq K] {P Q : AV → K → Prop} (hE : ∀ {a q : AV} {i : K} {t f : B}, P a i → keyEq R a q t f = true → KeyE Q q i t f) (uq : ∀ {q : AV} {i j : K}, Q q i → Q q j → i = j)
 (hL : ∀ {q : AV} {j : K} {e : B}, Q q j → keyLit q e = true → P q j ∧ e = true) {q v : AV} {wv : Value} (hv : V1 G ρ h v wv) {kvs : List (K × Value)} {l : AV} (d : LR (DP G ρ h P) l kvs) :
 ∀ {k : AV → B}, (kvs.map (·.1)).Nodup → dSet R l q v k = true → SetG G ρ h P Q kvs q v wv k := by
 induction d with
 | nil => exact fun _ hk => .nil rfl hk
 | cons a r ih =>
  intro k nd hk
  obtain ⟨p, w⟩ := a
  rcases hE p hk with ⟨h1, h2⟩ | ⟨j, h1, h3, h2⟩
  · exact .set _ _ h1 h2 (by rw [stored_here rfl nd]; exact .cons ⟨p, hv⟩ r)
  · rcases ih (List.nodup_cons.mp nd).2 h2 with ⟨j', l', g1, g2, g3⟩ | ⟨g1, g2⟩
    · cases uq h1 g1
      exact .set _ _ h1 g2 (by rw [stored_there h3]; exact .cons ⟨p, w⟩ g3)
    · obtain ⟨pq, g2⟩ := hL h1 g2
      subst g1
      exact .set _ _ h1 g2 (by rw [stored_there h3]; exact .cons ⟨p, w⟩ (.cons ⟨pq, hv⟩ .nil))
theorem QI.lit {ν : Nat → Int} {q : AV} {j : Int} {e : B} (x : QI ν q j) (h : keyLit q e = true) : PI q j ∧ e = true := by
 obtain ⟨i, rfl, rfl⟩ := x
 cases i with
 | lit i => exact ⟨rfl, h⟩
 | sym => exact ff h
theorem PS.lit {q : AV} {j : PySem.Str} {e : B} (x : PS G q j) (h : keyLit q e = true) : PS G q j ∧ e = true := ⟨x, (keyLit_some h).2⟩
variable (G)
noncomputable def DX (ρ : Rh) (h : Heap) (l : AV) (o : Obj) (n : Nat) : Prop := (∃ kvs, o.IsDictOf (intKind G.prog G.w) kvs ∧ DI G ρ h l kvs ∧ kvs.length ≤ n) ∨ (∃ kvs, o.IsDictOf (PySem.strKind G.prog G.w) kvs ∧ DS G ρ h l kvs ∧ kvs.length ≤ n)
variable {G}
inductive EpAt (h h' : Heap) (d : Addr) : Prop
 | mk (o : Obj) (es : Array DictEntry) (ep : Nat) (o' : Obj) (es' : Array DictEntry) (ep' : Nat) : h.get? d = some o → o.data = .dict es ep → h'.get? d = some o' → o'.data = .dict es' ep' → es.size ≤ es'.size → (es'.size = es.size → ep' = ep) → EpAt h h' d
theorem EpAt.ok {h h' : Heap} {d : Addr} (x : EpAt h h' d) : EpOk h h' d := fun o es ep ho hd => by
 obtain ⟨o1, es1, ep1, o2, es2, ep2, a1, a2, a3, a4, a5, a6⟩ := x
 rw [ho] at a1; cases a1
 rw [hd] at a2; cases a2
 exact ⟨o2, es2, ep2, a3, a4, a5, a6⟩
section
variable {prog : Program} {w : World} {K : Type} [DecidableEq K] {knd : PySem.KeyKind prog w K} {A : Around} {E : Value → Shared → Prop} {s : Shared}
theorem dictSet_ep {d : Addr} {kvs : List (K × Value)} {k : K} {key v : Value} {Q : Unit → Shared → Prop} (hkey : knd.is k key = true) (hm : s.heap.DictOf knd d kvs) (hsz : kvs.length ≤ sizeLine)
 (hQ : ∀ h', h'.DictOf knd d (stored kvs k v) → Heap.SameBut d s.heap h' → EpAt s.heap h' d → Q () { s with heap := h', toks := s.toks + 1 }) :
 wpAny (model prog w) A (dictSet d key v) Q E s := by
 obtain ⟨o, es, ep, ho, hc, hd, hk, hp, hn⟩ := hm
 have e0 : es.size = kvs.length := by rw [← hp.length]; simp
 have hes : es.size ≤ sizeLine := e0 ▸ hsz
 have hidx : (es.findIdx? fun e => knd.is k e.key) = kvs.findIdx? fun kv => decide (kv.1 = k) := by
  rw [← hp.findIdx k]; obtain ⟨l⟩ := es; simp
 unfold dictSet
 try with_reducible refine wpAny_holding ?_
 refine wpAny_bind (knd.pyHash hkey ?_)
 unfold dictSetHashed
 try with_reducible refine wpAny_holding ?_
 refine wpAny_bind (wpAny_dictFind_of (s := { s with toks := s.toks + 1 }) hkey ho hd hk ?_)
 cases hi : es.findIdx? fun e => knd.is k e.key with
 | some i =>
  have g := Heap.get?_update_self (Obj.mapDict (fun es => es.modify i fun e => { e with val := v })) ho (Obj.isFreed_of_dict (Obj.data_mapDict hd _))
  refine wpAny_bind (wpAny_rule (wpAny_bind (wpAny_updateDict (s := { s with toks := s.toks + 1 }) ho hd (wpAny_point (hQ _ ⟨_, _, ep, g, hc.mapDict _, Obj.data_mapDict hd _, hk.modify _ _, ?_, ?_⟩ (Heap.SameBut.update ..)
   ⟨o, es, ep, _, _, _, ho, hd, g, Obj.data_mapDict hd _, by rw [Array.size_modify]; exact Nat.le_refl _, fun V => rfl⟩)))))
  · rw [stored, if_pos (any_of_findIdx_some (hidx ▸ hi))]
    have hl : (es.toList.findIdx? fun e => knd.is k e.key) = some i := by rw [← hi]; obtain ⟨l⟩ := es; simp
    have := hp.modify hn hl v
    obtain ⟨l⟩ := es
    simpa using this
  · rw [stored, if_pos (any_of_findIdx_some (hidx ▸ hi)), keys_map_store]; exact hn
 | none =>
  have hnot : k ∉ kvs.map (·.1) := not_mem_of_findIdx_none (hidx ▸ hi)
  have hany : ¬ (kvs.any fun kv => decide (kv.1 = k)) = true := by
   rw [List.any_eq_true]; rintro ⟨kv, hkv, he⟩
   exact hnot (List.mem_map.mpr ⟨kv, hkv, of_decide_eq_true he⟩)
  have g := Heap.get?_update_self (Obj.mapDictKeys (·.push ⟨knd.hash k, key, v⟩)) ho (Obj.isFreed_of_dict (Obj.data_mapDictKeys hd _))
  refine wpAny_bind (wpAny_rule (wpAny_updateDictKeys (hz := hes) (s := { s with toks := s.toks + 1 }) ho hd (hQ _ ⟨_, _, ep + 1, g, hc.mapDictKeys _, Obj.data_mapDictKeys hd _, hk.push hkey _, ?_, ?_⟩ (Heap.SameBut.update ..)
   ⟨o, es, ep, _, _, _, ho, hd, g, Obj.data_mapDictKeys hd _, by rw [Array.size_push]; exact Nat.le_succ _, fun q => absurd (Array.size_push .. ▸ q) (Nat.succ_ne_self _)⟩)))
  · rw [stored, if_neg hany]
    have := hp.append hkey (knd.hash k) v
    obtain ⟨l⟩ := es
    simpa using this
  · rw [stored, if_neg hany, List.map_append, List.nodup_append]
    refine ⟨hn, by simp, ?_⟩
    intro a ha b hb
    simp only [List.map_cons, List.map_nil, List.mem_singleton] at hb
    subst hb
    exact fun e => hnot (e ▸ ha)
theorem setItem_ep {d : Addr} {kvs : List (K × Value)} {k : K} {key v : Value} {Q : Unit → Shared → Prop} (hkey : knd.is k key = true) (hm : s.heap.DictOf knd d kvs) (hsz : kvs.length ≤ sizeLine)
 (hQ : ∀ h', h'.DictOf knd d (stored kvs k v) → Heap.SameBut d s.heap h' → EpAt s.heap h' d → Q () { s with heap := h', toks := s.toks + 1 }) :
 wpAny (model prog w) A (setItem (.ref d) key v) Q E s := by
 unfold setItem
 try with_reducible refine wpAny_holding ?_
 refine wpAny_bind (wpAny_sequenceKey hm.typeIs (by decide) ?_)
 refine wpAny_bind (wpAny_callSpecial?_slot (name := PySem.Str.ofString "__setitem__") hm.typeIs PySem.F.slot_dict_setitem
  (wpAny_call_entry PySem.F.slot_dict_setitem hm.typeIs PySem.F.entry_dict_setitem ?_ (PySem.F.args_dict_setitem_3 _ _ _)))
 show wpAny _ _ (Builtin.Dict.notOrdered "__setitem__" ⟨[.ref d, key, v], []⟩ >>= _) _ _ s
 refine wpAny_bind (wpAny_notOrdered_dict hm.typeIs ?_)
 show wpAny _ _ (dictSet d key v >>= _) _ _ s
 exact wpAny_bind (dictSet_ep hkey hm hsz fun h' hm' hs' he => wpAny_pure ⟨.none, rfl, wpAny_pure (hQ h' hm' hs' he)⟩)
end
theorem empty_kind {K K' : Type} [DecidableEq K] [DecidableEq K'] {knd : PySem.KeyKind G.prog G.w K} {knd' : PySem.KeyKind G.prog G.w K'} {o : Obj} (h : o.IsDictOf knd []) : o.IsDictOf knd' [] := by
 obtain ⟨es, ep, h1, h2, h3, h4, h5⟩ := h
 have e : es = #[] := by
  obtain ⟨l⟩ := es
  cases l with
  | nil => rfl
  | cons a r => cases h4
 subst e
 exact ⟨#[], ep, h1, h2, (fun e he => by simp at he), .nil, List.nodup_nil⟩
theorem IsDictOf.nodup {K : Type} [DecidableEq K] {knd : PySem.KeyKind G.prog G.w K} {o : Obj} {kvs : List (K × Value)} (h : o.IsDictOf knd kvs) : (kvs.map (·.1)).Nodup := by
 obtain ⟨es, ep, h1, h2, h3, h4, h5⟩ := h; exact h5
theorem DX.mono {ρ ρ' : Rh} {h h' : Heap} {l : AV} {o : Obj} {n : Nat} (r : Rle ρ ρ') (t : Tups h h') (x : DX G ρ h l o n) : DX G ρ' h' l o n := by
 rcases x with ⟨kvs, a, b, c⟩ | ⟨kvs, a, b, c⟩
 · exact .inl ⟨kvs, a, b.mono r t, c⟩
 · exact .inr ⟨kvs, a, b.mono r t, c⟩
theorem DX.or {ρ : Rh} {h : Heap} {a : Addr} {l : AV} {o : Obj} (x : DX G ρ h l o 65536) (ho : h.get? a = some o) (hm : (a == sysModules) = false) : OR G ρ h a a (.dict l) := by
 rcases x with ⟨kvs, h1, h2, h3⟩ | ⟨kvs, h1, h2, h3⟩
 · exact .dictI rfl ho h1 h2 h3 hm
 · exact .dictS rfl ho h1 h2 h3 hm
theorem DX.len {ρ : Rh} {h : Heap} {l : AV} {o : Obj} {n : Nat} {k : Nat → B} (x : DX G ρ h l o n) (e : lenV l 0 k = true) : Ex (fun m => DX G ρ h l o m) k := by
 rcases x with ⟨kvs, h1, h2, h3⟩ | ⟨kvs, h1, h2, h3⟩
 · have := h2.len e; rw [Nat.zero_add] at this; exact ⟨_, .inl ⟨kvs, h1, h2, Nat.le_refl _⟩, this⟩
 · have := h2.len e; rw [Nat.zero_add] at this; exact ⟨_, .inr ⟨kvs, h1, h2, Nat.le_refl _⟩, this⟩
theorem DX.cap {ρ : Rh} {h : Heap} {l : AV} {o : Obj} {n : Nat} {b : B} (x : DX G ρ h l o n) (e : capK l b = true) : DX G ρ h l o 65536 ∧ b = true := by
 obtain ⟨m, h1, h2⟩ := x.len e
 cases q : Nat.ble m 65536 with
 | false => rw [q] at h2; cases h2
 | true =>
  rw [q] at h2
  have := Nat.le_of_ble_eq_true q
  rcases h1 with ⟨kvs, g1, g2, g3⟩ | ⟨kvs, g1, g2, g3⟩
  · exact ⟨.inl ⟨kvs, g1, g2, Nat.le_trans g3 this⟩, h2⟩
  · exact ⟨.inr ⟨kvs, g1, g2, Nat.le_trans g3 this⟩, h2⟩
theorem dSet_wp {R : Orc} (hR : OrcOk G.ν R) (Y : Cy G) {A : Around} {E : Value → Shared → Prop} {ρ : Rh} {s : Shared} {d : Addr} {l q v : AV} {o : Obj} {n : Nat} {wq wv : Value} {k : AV → B} {op : Sem Unit} {Q : Unit → Shared → Prop} (hd : s.heap.get? d = some o) (x : DX G ρ s.heap l o n) (hn : n ≤ 65536)
 (hq : V1 G ρ s.heap q wq) (hv : V1 G ρ s.heap v wv) (hk : dSet R l q v k = true)
 (hop : ∀ {K : Type} [DecidableEq K] {knd : PySem.KeyKind G.prog G.w K} {kvs : List (K × Value)} {key : K}, knd.is key wq = true → s.heap.DictOf knd d kvs → kvs.length ≤ sizeLine →
  (∀ h', h'.DictOf knd d (stored kvs key wv) → Heap.SameBut d s.heap h' → EpAt s.heap h' d → Q () { s with heap := h', toks := s.toks + 1 }) → wpAny (model G.prog G.w) A op Q E s)
 (fin : ∀ h' l' o', h'.get? d = some o' → Heap.SameBut d s.heap h' → EpAt s.heap h' d → DX G ρ s.heap l' o' (n + 1) → k l' = true → Q () { s with heap := h', toks := s.toks + 1 }) : wpAny (model G.prog G.w) A op Q E s := by
 have go : ∀ {K : Type} [DecidableEq K] {knd : PySem.KeyKind G.prog G.w K} {kvs : List (K × Value)} {j : K} {l' : AV}, knd.is j wq = true → o.IsDictOf knd kvs → kvs.length ≤ n → k l' = true →
  (∀ {o' : Obj}, o'.IsDictOf knd (stored kvs j wv) → (stored kvs j wv).length ≤ n + 1 → DX G ρ s.heap l' o' (n + 1)) → wpAny (model G.prog G.w) A op Q E s := fun hk h1 h3 h4 mk =>
  hop hk (Heap.dictOf_iff.mpr ⟨o, hd, h1⟩) (by rw [sizeLine_eq]; exact Nat.le_trans h3 (Nat.le_trans hn (by decide))) fun h' hd' hs he =>
   let ⟨o', g1, g2⟩ := Heap.dictOf_iff.mp hd'; fin h' _ o' g1 hs he (mk g2 (Nat.le_trans (stored_length_le ..) (Nat.succ_le_succ h3))) h4
 have nil : (∀ {K : Type} [DecidableEq K] {knd : PySem.KeyKind G.prog G.w K}, o.IsDictOf knd []) → keyLit q (k (.cons (.cons q v) .nil)) = true → wpAny (model G.prog G.w) A op Q E s := fun h1 h => by
  rcases keyLit_some h with ⟨⟨i, rfl⟩ | ⟨m, rfl⟩, h⟩
  · obtain ⟨u, rfl⟩ := hq.int_inv
    exact go isInt_val h1 (Nat.zero_le _) h fun a b => .inl ⟨_, a, .cons hv .nil, b⟩
  · obtain ⟨u, rfl⟩ := hq.str_inv
    exact go isStr_val h1 (Nat.zero_le _) h fun a b => .inr ⟨_, a, .cons hv .nil, b⟩
 rcases x with ⟨kvs, h1, h2, h3⟩ | ⟨kvs, h1, h2, h3⟩
 · rcases dSet_gen (keyEq_int hR) QI.uq QI.lit hv h2.lr (IsDictOf.nodup h1) hk with ⟨j, l', ⟨i, rfl, rfl⟩, h4, h5⟩ | ⟨rfl, h4⟩
   · obtain ⟨u, rfl⟩ := hq.int_inv
     exact go isInt_val h1 h3 h4 fun a b => .inl ⟨_, a, h5.di, b⟩
   · exact nil (empty_kind h1) h4
 · rcases dSet_gen (keyEq_str (R := R) Y.injS) PS.uq PS.lit hv h2.lr (IsDictOf.nodup h1) hk with ⟨j, l', ⟨i, rfl, rfl⟩, h4, h5⟩ | ⟨rfl, h4⟩
   · obtain ⟨u, rfl⟩ := hq.str_inv
     exact go isStr_val h1 h3 h4 fun a b => .inr ⟨_, a, h5.ds, b⟩
   · exact nil (empty_kind h1) h4
theorem OR.dx {ρ : Rh} {h : Heap} {a d : Addr} {l : AV} (x : OR G ρ h a d (.dict l)) : ∃ o, d = a ∧ h.get? a = some o ∧ DX G ρ h l o 65536 ∧ (a == sysModules) = false := by
 rcases x.inv with ⟨o, kvs, e, g, id, dv, z, y⟩ | ⟨o, kvs, e, g, id, dv, z, y⟩
 · exact ⟨o, e, g, .inl ⟨_, id, dv, z⟩, y⟩
 · exact ⟨o, e, g, .inr ⟨_, id, dv, z⟩, y⟩
theorem SR.dict {ρ : Rh} {σ : St} {h : Heap} {p : Pth} {a d : Addr} {l : AV} (X : SR G ρ σ h) (hp : σ.h.get p = some (.dict l)) (hr : ρ p = some (a, d)) : ∃ o, d = a ∧ h.get? a = some o ∧ DX G ρ h l o 65536 ∧ (a == sysModules) = false := (X.at hp hr).dx
theorem dict_apart {K : Type} [DecidableEq K] {knd : PySem.KeyKind G.prog G.w K} {o : Obj} {kvs : List (K × Value)} (h : o.IsDictOf knd kvs) : Apart o := by
 obtain ⟨es, ep, h1, h2, _⟩ := h
 exact .dict h2
theorem DX.apart {ρ : Rh} {h : Heap} {l : AV} {o : Obj} {n : Nat} (x : DX G ρ h l o n) : Apart o := by
 rcases x with ⟨kvs, h1, _⟩ | ⟨kvs, h1, _⟩ <;> exact dict_apart h1
inductive SnI (ρ : Rh) (h : Heap) (vs : List Value) (z : Nat) (w : Value) (k : AV → B) : Prop
 | mk (r : AV) : V2 G ρ h r (vs.set z w) → z < vs.length → k r = true → SnI ρ h vs z w k
theorem setN_some {ρ : Rh} {h : Heap} {v : AV} {w : Value} (hv : V1 G ρ h v w) {z : Nat} {l : AV} {vs : List Value} {k : AV → B} (x : V2 G ρ h l vs) (e : setN l z v k = true) : SnI (G := G) ρ h vs z w k :=
 let ⟨r, h1, h2, h3⟩ := x.lr.set hv e; ⟨r, h1.v2, h2, h3⟩
theorem setItem_plain {prog : Program} {w : World} {A : Around} {E : Value → Shared → Prop} {s : Shared} {l : Addr} {vs : List Value} {c z : Nat} {k : Int} {t : Tok} {v : Value} {Q : Unit → Shared → Prop} (g : s.heap.get? l = some (listOf vs.toArray c)) (h0 : 0 ≤ k) (hk : k = z) (hz : z < vs.length) (hl : vs.length ≤ 65536)
 (hQ : ∀ h' c', h'.get? l = some (listOf (vs.set z v).toArray c') → Heap.SameBut l s.heap h' → Q () { s with heap := h' }) : wpAny (model prog w) A (setItem (.ref l) (.int k t) v) Q E s := by
 have tl : s.TypeIs (.ref l) "list" := ⟨_, g, rfl⟩
 have hd : (listOf vs.toArray c).data = .seq vs.toArray c := rfl
 have hf : k < 2 ^ 63 := hk ▸ le_big (Nat.le_trans (Nat.le_of_lt hz) hl)
 unfold setItem
 try with_reducible refine wpAny_holding ?_
 first | refine wpAny_bind (wpAny_pure ?_) | skip
 refine wpAny_bind (wpAny_sequenceKey tl (by decide) ?_)
 refine wpAny_bind (wpAny_callSpecial?_slot (name := Str.ofString "__setitem__") tl slot_list_setitem (wpAny_call_entry slot_list_setitem tl entry_list_setitem ?_ (args_list_setitem _ _ _)))
 show wpAny _ _ (Builtin.List.listSubscript? (.int k t) >>= _) _ _ s
 refine wpAny_bind (wpAny_listSubscript_int (fitsIndex_of h0 hf) ?_)
 clear hf
 subst hk
 have hx' : vs.toArray[z]? = some vs[z] := by simp [hz]
 show wpAny _ _ ((seqItemAt l z >>= fun r => pure (r.map (z, ·))) >>= _) _ _ s
 refine wpAny_bind (wpAny_bind (wpAny_seqItemAt g hd (wpAny_pure ?_)))
 rw [hx']
 show wpAny _ _ (setSeqItemAt l z v >>= _) _ _ s
 have hm : Obj.mapSeq (·.setIfInBounds z v) (listOf vs.toArray c) = listOf (vs.set z v).toArray c := by simp [Obj.mapSeq]
 have hfin := Heap.get?_update_self (Obj.mapSeq (·.setIfInBounds z v)) g (by rw [hm]; rfl)
 rw [hm] at hfin
 refine wpAny_bind (wpAny_setSeqItemAt g hd ?_)
 first
  | exact wpAny_bind (wpAny_pure (wpAny_pure ⟨.none, rfl, wpAny_pure (hQ _ _ hfin (Heap.SameBut.update ..))⟩))
  | exact wpAny_pure ⟨.none, rfl, wpAny_pure (hQ _ _ hfin (Heap.SameBut.update ..))⟩
theorem subW_some {R : Orc} (hR : OrcOk G.ν R) (Y : Cy G) {A : Around} {E : Value → Shared → Prop} {ρ : Rh} {s : Shared} {σ : St} {ax ai av : AV} {vo vi w : Value} {k : St → B} {Q : Unit → Shared → Prop} (X : SR G ρ σ s.heap) (hx : V1 G ρ s.heap ax vo) (hi : V1 G ρ s.heap ai vi) (hv : V1 G ρ s.heap av w)
 (hk : subW R σ ax ai av k = true) (fin : ∀ {s' : Shared} {σ' : St}, Pst G ρ [] s ρ s' σ' → k σ' = true → Q () s') : wpAny (model G.prog G.w) A (setItem vo vi w) Q E s := by
 obtain ⟨pp, d, d', o', rfl, hr, ho, ob, hk⟩ := hx.obK X hk
 cases o' with
 | list ml =>
  obtain ⟨its, c, rfl, g, hl, hz⟩ := ob.inv
  obtain ⟨z, u, rfl, hk⟩ := hi.natK hk
  obtain ⟨r, hr', hzl, hk⟩ := setN_some hv hl hk
  obtain ⟨t', hk, t1, t2⟩ := HT.setK_some pp hk
  refine setItem_plain g (Int.natCast_nonneg z) rfl hzl hz fun h' c' e1 e2 => fin (σ' := ⟨σ.n, t'⟩) ?_ hk
  exact Pst.mut s.toks X hr g Apart.list t1 t2 (fun c o hc e => (e2.2 c hc).trans e) ⟨_, e1⟩ (fun o es ep e1 e2 => by rw [g] at e1; cases e1; cases e2)
   fun tp => .list rfl e1 (hr'.mono (Rle.refl _) tp) (by rw [List.length_set]; exact hz)
 | dict dl =>
  obtain ⟨od, rfl, g1, g2, g3⟩ := ob.dx
  refine dSet_wp hR Y g1 g2 (Nat.le_refl _) hi hv hk (fun k1 k2 k3 k4 => setItem_ep k1 k2 k3 k4) fun h' l' od' e1 e2 ee e3 e4 => ?_
  obtain ⟨e5, e6⟩ := e3.cap e4
  obtain ⟨t', hk, t1, t2⟩ := HT.setK_some pp e6
  exact fin (σ' := ⟨σ.n, t'⟩) (Pst.mut (s.toks + 1) X hr g1 g2.apart t1 t2 (fun c o hc e => (e2.2 c hc).trans e) ⟨_, e1⟩ ee.ok fun tp => (e5.mono (Rle.refl _) tp).or e1 g3) hk
 | _ => exact ff hk
theorem as_sub {R : Orc} (hR : OrcOk G.ν R) {sc : Scope} {n : Nat} (Y : Cy G) {ev ev2 : Loc → St → (AV → St → B) → B} {o i : PySem.Expr} {p : Pos} (h : EvOk G Z sc ev n (fun env => eval o env)) (h2 : EvOk G Z sc ev2 n (fun env => eval i env)) :
 AsOk G Z sc (fun v l s k => ev l s fun x s => ev2 l s fun i s => subW R s x i v (k l)) n (fun env w => assign (.Subscript o i p) env w) := by
 intro av l σ kn hk env A s ρ m w E X hv Rr
 refine wpAny_bind (wpAny_holding (wpAny_mono (h l σ _ hk env A s ρ m E X Rr) (fun vo s₁ q => ?_) fun V V e => e))
 obtain ⟨ax, σ₁, ρ₁, P₁, hx₁, hk₁⟩ := q
 refine wpAny_bind (wpAny_holding (wpAny_mono (h2 l σ₁ _ hk₁ env A s₁ ρ₁ m (E.after P₁) P₁.sr Rr) (fun vi s₂ q => ?_) fun V V e => aft P₁ e))
 obtain ⟨ai, σ₂, ρ₂, P₂, hi, hk₂⟩ := q
 have P12 := P₁.trans P₂
 exact wpAny_bind (wpAny_standAt (wpAny_bind (wpAny_holding (subW_some hR Y P₂.sr (hx₁.mono P₂.le P₂.tups) hi (hv.mono P12.le P12.tups) hk₂ fun P₃ hk₃ => wpAny_release ⟨_, ρ₂, l, m, (P12.trans P₃).any, E.after (P12.trans P₃), hk₃⟩))))
end Mst
end
section
namespace Mst
open PySem PySem.W PyProof.Rows PySem.Calls PySem.SeqAt
variable {G : Gl} {Z : ER} [EOk0 G Z]
variable (G)
inductive EpNow (h : Heap) (a : Addr) (n ep : Nat) : Prop
 | mk (o : Obj) (es : Array DictEntry) (ep' : Nat) : h.get? a = some o → o.data = .dict es ep' → n ≤ es.size → (es.size = n → ep' = ep) → EpNow h a n ep
inductive ItSt (ρ : Rh) (h : Heap) (I : Addr) : AV → Nat → Prop
 | tup {l : AV} {a : Addr} {vs : List Value} {i : Nat} : h.get? a = some (tupO vs) → V2 G ρ h l vs → IsTupIter h I a i → ItSt ρ h I (.tup l) i
 | byt {l : AV} {b : Array UInt8} {t : Tok} {i : Nat} : BRel G.ν l b.toList → KBw.IsBytesIter h I b t i → ItSt ρ h I (.byt l) i
 | lst {p : Pth} {a d : Addr} {i : Nat} : ρ p = some (a, d) → h.IsListIter I a i → ItSt ρ h I (.ref p) i
 | kd {k i : Nat} {kvs : List (PySem.Str × Value)} {ep : Nat} : G.H0.DictAt (PySem.strKind G.prog G.w) (G.kdA k) kvs ep → DS G (fun V => none) G.H0 (G.T.kd k) kvs → h.IsKeyIter I (G.kdA k) i kvs.length ep → ItSt ρ h I (.kd k) i
 | keys {p : Pth} {a : Addr} {n i ep : Nat} : ρ p = some (a, a) → h.IsKeyIter I a i n ep → EpNow h a n ep → ItSt ρ h I (.cons (.ref p) (.cons (.int (.lit (.ofNat n))) .nil)) i
 | vals {p : Pth} {a : Addr} {n i ep : Nat} : ρ p = some (a, a) → h.IsValIter I a i n ep → EpNow h a n ep → ItSt ρ h I (.cons (.ref p) (.cons (.int (.lit (.ofNat n))) (.cons .none .nil))) i
 | rng {a b s : Int} {i : Nat} : s ≠ 0 → IsRangeIter h I (a + s * i) (Builtin.Range.rangeSize a b s - i) s → ItSt ρ h I (.cons (.int (.lit a)) (.cons (.int (.lit b)) (.cons (.int (.lit s)) .nil))) i
variable {G}
theorem EpNow.after {h h' : Heap} {a : Addr} {n ep : Nat} (x : EpNow h a n ep) (e : EpOk h h' a) : EpNow h' a n ep := by
 obtain ⟨o, es, ep', h1, h2, h3, h4⟩ := x
 obtain ⟨o', es', ep2, g1, g2, g3, g4⟩ := e o es ep' h1 h2
 exact ⟨o', es', ep2, g1, g2, Nat.le_trans h3 g3, fun q => (g4 (by omega)).trans (h4 (by omega))⟩
theorem ItSt.keep {ρ ρ' : Rh} {h h' : Heap} {I : Addr} {src : AV} {i : Nat} (x : ItSt G ρ h I src i) (le : Rle ρ ρ') (tp : Tups h h') (kI : ∀ o, h.get? I = some o → h'.get? I = some o) (ep : ∀ b, Mut ρ b → EpOk h h' b) : ItSt G ρ' h' I src i := by
 cases x with
 | tup g v it => exact .tup (tp _ _ g) (v.mono le tp) (let ⟨o, ho, r⟩ := it; ⟨o, kI o ho, r⟩)
 | byt b it => exact .byt b (let ⟨o, ho, r⟩ := it; ⟨o, kI o ho, r⟩)
 | lst r it => exact .lst (le _ _ r) (it.at kI)
 | kd d v it => exact .kd d v (it.at kI)
 | keys r it e => exact .keys (le _ _ r) (it.at kI) (e.after (ep _ ⟨_, _, r⟩))
 | vals r it e => exact .vals (le _ _ r) (it.at kI) (e.after (ep _ ⟨_, _, r⟩))
 | rng z it => exact .rng z (kI _ it)
theorem ItSt.at {ρ : Rh} {h : Heap} {I : Addr} {src : AV} {i : Nat} (x : ItSt G ρ h I src i) : ∃ o vs, h.get? I = some o ∧ o.data = .fields vs := by
 cases x with
 | tup g v it => obtain ⟨o, ho, _, hd⟩ := it; exact ⟨o, _, ho, hd⟩
 | byt b it => obtain ⟨o, ho, _, hd⟩ := it; exact ⟨o, _, ho, hd⟩
 | lst r it => obtain ⟨o, ho, _, hd⟩ := it; exact ⟨o, _, ho, hd⟩
 | kd d v it => obtain ⟨o, ho, _, hd⟩ := it; exact ⟨o, _, ho, hd⟩
 | keys r it e => obtain ⟨o, ho, _, hd⟩ := it; exact ⟨o, _, ho, hd⟩
 | vals r it e => obtain ⟨o, ho, _, hd⟩ := it; exact ⟨o, _, ho, hd⟩
 | rng z it => exact ⟨_, _, it, rfl⟩
theorem range_lt {a b s : Int} {i : Nat} (h : s ≠ 0) : (if 0 < s then a + s * i < b else b < a + s * i) ↔ (i : Int) < Builtin.Range.rangeSize a b s := by
 unfold Builtin.Range.rangeSize
 have hi : (0 : Int) ≤ i := Int.natCast_nonneg i
 by_cases hs : 0 < s
 · rw [if_pos hs, if_pos hs]
   by_cases hab : a < b
   · rw [if_pos hab]
     have : (i : Int) < (b - a - 1) / s + 1 ↔ (i : Int) * s ≤ b - a - 1 := by rw [← Int.le_ediv_iff_mul_le hs]; omega
     rw [this, Int.mul_comm]; omega
   · rw [if_neg hab]
     have := Int.mul_nonneg (Int.le_of_lt hs) hi
     omega
 · rw [if_neg hs, if_neg hs]
   by_cases hab : a > b
   · rw [if_pos hab]
     have hn : 0 < -s := by omega
     have : (i : Int) < (a - b - 1) / (-s) + 1 ↔ (i : Int) * (-s) ≤ a - b - 1 := by rw [← Int.le_ediv_iff_mul_le hn]; omega
     rw [this]
     have e : (i : Int) * (-s) = -(s * i) := by rw [Int.mul_neg, Int.mul_comm]
     rw [e]; omega
   · rw [if_neg hab]
     have : 0 ≤ (-s) * i := Int.mul_nonneg (by omega) hi
     rw [Int.neg_mul] at this
     omega
variable (G)
inductive NxS (ρ : Rh) (h' : Heap) (I : Addr) (src : AV) (i : Nat) (k : AV → B) (v : Value) : Prop
 | mk (a : AV) : V1 G ρ h' a v → k a = true → ItSt G ρ h' I src (i + 1) → NxS ρ h' I src i k v
inductive NxR (ρ : Rh) (s : Shared) (I : Addr) (src : AV) (i : Nat) (e : B) (k : AV → B) (r : Option Value) (s' : Shared) : Prop
 | mk (h' : Heap) (tk : Nat) : s' = { s with heap := h', toks := tk } → (∀ b o, b ≠ I → s.heap.get? b = some o → h'.get? b = some o) → (match r with
  | none => e = true
  | some v => NxS G ρ h' I src i k v) → NxR ρ s I src i e k r s'
variable {G}
theorem SameBut.kp {h h' : Heap} {I : Addr} (x : Heap.SameBut I h h') : ∀ b o, b ≠ I → h.get? b = some o → h'.get? b = some o := fun b o hb e => (x.2 b hb).trans e
theorem V1.but {ρ : Rh} {h h' : Heap} {I : Addr} {a : AV} {v : Value} (x : V1 G ρ h a v) (kp : ∀ b o, b ≠ I → h.get? b = some o → h'.get? b = some o) (hI : ∃ o vs, h.get? I = some o ∧ o.data = .fields vs) : V1 G ρ h' a v ∧ Tups h h' := by
 have tp : Tups h h' := fun b ws e => kp b _ (fun q => by
  obtain ⟨o, vs, h1, h2⟩ := hI
  rw [q, h1] at e; cases e; cases h2) e
 exact ⟨x.mono (Rle.refl _) tp, tp⟩
theorem V2.but {ρ : Rh} {h h' : Heap} {I : Addr} {a : AV} {v : List Value} (x : V2 G ρ h a v) (kp : ∀ b o, b ≠ I → h.get? b = some o → h'.get? b = some o) (hI : ∃ o vs, h.get? I = some o ∧ o.data = .fields vs) : V2 G ρ h' a v := by
 have tp : Tups h h' := fun b ws e => kp b _ (fun q => by
  obtain ⟨o, vs, h1, h2⟩ := hI
  rw [q, h1] at e; cases e; cases h2) e
 exact x.mono (Rle.refl _) tp
theorem dict_now {K : Type} [DecidableEq K] {knd : PySem.KeyKind G.prog G.w K} {h : Heap} {a : Addr} {o : Obj} {kvs : List (K × Value)} {n ep : Nat} (ho : h.get? a = some o) (hd : o.IsDictOf knd kvs) (e : EpNow h a n ep) (hn : kvs.length = n) : h.DictAt knd a kvs ep := by
 obtain ⟨es, ep1, h1, h2, h3, h4, h5⟩ := hd
 obtain ⟨o2, es2, ep2, g1, g2, g3, g4⟩ := e
 rw [ho] at g1; cases g1
 rw [h2] at g2; cases g2
 have sz : es.size = kvs.length := by rw [← h4.length]; simp
 have := g4 (by omega)
 subst this
 exact ⟨o, es, ho, h1, h2, h3, h4, h5⟩
theorem int_of_is {k : Int} {key : Value} (h : (intKind G.prog G.w).is k key = true) : ∃ t, key = .int k t := by
 cases key <;> simp [intKind, Value.isInt] at h
 exact ⟨_, by rw [h]⟩
theorem str_of_is {k : PySem.Str} {key : Value} (h : (PySem.strKind G.prog G.w).is k key = true) : ∃ t, key = .str k t := by
 have h : Value.isStrOf k key = true := h
 cases key <;> simp [Value.isStrOf] at h
 exact ⟨_, by rw [h]⟩
theorem EpNow.but {h h' : Heap} {a I : Addr} {n ep : Nat} (x : EpNow h a n ep) (kp : ∀ b o, b ≠ I → h.get? b = some o → h'.get? b = some o) (hI : ∃ o vs, h.get? I = some o ∧ o.data = .fields vs) : EpNow h' a n ep := by
 obtain ⟨o, es, ep', h1, h2, h3, h4⟩ := x
 refine ⟨o, es, ep', kp a o (fun q => ?_) h1, h2, h3, h4⟩
 obtain ⟨o2, vs, g1, g2⟩ := hI
 rw [q, g1] at h1; cases h1; rw [g2] at h2; cases h2
theorem ltI_e {a b : Int} {t f : B} (h : ifB (ltI a b) t f = true) : (a < b ∧ t = true) ∨ (¬ a < b ∧ f = true) := by
 rw [ltI_eq] at h
 by_cases q : a < b
 · rw [decide_eq_true q] at h; exact .inl ⟨q, h⟩
 · rw [decide_eq_false q] at h; exact .inr ⟨q, h⟩
noncomputable def KeyV (G : Gl) {K : Type} [DecidableEq K] (knd : PySem.KeyKind G.prog G.w K) (P : AV → K → Prop) : Prop := ∀ {q : AV} {j : K} {key : Value} {ρ : Rh} {h : Heap}, P q j → knd.is j key = true → V1 G ρ h q key
theorem keyV_int : KeyV G (intKind G.prog G.w) PI := fun p h => by
 obtain ⟨t, rfl⟩ := int_of_is h
 cases p
 exact .int
theorem keyV_str : KeyV G (PySem.strKind G.prog G.w) (PS G) := fun p h => by
 obtain ⟨t, rfl⟩ := str_of_is h
 obtain ⟨n, rfl, rfl⟩ := p
 exact .str
section
variable {A : Around} {E : Value → Shared → Prop} {ρ : Rh} {s : Shared} {σ : St} {I : Addr} {src : AV} {i : Nat} {e : B} {k : AV → B}
theorem NxR.fin {h' : Heap} {tk : Nat} (kp : ∀ b o, b ≠ I → s.heap.get? b = some o → h'.get? b = some o) (he : e = true) : NxR G ρ s I src i e k none { s with heap := h', toks := tk } := ⟨h', tk, rfl, kp, he⟩
theorem NxR.item {h' : Heap} {tk : Nat} {a : AV} {v : Value} (hs : Heap.SameBut I s.heap h') (hv : V1 G ρ h' a v) (hk : k a = true) (it : ItSt G ρ h' I src (i + 1)) : NxR G ρ s I src i e k (some v) { s with heap := h', toks := tk } := ⟨h', tk, rfl, SameBut.kp hs, a, hv, hk, it⟩
section
variable {K : Type} [DecidableEq K] {knd : PySem.KeyKind G.prog G.w K} {P : AV → K → Prop} {a : Addr} {n ep0 : Nat} {l : AV} {od : Obj} {kvs : List (K × Value)} {p : Pth}
theorem nxt_keys (hh : A.handled = none) (kV : KeyV G knd P) (hI : ∃ o vs, s.heap.get? I = some o ∧ o.data = .fields vs) (r : ρ p = some (a, a)) (it : s.heap.IsKeyIter I a i n ep0) (ep : EpNow s.heap a n ep0) (g1 : s.heap.get? a = some od) (f1 : od.IsDictOf knd kvs) (d : LR (DP G ρ s.heap P) l kvs)
 (hk : lenV l 0 (fun m => ifB (Nat.beq m n) (dropK l i e fun kv => consK kv fun a V => k a) false) = true) : wpAny (model G.prog G.w) A (pyNext (.ref I)) (NxR G ρ s I (.cons (.ref p) (.cons (.int (.lit (.ofNat n))) .nil)) i e k) E s := by
 rcases beq_e (d.len0 hk) with ⟨hn, h0⟩ | ⟨_, h0⟩
 · subst hn
   have dA := dict_now g1 f1 ep rfl
   rcases d.nth h0 with ⟨h1, h2⟩ | ⟨_, _, h1, ⟨pq, hv⟩, h3⟩
   · exact wpAny_pyNext_dict_end hh it dA h1 fun h' he => NxR.fin he h2
   · exact wpAny_pyNext_dict_item it dA h1 fun key h' hkey it' hs => NxR.item hs (kV pq hkey) h3 (.keys r it' (ep.but (SameBut.kp hs) hI))
 · exact ff h0
theorem nxt_vals (hh : A.handled = none) (hI : ∃ o vs, s.heap.get? I = some o ∧ o.data = .fields vs) (r : ρ p = some (a, a)) (it : s.heap.IsValIter I a i n ep0) (ep : EpNow s.heap a n ep0) (g1 : s.heap.get? a = some od) (f1 : od.IsDictOf knd kvs) (d : LR (DP G ρ s.heap P) l kvs)
 (hk : lenV l 0 (fun m => ifB (Nat.beq m n) (dropK l i e fun kv => consK kv fun V a => k a) false) = true) : wpAny (model G.prog G.w) A (pyNext (.ref I)) (NxR G ρ s I (.cons (.ref p) (.cons (.int (.lit (.ofNat n))) (.cons .none .nil))) i e k) E s := by
 rcases beq_e (d.len0 hk) with ⟨hn, h0⟩ | ⟨_, h0⟩
 · subst hn
   have dA := dict_now g1 f1 ep rfl
   rcases d.nth h0 with ⟨h1, h2⟩ | ⟨_, _, h1, ⟨pq, hv⟩, h3⟩
   · exact wpAny_pyNext_values_end hh it dA h1 fun h' he => NxR.fin he h2
   · exact wpAny_pyNext_values_item it dA h1 fun h' it' hs => NxR.item hs (V1.but hv (SameBut.kp hs) hI).1 h3 (.vals r it' (ep.but (SameBut.kp hs) hI))
 · exact ff h0
end
theorem nxt_rng {a b st : Int} (hh : A.handled = none) (z : st ≠ 0) (it : IsRangeIter s.heap I (a + st * i) (Builtin.Range.rangeSize a b st - i) st) (hk : nxtR a b st i e k = true) :
 wpAny (model G.prog G.w) A (pyNext (.ref I)) (NxR G ρ s I (.cons (.int (.lit a)) (.cons (.int (.lit b)) (.cons (.int (.lit st)) .nil))) i e k) E s := by
 have key : (((i : Int) < Builtin.Range.rangeSize a b st) ∧ k (.int (.lit (a + st * i))) = true) ∨ (¬ ((i : Int) < Builtin.Range.rangeSize a b st) ∧ e = true) := by
  rw [← range_lt z]
  rcases ltI_e hk with ⟨hs, hk⟩ | ⟨hs, hk⟩
  · rw [if_pos hs]; exact ltI_e hk
  · rw [if_neg hs]; exact ltI_e hk
 rcases key with ⟨h1, h2⟩ | ⟨h1, h2⟩
 · refine wpAny_pyNext_range_item it (Int.sub_pos.mpr h1) fun h' it' hs => NxR.item hs .int h2 (.rng z ?_)
   have e1 : a + st * ((i + 1 : Nat) : Int) = a + st * i + st := by rw [Int.natCast_add, Int.mul_add, Int.add_assoc]; exact congrArg _ (congrArg _ (Int.mul_one st))
   have e2 : Builtin.Range.rangeSize a b st - ((i + 1 : Nat) : Int) = Builtin.Range.rangeSize a b st - i - 1 := (Int.sub_sub (Builtin.Range.rangeSize a b st) i 1).symm
   rw [e1, e2]; exact it'
 · exact wpAny_pyNext_range_end hh it (Int.sub_nonpos_of_le (Int.not_lt.mp h1)) fun h' he => NxR.fin he h2
theorem nxt_ok (hh : A.handled = none) (x : ItSt G ρ s.heap I src i) (X : SR G ρ σ s.heap) (hk : nxtK G.T σ.h src i e k = true) : wpAny (model G.prog G.w) A (pyNext (.ref I)) (NxR G ρ s I src i e k) E s := by
 have hI := x.at
 cases x with
 | tup g v it =>
  rcases v.lr.nth hk with ⟨h1, h2⟩ | ⟨b, w, h1, h2, h3⟩
  · exact next_tuple_end hh it ⟨_, g, rfl, 0, rfl⟩ (by simpa using h1) fun h' he => NxR.fin (tk := s.toks) he h2
  · refine next_tuple_item it ⟨_, g, rfl, 0, rfl⟩ (by simpa using h1) fun h' it' hs => ?_
    obtain ⟨v', tp⟩ := V1.but h2 (SameBut.kp hs) hI
    exact NxR.item (tk := s.toks) hs v' h3 (.tup (tp _ _ g) (v.mono (Rle.refl _) tp) it')
 | byt b it =>
  rcases dropK_byt b hk with ⟨h1, h2⟩ | ⟨j, c, h1, h2, h3⟩
  · exact KBw.next_end hh it (by simpa using h1) fun h' he => NxR.fin (tk := s.toks) he h2
  · exact KBw.next_item it (by simpa using h1) fun h' it' hs => NxR.item hs (a := .int j) (by rw [← h2]; exact .int) h3 (.byt b it')
 | lst r it =>
  obtain ⟨o, ho, hk⟩ := HT.getK_some hk
  have hr := (X.at ho r).inv
  cases o with
  | list l =>
   obtain ⟨vs, n1, e1, g1, v1, z1⟩ := hr
   rcases v1.lr.nth hk with ⟨h1, h2⟩ | ⟨b, w, h1, h2, h3⟩
   · exact wpAny_pyNext_list_end hh it ⟨_, g1, rfl, n1, rfl⟩ (by simpa using h1) fun h' he => NxR.fin (tk := s.toks) he h2
   · exact wpAny_pyNext_list_item it ⟨_, g1, rfl, n1, rfl⟩ (by simpa using h1) fun h' it' hs => NxR.item (tk := s.toks) hs (V1.but h2 (SameBut.kp hs) hI).1 h3 (.lst r it')
  | _ => exact ff hk
 | kd dA v it =>
  have v' : DS G ρ s.heap _ _ := v.mono (fun V V e => by cases e) fun a vs e => X.base a _ e
  rcases v'.lr.nth hk with ⟨h1, h2⟩ | ⟨_, _, h1, ⟨pq, hv⟩, h3⟩
  · exact wpAny_pyNext_dict_end hh it (dA.keep X.base) h1 fun h' he => NxR.fin (tk := s.toks) he h2
  · exact wpAny_pyNext_dict_item it (dA.keep X.base) h1 fun key h' hkey it' hs => NxR.item (tk := s.toks) hs (keyV_str pq hkey) h3 (.kd dA v it')
 | keys r it ep =>
  obtain ⟨o, ho, hk⟩ := HT.getK_some hk
  have hr := (X.at ho r).inv
  cases o with
  | dict l =>
   rcases hr with ⟨od, kvs, _, g1, f1, f2, _⟩ | ⟨od, kvs, _, g1, f1, f2, _⟩
   · exact nxt_keys hh keyV_int hI r it ep g1 f1 f2.lr hk
   · exact nxt_keys hh keyV_str hI r it ep g1 f1 f2.lr hk
  | _ => exact ff hk
 | vals r it ep =>
  obtain ⟨o, ho, hk⟩ := HT.getK_some hk
  have hr := (X.at ho r).inv
  cases o with
  | dict l =>
   rcases hr with ⟨od, kvs, _, g1, f1, f2, _⟩ | ⟨od, kvs, _, g1, f1, f2, _⟩
   · exact nxt_vals hh hI r it ep g1 f1 f2.lr hk
   · exact nxt_vals hh hI r it ep g1 f1 f2.lr hk
  | _ => exact ff hk
 | rng z it => exact nxt_rng hh z it hk
end
end Mst
end
section
namespace Mst
open PySem PySem.W PyProof.Rows PySem.Calls PySem.SeqAt
variable {G : Gl} {Z : ER} [EOk0 G Z]
theorem sm2_some {x : Int} {k : B} (h : sm2 x k = true) : -(2 ^ 62) ≤ x ∧ x < 2 ^ 62 ∧ k = true := by
 cases x with
 | ofNat m =>
  rcases ble_e h with ⟨q, h⟩ | ⟨_, h⟩
  · exact ⟨Int.le_trans (by decide) (Int.natCast_nonneg m), Int.lt_of_le_of_lt (Int.ofNat_le.mpr q) (by decide), h⟩
  · exact ff h
 | negSucc m =>
  rcases ble_e h with ⟨q, h⟩ | ⟨_, h⟩
  · exact ⟨Int.le_trans (by decide) (Int.neg_le_neg (Int.ofNat_le.mpr (Nat.succ_le_succ q))), Int.lt_trans (Int.negSucc_lt_zero m) (by decide), h⟩
  · exact ff h
theorem size_le {a b s : Int} (hs : s ≠ 0) (ha : -(2 ^ 62) ≤ a ∧ a < 2 ^ 62) (hb : -(2 ^ 62) ≤ b ∧ b < 2 ^ 62) : 0 ≤ Builtin.Range.rangeSize a b s ∧ Builtin.Range.rangeSize a b s < 2 ^ 63 := by
 unfold Builtin.Range.rangeSize
 by_cases h : s > 0
 · rw [if_pos h]
   by_cases q : a < b
   · rw [if_pos q]
     have h1 : (b - a - 1) / s ≤ b - a - 1 := Int.ediv_le_self _ (by omega)
     have h2 : 0 ≤ (b - a - 1) / s := Int.ediv_nonneg (by omega) (by omega)
     omega
   · rw [if_neg q]; omega
 · rw [if_neg h]
   by_cases q : a > b
   · rw [if_pos q]
     have h1 : (a - b - 1) / (-s) ≤ a - b - 1 := Int.ediv_le_self _ (by omega)
     have h2 : 0 ≤ (a - b - 1) / (-s) := Int.ediv_nonneg (by omega) (by omega)
     omega
   · rw [if_neg q]; omega
theorem range_small {a b s : Int} (hs : s ≠ 0) (ha : -(2 ^ 62) ≤ a ∧ a < 2 ^ 62) (hb : -(2 ^ 62) ≤ b ∧ b < 2 ^ 62) (hc : -(2 ^ 62) ≤ s ∧ s < 2 ^ 62) : Builtin.Range.small a b s = true := by
 have fit : ∀ x : Int, -(2 ^ 63) ≤ x → x < 2 ^ 63 → Builtin.Range.rangeFitsLong x = true := fun x h1 h2 => by
  unfold Builtin.Range.rangeFitsLong
  rw [decide_eq_true h1, decide_eq_true h2]; rfl
 have sz := size_le hs ha hb
 unfold Builtin.Range.small
 rw [fit a (by omega) (by omega), fit b (by omega) (by omega), fit s (by omega) (by omega), fit _ (by omega) sz.2]
 simp only [Bool.true_and]
 by_cases h : s > 0
 · rw [if_pos h, fit _ (by omega) (by omega), Bool.or_true]
 · rw [if_neg h, fit _ (by omega) (by omega), Bool.or_true]
variable (G)
noncomputable def SrcR (ρ : Rh) (h : Heap) (src : AV) (v : Value) : Prop := V1 G ρ h src v ∨ ∃ p a d w, src = .cons (.ref p) .nil ∧ v = .ref w ∧ ρ p = some (a, d) ∧ h.IsValuesView w a
inductive ItR (ρ : Rh) (s : Shared) (k : AV → B) (it : Value) (s' : Shared) : Prop
 | mk (src : AV) (o : Obj) : it = .ref s.heap.objs.size → s' = { s with heap := s.heap.push o } → ItSt G ρ (s.heap.push o) s.heap.objs.size src 0 → k src = true → ItR ρ s k it s'
variable {G}
section
variable {A : Around} {E : Value → Shared → Prop} {ρ : Rh} {s : Shared} {σ : St} {src : AV} {v : Value} {k : AV → B} {a : Addr} {p : Pth}
theorem ep_new {K : Type} [DecidableEq K] {knd : PySem.KeyKind G.prog G.w K} {o : Obj} {kvs : List (K × Value)} (ho : s.heap.get? a = some o) (hd : o.IsDictOf knd kvs) : ∃ e, s.heap.DictAt knd a kvs e ∧ ∀ o', EpNow (s.heap.push o') a kvs.length e := by
 obtain ⟨es, e, h1, h2, h3, h4, h5⟩ := hd
 have sz : es.size = kvs.length := by rw [← h4.length]; simp
 exact ⟨e, ⟨_, es, ho, h1, h2, h3, h4, h5⟩, fun o' => sz ▸ ⟨_, _, _, Heap.get?_push_of_some _ ho, h2, Nat.le_refl _, fun V => rfl⟩⟩
theorem iter_keys {l : AV} (hr : ρ p = some (a, a)) (x : DctI G ρ s.heap a a l) (hk : lenV l 0 (fun n => k (.cons (.ref p) (.cons (.int (.lit (.ofNat n))) .nil))) = true) : wpAny (model G.prog G.w) A (pyIter (.ref a)) (ItR G ρ s k) E s := by
 rcases x with ⟨o, kvs, _, g1, f1, f2, _, y⟩ | ⟨o, kvs, _, g1, f1, f2, _, y⟩
 · obtain ⟨e, h1, h2⟩ := ep_new g1 f1
   exact wpAny_pyIter_dict y h1 ⟨_, _, rfl, rfl, .keys hr ⟨_, Heap.get?_push_size _ rfl, rfl, rfl⟩ (h2 _), f2.lr.len0 hk⟩
 · obtain ⟨e, h1, h2⟩ := ep_new g1 f1
   exact wpAny_pyIter_dict y h1 ⟨_, _, rfl, rfl, .keys hr ⟨_, Heap.get?_push_size _ rfl, rfl, rfl⟩ (h2 _), f2.lr.len0 hk⟩
theorem iter_vals {w : Addr} {l : AV} (vw : s.heap.IsValuesView w a) (hr : ρ p = some (a, a)) (x : DctI G ρ s.heap a a l) (hk : lenV l 0 (fun n => k (.cons (.ref p) (.cons (.int (.lit (.ofNat n))) (.cons .none .nil)))) = true) : wpAny (model G.prog G.w) A (pyIter (.ref w)) (ItR G ρ s k) E s := by
 rcases x with ⟨o, kvs, _, g1, f1, f2, _, y⟩ | ⟨o, kvs, _, g1, f1, f2, _, y⟩
 · obtain ⟨e, h1, h2⟩ := ep_new g1 f1
   exact wpAny_pyIter_values vw h1 ⟨_, _, rfl, rfl, .vals hr ⟨_, Heap.get?_push_size _ rfl, rfl, rfl⟩ (h2 _), f2.lr.len0 hk⟩
 · obtain ⟨e, h1, h2⟩ := ep_new g1 f1
   exact wpAny_pyIter_values vw h1 ⟨_, _, rfl, rfl, .vals hr ⟨_, Heap.get?_push_size _ rfl, rfl, rfl⟩ (h2 _), f2.lr.len0 hk⟩
theorem DctI.da {d : Addr} {h : Heap} {l : AV} (x : DctI G ρ h a d l) : d = a := by cases x <;> assumption
theorem iter_ok (Y : Cy G) (x : SrcR G ρ s.heap src v) (X : SR G ρ σ s.heap) (hk : srcK G.T σ.h src k = true) : wpAny (model G.prog G.w) A (pyIter v) (ItR G ρ s k) E s := by
 rcases x with hv | ⟨p, a, d, w, rfl, rfl, hr, vw⟩
 · cases src with
   | byt l =>
    obtain ⟨b, t, rfl, hb, hz⟩ := hv.byt_inv
    exact KBw.pyIter_bytes ⟨_, _, rfl, rfl, .byt hb ⟨_, Heap.get?_push_size _ rfl, rfl, rfl⟩, hk⟩
   | ref p =>
    obtain ⟨a, d, rfl, hr⟩ := hv.ref_inv
    obtain ⟨o, ho, hk⟩ := HT.getK_some hk
    have ob := (X.at ho hr).inv
    cases o with
    | list l =>
     obtain ⟨vs, n1, e1, g1, v1, z1⟩ := ob
     exact wpAny_pyIter_list ⟨_, g1, rfl, n1, rfl⟩ ⟨_, _, rfl, rfl, .lst hr ⟨_, Heap.get?_push_size _ rfl, rfl, rfl⟩, hk⟩
    | dict l =>
     cases ob.da
     exact iter_keys hr ob hk
    | inst => exact ff hk
    | range a1 b1 s1 =>
     obtain ⟨_, t, u, v', hir⟩ := ob
     obtain ⟨n0, hk⟩ := nz_some hk
     obtain ⟨q1, q2, hk⟩ := sm2_some hk
     obtain ⟨q3, q4, hk⟩ := sm2_some hk
     obtain ⟨q5, q6, hk⟩ := sm2_some hk
     refine wpAny_pyIter_range hir (range_small n0 ⟨q1, q2⟩ ⟨q3, q4⟩ ⟨q5, q6⟩) ⟨_, _, rfl, rfl, .rng n0 ?_, hk⟩
     have e1 : a1 + s1 * ((0 : Nat) : Int) = a1 := by simp
     have e2 : Builtin.Range.rangeSize a1 b1 s1 - ((0 : Nat) : Int) = Builtin.Range.rangeSize a1 b1 s1 := by simp
     rw [e1, e2]
     exact Heap.get?_push_size _ rfl
   | kd kk =>
    cases hv.kd_inv
    rcases Y.kds kk with h0 | ⟨o, kvs, h1, h2, h3, h4, h5⟩
    · have hk : consK (G.T.kd kk) (fun V V => k (.kd kk)) = true := hk
      rw [h0] at hk
      exact ff hk
    · obtain ⟨es, e, f1, f2, f3, f4, f5⟩ := h2
      have dA : G.H0.DictAt (PySem.strKind G.prog G.w) (G.kdA kk) kvs e := ⟨o, es, h1, f1, f2, f3, f4, f5⟩
      exact wpAny_pyIter_dict h5 (dA.keep X.base) ⟨_, _, rfl, rfl, .kd dA h3 ⟨_, Heap.get?_push_size _ rfl, rfl, rfl⟩, let ⟨_, _, _, hk⟩ := consK_e hk; hk⟩
   | tup l =>
    obtain ⟨a1, vs, rfl, g1, hb, hz⟩ := hv.tup_inv
    have tp : ∀ o, Tups s.heap (s.heap.push o) := fun o b vs e => Heap.get?_push_of_some _ e
    exact iter_tuple ⟨_, g1, rfl, 0, rfl⟩ ⟨_, _, rfl, rfl, .tup (tp _ _ _ g1) (hb.mono (Rle.refl _) (tp _)) ⟨_, Heap.get?_push_size _ rfl, rfl, rfl⟩, hk⟩
   | cons => exact hv.inv.elim
   | _ => exact ff hk
 · obtain ⟨o, ho, hk⟩ := HT.getK_some hk
   have ob := (X.at ho hr).inv
   cases o with
   | dict l =>
    cases ob.da
    exact iter_vals vw hr ob hk
   | _ => exact ff hk
end
theorem iter_self {A : Around} {E : Value → Shared → Prop} {ρ : Rh} {s : Shared} {I : Addr} {src : AV} {i : Nat} {Q : Value → Shared → Prop} (x : ItSt G ρ s.heap I src i) (h : Q (.ref I) s) : wpAny (model G.prog G.w) A (pyIter (.ref I)) Q E s := by
 cases x with
 | tup g v it => exact wpAny_pyIter_tupleiter it h
 | byt b it => exact KBw.pyIter_self it h
 | lst r it => exact wpAny_pyIter_listiter it h
 | kd d v it => exact wpAny_pyIter_keyiter it h
 | keys r it e => exact wpAny_pyIter_keyiter it h
 | vals r it e => exact wpAny_pyIter_valiter it h
 | rng z it => exact wpAny_pyIter_rangeiter it h
end Mst
end
section
namespace Mst
open PySem PySem.W PyProof.Rows PySem.Calls PySem.SeqAt
variable {G : Gl} {Z : ER} [EOk0 G Z]
variable (G)
structure Loose (env : Env) (ρ : Rh) (h : Heap) (I : Addr) : Prop where
 at' : ∃ o vs, h.get? I = some o ∧ o.data = .fields vs
 nM : ¬ Mut ρ I
 nH : G.H0.get? I = none
structure LooseA (ρ : Rh) (h : Heap) (I : Addr) : Prop where
 at' : ∃ o, h.get? I = some o ∧ Apart o
 nM : ¬ Mut ρ I
 nH : G.H0.get? I = none
variable {G}
theorem Loose.a {env : Env} {ρ : Rh} {h : Heap} {I : Addr} (L : Loose G env ρ h I) : LooseA G ρ h I :=
 let ⟨o, _, h1, h2⟩ := L.at'; ⟨⟨o, h1, .fields h2⟩, L.nM, L.nH⟩
theorem SR.but {ρ : Rh} {σ : St} {h h' : Heap} {I : Addr} (X : SR G ρ σ h) (L : LooseA G ρ h I) (kp : ∀ b o, b ≠ I → h.get? b = some o → h'.get? b = some o) : SR G ρ σ h' ∧ Tups h h' := by
 obtain ⟨oI, hI, dI⟩ := L.at'
 have tp : Tups h h' := fun b ws e => kp b _ (fun q => by rw [q, hI] at e; cases e; exact dI.1 ws rfl) e
 refine ⟨⟨fun c o e => kp c o (fun q => by rw [q, L.nH] at e; cases e) (X.base c o e), fun p o hp => ?_, X.fresh, X.inj, X.apart, fun p a d hp => ?_⟩, tp⟩
 · obtain ⟨a, d, h1, h2⟩ := X.obj p o hp
   have nd : d ≠ I := fun q => L.nM ⟨p, a, q ▸ h1⟩
   refine ⟨a, d, h1, h2.keeps (Rle.refl ρ) (fun o e => kp a o (fun q => ?_) e) (fun o e => kp d o nd e) tp⟩
   subst q
   cases h2 with
   | list e _ _ _ => exact nd e
   | dictI e _ _ _ _ _ => exact nd e
   | dictS e _ _ _ _ _ => exact nd e
   | inst _ g1 _ _ _ _ => rw [hI] at g1; cases g1; exact dI.2 _ _ rfl
   | range e _ => exact nd e
 · obtain ⟨o, ho⟩ := X.live p a d hp
   exact ⟨o, kp d o (fun q => L.nM ⟨p, a, q ▸ hp⟩) ho⟩
theorem EnvOkT.chg {T : List Nat} {sc : Scope} {A : Around} {env : Env} {l : Loc} {ρ : Rh} {h h' : Heap} {m : PySem.Str → Option Value} {I : Addr} {oI : Obj} (E : EnvOkT G T sc A env l ρ h m) (hI : h.get? I = some oI) (nL : env.locals ≠ I) (nc : ∀ v, oI.data ≠ .cell v) (nf : ¬ IsFr oI)
 (kp : ∀ b o, b ≠ I → h.get? b = some o → h'.get? b = some o) (tp : Tups h h') : EnvOkT G T sc A env l ρ h' m := by
 obtain ⟨oL, es, ep, hL, hd, hr⟩ := E.ns
 have cK : ∀ {c : Addr} {o : Obj} {v : Option Value}, h.get? c = some o → o.data = .cell v → h'.get? c = some o := fun {c o v} g e => kp c o (fun q => by rw [q, hI] at g; cases g; exact nc v e) g
 refine ⟨E.scope, E.kind, E.blts, E.globs, ⟨oL, es, ep, kp _ _ nL hL, hd, hr⟩, E.offL, fun x c hc => ?_, fun k a hkT hka => ?_, E.baseL, E.ndC, E.hasC, E.stk.touch kp fun o e q => by rw [hI] at e; cases e; exact absurd q nf⟩
 · obtain ⟨h1, o, v, h2, h3⟩ := E.offC x c hc
   exact ⟨h1, o, v, cK h2 h3, h3⟩
 · obtain ⟨v', h1, h2, h3⟩ := E.look k a hkT hka
   exact ⟨v', h1.mono (Rle.refl _) tp, h2, fun q => let ⟨c, h4, o, h5, h6⟩ := h3 q; ⟨c, h4, o, cK h5 h6, h6⟩⟩
theorem EnvOkT.but {T : List Nat} {sc : Scope} {A : Around} {env : Env} {l : Loc} {ρ : Rh} {h h' : Heap} {m : PySem.Str → Option Value} {I : Addr} {env' : Env} (E : EnvOkT G T sc A env l ρ h m) (L : Loose G env' ρ h I) (kp : ∀ b o, b ≠ I → h.get? b = some o → h'.get? b = some o) (tp : Tups h h') : EnvOkT G T sc A env l ρ h' m := by
 obtain ⟨oI, vI, hI, dI⟩ := L.at'
 obtain ⟨oL, es, ep, hL, hd, _⟩ := E.ns
 exact E.chg hI (fun q => by rw [q, hI] at hL; cases hL; rw [dI] at hd; cases hd) (fun v q => by rw [dI] at q; cases q) (fun ⟨_, es2, ep2, q⟩ => by rw [dI] at q; cases q) kp tp
theorem Pst.but {ρ₀ ρ : Rh} {own : List Addr} {s₀ s : Shared} {σ : St} {h' : Heap} {I : Addr} (tk : Nat) (P : Pst G ρ₀ own s₀ ρ s σ) (L : LooseA G ρ s.heap I) (hI : s₀.heap.get? I = none) (kp : ∀ b o, b ≠ I → s.heap.get? b = some o → h'.get? b = some o) :
 Pst G ρ₀ own s₀ ρ { s with heap := h', toks := tk } σ := by
 obtain ⟨X, tp⟩ := P.sr.but L kp
 have r := P.rest
 refine ⟨?_, X, P.le, P.new, fun b o hb hm ho => ?_, fun b o hb => ?_, fun a vs e => tp a vs (P.tups a vs e), fun b hb => (P.eps b hb).trans (.same fun o e => kp b o (fun q => ?_) e)⟩
 · rw [r]
 · obtain ⟨sl, h1, h2⟩ := P.keep b o hb hm ho
   exact ⟨sl, kp b _ (fun q => by rw [q, hI] at hb; cases hb) h1, h2⟩
 · obtain ⟨o', h1⟩ := P.live b o hb
   exact ⟨o', kp b _ (fun q => by rw [q, hI] at hb; cases hb) h1⟩
 · obtain ⟨p, a, hp⟩ := hb
   exact L.nM ⟨p, a, q ▸ P.le _ _ hp⟩
theorem Loose.after {env : Env} {ρ ρ' : Rh} {own : List Addr} {s s' : Shared} {σ' : St} {I : Addr} (L : Loose G env ρ s.heap I) (P : Pst G ρ own s ρ' s' σ') (h : I ∉ own) : Loose G env ρ' s'.heap I ∧ ∀ o, s.heap.get? I = some o → s'.heap.get? I = some o := by
 obtain ⟨oI, vI, hI, dI⟩ := L.at'
 obtain ⟨sl, h1, h2⟩ := P.keep I oI hI L.nM h
 have e := h2 fun V es ep q => by rw [dI] at q; cases q
 subst e
 exact ⟨⟨⟨oI, vI, h1, dI⟩, P.notm hI L.nM, L.nH⟩, fun o e => by rw [hI] at e; cases e; exact h1⟩
theorem ItSt.loose {ρ : Rh} {σ : St} {s : Shared} {o : Obj} {src : AV} {i : Nat} (env : Env) (x : ItSt G ρ (s.heap.push o) s.heap.objs.size src i) (X : SR G ρ σ s.heap) : Loose G env ρ (s.heap.push o) s.heap.objs.size :=
 ⟨x.at, fun m => absurd (X.mut_lt m) (Nat.lt_irrefl _), X.h0_lt (Nat.le_refl _)⟩
theorem letGo_ok {A : Around} {E : Value → Shared → Prop} {ρ : Rh} {s : Shared} {I : Addr} {src : AV} {i : Nat} {t : PySem.Expr} {v : Value} {Q : Unit → Shared → Prop} (x : ItSt G ρ s.heap I src i) (h : Q () s) : wpAny (model G.prog G.w) A (letOwnedTupleGo t (.ref I) v) Q E s := by
 have key : ∃ o T, s.heap.get? I = some o ∧ o.cls = .type T ∧ ["enumerate", "zip", "dict_itemiterator", "dict_reverseitemiterator", "odict_iterator", "itertools.zip_longest", "itertools.pairwise"].contains T = false := by
  cases x with
  | tup g v it => obtain ⟨o, ho, hc, _⟩ := it; exact ⟨o, _, ho, hc, by decide⟩
  | byt b it => obtain ⟨o, ho, hc, _⟩ := it; exact ⟨o, _, ho, hc, by decide⟩
  | lst r it => obtain ⟨o, ho, hc, _⟩ := it; exact ⟨o, _, ho, hc, by decide⟩
  | kd d v it => obtain ⟨o, ho, hc, _⟩ := it; exact ⟨o, _, ho, hc, by decide⟩
  | keys r it e => obtain ⟨o, ho, hc, _⟩ := it; exact ⟨o, _, ho, hc, by decide⟩
  | vals r it e => obtain ⟨o, ho, hc, _⟩ := it; exact ⟨o, _, ho, hc, by decide⟩
  | rng z it => exact ⟨_, _, it, rfl, by decide⟩
 obtain ⟨o, T, ho, hc, hT⟩ := key
 have go : ∀ {a b c}, wpAny (model G.prog G.w) A (letOwnedTupleGo (.Tuple a b c) (.ref I) v) Q E s := by
  intro a b c
  cases v with
  | ref a =>
   refine wpAny_bind (wpAny_load ho ?_)
   obtain ⟨cls, dd, data, sl⟩ := o
   cases (hc : cls = _)
   cases data with
   | fields vs =>
    refine wpAny_ite_false ?_ (wpAny_pure h)
    rw [hT]; rfl
   | _ => exact wpAny_pure h
  | _ => exact wpAny_pure h
 cases t with
 | Tuple => exact go
 | List a b => exact go (a := a) (b := 0) (c := b)
 | _ => exact wpAny_pure h
end Mst
end
section
namespace Mst
open PySem PySem.W PyProof.Rows PySem.Calls PySem.SeqAt
variable {G : Gl} {Z : ER} [EOk0 G Z]
variable (G) (Z)
inductive QS (ρ : Rh) (s : Shared) (k : AV → St → B) (v : Value) (s' : Shared) : Prop
 | mk (a : AV) (σ' : St) (ρ' : Rh) : Pst G ρ [] s ρ' s' σ' → SrcR G ρ' s'.heap a v → k a σ' = true → QS ρ s k v s'
noncomputable def SrcOk (sc : Scope) (ev : Loc → St → (AV → St → B) → B) (n : Nat) (t : Env → Sem Value) : Prop :=
 ∀ (l : Loc) (σ : St) (k : AV → St → B), ev l σ k = true → ∀ (env : Env) (A : Around) (s : Shared) (ρ : Rh) (m : PySem.Str → Option Value),
  EnvOk G sc A env l ρ s.heap m → SR G ρ σ s.heap → Rm A n → wpAny (model G.prog G.w) A (t env) (QS G ρ s k) (Z env A ρ s) s
variable {G} {Z}
theorem EvOk.src {sc : Scope} {ev : Loc → St → (AV → St → B) → B} {n : Nat} {t : Env → Sem Value} (h : EvOk G Z sc ev n t) : SrcOk G Z sc ev n t :=
 fun l σ k hk env A s ρ m E X R => wpAny_mono (h l σ k hk env A s ρ m E X R) (fun v s' ⟨a, σ', ρ', P, hv, hk'⟩ => ⟨a, σ', ρ', P, .inl hv, hk'⟩) fun V V e => e
theorem loop_err [EOk G Z] {env : Env} {A : Around} {ρ : Rh} {s s' : Shared} {e : Value} (hf : OnTop A env) (z : Z env A ρ s e s') : notedBy (model G.prog G.w) A env (fun e s' => cameBackBy (model G.prog G.w) A env (Z env A ρ s) e s') e s' := EOk.loop hf z
theorem ex_for [EOk G Z] {sc : Scope} {n : Nat} (Y : Cy G) {T : Tabs} (hT : T = G.T) {evs : Loc → St → (AV → St → B) → B} {tg : AV → Loc → (Loc → B) → B} {exb : Loc → St → (Loc → St → B) → (AV → St → B) → (Loc → St → B) → B} {target iter : PySem.Expr} {body : List Stmt} {pos : Pos} {fuel : Nat}
 (hs : SrcOk G Z sc evs n (fun env => eval iter env)) (hf : ∀ env x, foldedSetIterable iter env x = pure x) (ht : AsOk G Z sc (fun v l s k => tg v l fun l => k l s) n (fun env v => assign target env v)) (hb : ExOk G Z sc exb n (fun env => execs body env)) :
 ExOk G Z sc (fun l s kn kr V => evs l s fun src s => srcK T s.h src fun src => forK T exb tg src fuel 0 l s kn kr) n (fun env => exec (.For target iter body [] pos) env) := by
 subst hT
 intro l σ kn kr kc hk env A s ρ m hfr E X R
 refine wpAny_For (wpAny_mono (hs l σ _ hk env A s ρ m E X R) (fun v s₁ q => ?_) fun V V e => e) (hf env)
 obtain ⟨src0, σ₁, ρ₁, P₁, hv, hk₁⟩ := q
 refine wpAny_mono (iter_ok Y hv P₁.sr hk₁) (fun it s₂ q => ?_) fun V V e => e
 obtain ⟨src, oI, rfl, rfl, it, hk₂⟩ := q
 have E₁ := E.after P₁
 have kp1 : ∀ b o, s₁.heap.get? b = some o → (s₁.heap.push oI).get? b = some o := fun b o e => Heap.get?_push_of_some _ e
 have Pg : Pst G ρ₁ [] s₁ ρ₁ { s₁ with heap := s₁.heap.push oI } σ₁ := Pst.grow s₁.toks P₁.sr kp1
 have hI0 : s₁.heap.get? s₁.heap.objs.size = none := none_at _
 have L0 := it.loose env P₁.sr
 have nown : s₁.heap.objs.size ∉ ownOf env := by
  intro hm
  obtain ⟨oL, es, ep, hL, _⟩ := E₁.ns
  rw [← List.mem_singleton.mp hm, hI0] at hL; cases hL
 have key := codeAny_forLoop_any (prog := G.prog) (w := G.w) (A := A) (target := target) (it := .ref s₁.heap.objs.size) (body := body) (orelse := []) (env := env)
  (R := fun r s' => match r with | .ok f => QX G sc A env ρ s kn kr kc f s' | .error e => cameBackBy (model G.prog G.w) A env (Z env A ρ s) e s')
  (fun f s' => ∃ i l σ ρ' m, Pst G ρ₁ (ownOf env) s₁ ρ' s' σ ∧ EnvOk G sc A env l ρ' s'.heap m ∧ ItSt G ρ' s'.heap s₁.heap.objs.size src i ∧ Loose G env ρ' s'.heap s₁.heap.objs.size ∧ forK G.T exb tg src f i l σ kn kr = true)
  ?_ fuel ⟨0, l, σ₁, ρ₁, m, Pg.any, E₁.after Pg, it, L0, hk₂⟩
 · exact codeAny_mono key fun r s' q => q
 rintro f s' ⟨i, l', σ', ρ', m', P, E', it', L, hk'⟩
 cases f with
 | zero => cases hk'
 | succ f =>
  have err : ∀ {ρx : Rh} {sx : Shared} {σx : St} {e : Value} {sy : Shared}, Pst G ρ₁ (ownOf env) s₁ ρx sx σx → Z env A ρx sx e sy → notedBy (model G.prog G.w) A env (fun e s' => cameBackBy (model G.prog G.w) A env (Z env A ρ s) e s') e sy := fun Px z =>
   loop_err hfr (aft P₁ (EOk.afterO (G := G) Px z))
  refine wpAny_mono (nxt_ok (k := fun v => tg v l' fun l => exb l σ' (fun l s => forK G.T exb tg src f (Nat.succ i) l s kn kr) kr (fun l s => forK G.T exb tg src f (Nat.succ i) l s kn kr)) R.handled it' P.sr hk') (fun r s₃ q => ?_) fun V V e => e
  obtain ⟨h', tk, rfl, kp, q⟩ := q
  have P₃ := P.but tk L.a hI0 kp
  have tp := (P.sr.but L.a kp).2
  have E₃ := E'.but L kp tp
  cases r with
  | none =>
   refine wpAny_pure ?_
   exact ⟨σ', ρ', (P₁.any (own' := ownOf env)).trans P₃, l', m', E₃, q⟩
  | some v =>
   obtain ⟨a, hva, hka, it₃⟩ := q
   have L₃ : Loose G env ρ' h' s₁.heap.objs.size := ⟨it₃.at, L.nM, L.nH⟩
   refine letGo_ok (s := { s' with heap := h', toks := tk }) it₃ ?_
   refine wpAny_mono (ht a l' σ' (fun l s => exb l s (fun l s => forK G.T exb tg src f (Nat.succ i) l s kn kr) kr (fun l s => forK G.T exb tg src f (Nat.succ i) l s kn kr)) hka env A _ ρ' m' v E₃ P₃.sr hva R) (fun V s₄ q => ?_) fun V V z => err P₃ z
   obtain ⟨σ₄, ρ₄, l₄, m₄, P₄, E₄, hk₄⟩ := q
   have P34 := P₃.trans P₄
   refine wpAny_mono (hb l₄ σ₄ _ _ _ hk₄ env A s₄ ρ₄ m₄ hfr E₄ P₄.sr R) (fun fl s₅ q => ?_) fun V V z => err P34 z
   obtain ⟨σ₅, ρ₅, P₅, q⟩ := q
   have P45 := P₄.trans P₅
   have P35 := P₃.trans P45
   obtain ⟨L₅, kI⟩ := L₃.after (s := { s' with heap := h', toks := tk }) P45 nown
   have it₅ := it₃.keep P45.le P45.tups kI P45.eps
   cases fl with
   | next =>
    obtain ⟨l₅, m₅, E₅, hk₅⟩ := q
    exact ⟨f, Nat.lt_succ_self _, i + 1, l₅, σ₅, ρ₅, m₅, P35, E₅, it₅, L₅, hk₅⟩
   | cont =>
    obtain ⟨l₅, m₅, E₅, hk₅⟩ := q
    exact ⟨f, Nat.lt_succ_self _, i + 1, l₅, σ₅, ρ₅, m₅, P35, E₅, it₅, L₅, hk₅⟩
   | ret v =>
    obtain ⟨a₅, h1, h2⟩ := q
    exact ⟨σ₅, ρ₅, (P₁.any (own' := ownOf env)).trans P35, a₅, h1, h2⟩
   | brk => exact q.elim
end Mst
end
section
namespace Mst
open PySem PySem.W PyProof.Rows PySem.Calls PySem.SeqAt
variable {G : Gl} {Z : ER} [EOk0 G Z]
noncomputable def clOf (cells : List (PySem.Str × Addr)) : List (PySem.Str × NameKind) → List (PySem.Str × Addr) → List (PySem.Str × Addr)
 | [], acc => acc
 | (n, k) :: r, acc => clOf cells r (if k == .free then (n, (cells.lookup n).getD 0) :: acc else acc)
theorem clOf_fst {cells cells' : List (PySem.Str × Addr)} : ∀ (names : List (PySem.Str × NameKind)) (acc acc' : List (PySem.Str × Addr)), acc.map (·.1) = acc'.map (·.1) → (clOf cells names acc).map (·.1) = (clOf cells' names acc').map (·.1)
 | [], _, _, h => h
 | (n, k) :: r, acc, acc', h => by
  unfold clOf
  refine clOf_fst r _ _ ?_
  split
  · rw [List.map_cons, List.map_cons, h]
  · exact h
theorem clOf_all {cells : List (PySem.Str × Addr)} : ∀ (names : List (PySem.Str × NameKind)) (acc : List (PySem.Str × Addr)), (∀ x ∈ acc, x.2 = (cells.lookup x.1).getD 0) → ∀ x ∈ clOf cells names acc, x.2 = (cells.lookup x.1).getD 0
 | [], _, h, x, hx => h x hx
 | (n, k) :: r, acc, h, x, hx => by
  unfold clOf at hx
  refine clOf_all r _ (fun y hy => ?_) x hx
  split at hy
  · rcases List.mem_cons.mp hy with rfl | hy
    · rfl
    · exact h y hy
  · exact h y hy
theorem clOf_mem {cells : List (PySem.Str × Addr)} : ∀ (names : List (PySem.Str × NameKind)) (acc : List (PySem.Str × Addr)) (x : PySem.Str), (x ∈ acc.map (·.1) ∨ (x, NameKind.free) ∈ names) → x ∈ (clOf cells names acc).map (·.1)
 | [], _, x, h => h.elim id fun q => by cases q
 | (n, k) :: r, acc, x, h => by
  unfold clOf
  refine clOf_mem r _ x ?_
  rcases h with h | h
  · left
    split
    · exact List.mem_cons_of_mem _ h
    · exact h
  · rcases List.mem_cons.mp h with h | h
    · cases h
      left; simp
    · exact .inr h
set_option tactic.hygienic true in
theorem clOf_names {cells : List (PySem.Str × Addr)} : ∀ (names : List (PySem.Str × NameKind)) (acc : List (PySem.Str × Addr)) (x : PySem.Str), x ∈ (clOf cells names acc).map (·.1) → (x ∈ acc.map (·.1) ∨ (x, NameKind.free) ∈ names)
 | [], _, x, h => .inl h
 | (n, k) :: r, acc, x, h => by
  unfold clOf at h
  rcases clOf_names r _ x h with h | h
  · split at h
    · rename_i hk
      rcases List.mem_cons.mp h with rfl | h
      · right; rw [beq_iff_eq.mp hk]; exact List.mem_cons_self
      · exact .inl h
    · exact .inl h
  · exact .inr (List.mem_cons_of_mem _ h)
theorem lookup_isSome_of_mem {α : Type} : ∀ {l : List (PySem.Str × α)} {x : PySem.Str}, x ∈ l.map (·.1) → ∃ c, l.lookup x = some c
 | (k, v) :: r, x, h => by
  rw [List.lookup_cons]
  cases e : x == k with
  | true => exact ⟨v, rfl⟩
  | false =>
   rcases List.mem_cons.mp h with h | h
   · rw [show x = k from h, beq_self_eq_true] at e; cases e
   · exact lookup_isSome_of_mem h
theorem clOf_look {cells : List (PySem.Str × Addr)} {names : List (PySem.Str × NameKind)} {x : PySem.Str} {c : Addr} (h : (x, NameKind.free) ∈ names) (hc : cells.lookup x = some c) : (clOf cells names []).lookup x = some c := by
 obtain ⟨c', hc'⟩ := lookup_isSome_of_mem (clOf_mem (cells := cells) names [] x (.inr h))
 have := clOf_all (cells := cells) names [] (fun y hy => by cases hy) _ (mem_of_lookup hc')
 dsimp only at this
 rw [hc] at this
 rw [hc', this]; rfl
theorem closure_eq {scope : Scope} {env : Env} (h : ∀ x, (x, NameKind.free) ∈ scope.names → ∃ c, env.cells.lookup x = some c) : closureFor scope env = pure (clOf env.cells scope.names []) := by
 unfold closureFor
 have key : ∀ (names : List (PySem.Str × NameKind)) (acc : List (PySem.Str × Addr)), (∀ x, (x, NameKind.free) ∈ names → ∃ c, env.cells.lookup x = some c) →
  (forIn names acc fun x r => if (x.2 == NameKind.free) = true then do let a ← cellOf env x.1; pure (ForInStep.yield ((x.1, a) :: r)) else pure (ForInStep.yield r)) = (pure (clOf env.cells names acc) : Sem _) := by
  intro names
  induction names with
  | nil => intro acc _; rw [List.forIn_nil]; rfl
  | cons y r ih =>
   intro acc hh
   obtain ⟨n, k⟩ := y
   rw [List.forIn_cons]
   unfold clOf
   by_cases hk : (k == NameKind.free) = true
   · rw [if_pos hk]
     have e := beq_iff_eq.mp hk; subst e
     obtain ⟨c, hc⟩ := hh n List.mem_cons_self
     have ec : cellOf env n = pure c := by unfold cellOf; rw [hc]
     rw [ec, hc]
     simp only [pure_bind]
     rw [ih _ fun x hx => hh x (List.mem_cons_of_mem _ hx)]
     rw [if_pos hk]; rfl
   · rw [if_neg hk]
     simp only [pure_bind]
     rw [ih _ fun x hx => hh x (List.mem_cons_of_mem _ hx), if_neg hk]
 have := key scope.names [] h
 simp only at this ⊢
 first
  | (rw [this]; rfl)
  | (refine Eq.trans (congrArg (fun m => m >>= fun cs => pure cs) this) ?_; simp)
end Mst
end
section
namespace Mst
open PySem PySem.W PyProof.Rows PySem.Calls PySem.SeqAt
variable {G : Gl} {Z : ER} [EOk0 G Z]
noncomputable def relabelS (scope sc : Scope) : Scope :=
 { scope with names := scope.names.map fun (n, k) => if (k == .free && sc.kind == .function && sc.names.lookup n == some .cell) then (n, .cell) else (n, k) }
theorem relabel_eq {scope sc : Scope} {env : Env} (h : env.scope = sc) : relabel scope env = relabelS scope sc := by subst h; rfl
theorem lookup_rel {sc : Scope} : ∀ {names : List (PySem.Str × NameKind)} {x : PySem.Str} {k : NameKind}, names.lookup x = some k →
 (names.map fun (n, k) => if (k == NameKind.free && sc.kind == .function && sc.names.lookup n == some .cell) then (n, NameKind.cell) else (n, k)).lookup x = some (if (k == NameKind.free && sc.kind == .function && sc.names.lookup x == some .cell) then .cell else k)
 | (n, k') :: r, x, k, h => by
  rw [List.lookup_cons] at h
  rw [List.map_cons]
  cases e : x == n with
  | true =>
   rw [e] at h; cases h
   have := beq_iff_eq.mp e; subst this
   dsimp only
   split <;> rw [List.lookup_cons, beq_self_eq_true]
  | false =>
   rw [e] at h
   dsimp only
   split <;> (rw [List.lookup_cons, e]; exact lookup_rel h)
theorem lookup_rel_none {sc : Scope} : ∀ {names : List (PySem.Str × NameKind)} {x : PySem.Str}, names.lookup x = none →
 (names.map fun (n, k) => if (k == NameKind.free && sc.kind == .function && sc.names.lookup n == some .cell) then (n, NameKind.cell) else (n, k)).lookup x = none
 | [], _, _ => rfl
 | (n, k') :: r, x, h => by
  rw [List.lookup_cons] at h
  rw [List.map_cons]
  cases e : x == n with
  | true => rw [e] at h; cases h
  | false =>
   rw [e] at h
   dsimp only
   split <;> (rw [List.lookup_cons, e]; exact lookup_rel_none h)
variable (G)
structure CompS (sc scope : Scope) (T : List Nat) : Prop where
 kind : scope.kind = .function
 nocell : ∀ x ∈ scope.names, x.2 ≠ .cell
 free : ∀ x, (x, NameKind.free) ∈ scope.names → sc.names.lookup x = some .cell
 locs : ∀ n, scope.names.lookup (G.nmV n) = some .local → n ∈ T
 names : ∀ x ∈ scope.names, x.2 = .local → scope.names.lookup x.1 = some .local
 nd : ((clOf [] scope.names []).map (·.1)).Nodup
variable {G}
theorem CompS.clos {sc scope : Scope} {T : List Nat} {A : Around} {env : Env} {l : Loc} {ρ : Rh} {h : Heap} {m : PySem.Str → Option Value} (S : CompS G sc scope T) (E : EnvOk G sc A env l ρ h m) : closureFor scope env = pure (clOf env.cells scope.names []) :=
 closure_eq fun x hx => E.hasC x (by rw [E.scope]; exact S.free x hx)
theorem comp_env {sc scope : Scope} {T : List Nat} {A : Around} {env : Env} {l : Loc} {ρ : Rh} {s : Shared} {σ : St} {m m' : PySem.Str → Option Value} {h' : Heap} {C : Addr} (S : CompS G sc scope T) (E : EnvOk G sc A env l ρ s.heap m) (X : SR G ρ σ s.heap) (kp : ∀ b o, s.heap.get? b = some o → h'.get? b = some o)
 (hC : s.heap.objs.size ≤ C) (hn : h'.Ns C m') : EnvOkT G T (relabelS scope sc) A (compEnvC scope (clOf env.cells scope.names []) C env) l ρ h' m' := by
 have er := relabel_eq (scope := scope) E.scope
 have tp : Tups s.heap h' := fun a vs e => kp a _ e
 have hsc : sc.kind = .function := by rw [← E.scope]; exact E.kind
 have cellOfFree : ∀ x, (x, NameKind.free) ∈ scope.names → ∃ c, env.cells.lookup x = some c ∧ (clOf env.cells scope.names []).lookup x = some c := fun x hx => by
  obtain ⟨c, hc⟩ := E.hasC x (by rw [E.scope]; exact S.free x hx)
  exact ⟨c, hc, clOf_look hx hc⟩
 have kinds : ∀ x k, (relabelS scope sc).names.lookup x = some k → (k = .local ∧ scope.names.lookup x = some .local) ∨ (k = .cell ∧ (x, NameKind.free) ∈ scope.names) ∨ (k ≠ .local ∧ k ≠ .cell ∧ k ≠ .free) := by
  intro x k hk
  cases q : scope.names.lookup x with
  | none => rw [show (relabelS scope sc).names.lookup x = none from lookup_rel_none q] at hk; cases hk
  | some k0 =>
   rw [show (relabelS scope sc).names.lookup x = _ from lookup_rel q] at hk
   have hm := mem_of_lookup q
   by_cases e1 : k0 = .free
   · subst e1
     rw [S.free x hm, hsc] at hk
     cases (show k = .cell from (Option.some.inj hk).symm.trans rfl)
     exact .inr (.inl ⟨rfl, hm⟩)
   · have hb : (k0 == NameKind.free) = false := by rw [beq_eq_false_iff_ne]; exact e1
     rw [hb] at hk
     simp only [Bool.false_and, Bool.false_eq_true, if_false] at hk
     cases hk
     by_cases e2 : k = .local
     · subst e2; exact .inl ⟨rfl, rfl⟩
     · exact .inr (.inr ⟨e2, S.nocell _ hm, e1⟩)
 refine ⟨er, S.kind, E.blts, E.globs, hn, fun mm => absurd (X.mut_lt mm) (Nat.not_lt.mpr hC), fun x c hc => ?_, fun n v hnT hv => ?_, X.h0_lt hC, ?_, fun x hx => ?_, ?_⟩
 · have hc' : (clOf env.cells scope.names []).lookup x = some c := hc
   have hm : x ∈ (clOf env.cells scope.names []).map (·.1) := List.mem_map_of_mem (f := (·.1)) (mem_of_lookup hc')
   rcases clOf_names scope.names [] x hm with h | h
   · cases h
   · obtain ⟨c2, h1, h2⟩ := cellOfFree x h
     rw [hc'] at h2; cases h2
     obtain ⟨g1, o, v, g2, g3⟩ := E.offC x c h1
     exact ⟨g1, o, v, kp c o g2, g3⟩
 · obtain ⟨v', h1, h2, h3⟩ := E.look n v (by simp) hv
   refine ⟨v', h1.mono (Rle.refl _) tp, fun q => ?_, fun q => ?_⟩
   · have q' : (relabel scope env).names.lookup (G.nmV n) = some .local := q
     rw [er] at q'
     rcases kinds _ _ q' with ⟨_, h⟩ | ⟨h, _⟩ | ⟨h, _⟩
     · exact absurd (S.locs n h) hnT
     · cases h
     · exact absurd rfl h
   · have q' : (relabelS scope sc).names.lookup (G.nmV n) = some .cell ∨ (relabelS scope sc).names.lookup (G.nmV n) = some .free := by rw [← er]; exact q
     have hm : (G.nmV n, NameKind.free) ∈ scope.names := by
      rcases q' with q' | q'
      · rcases kinds _ _ q' with ⟨h, _⟩ | ⟨_, h⟩ | ⟨_, h, _⟩
        · cases h
        · exact h
        · exact absurd rfl h
      · rcases kinds _ _ q' with ⟨h, _⟩ | ⟨h, _⟩ | ⟨_, _, h⟩
        · cases h
        · cases h
        · exact absurd rfl h
     obtain ⟨c, g1, g2⟩ := cellOfFree _ hm
     have kc : env.kindOf (G.nmV n) = some .cell := by unfold Env.kindOf; rw [E.scope]; exact S.free _ hm
     obtain ⟨c', g3, g4⟩ := h3 (.inl kc)
     rw [g1] at g3; cases g3
     exact ⟨c, g2, g4.keeps kp⟩
 · show ((clOf env.cells scope.names []).map (·.1)).Nodup
   rw [clOf_fst (cells' := []) scope.names [] [] rfl]; exact S.nd
 · have hx' : (relabelS scope sc).names.lookup x = some .cell := by rw [← er]; exact hx
   rcases kinds _ _ hx' with ⟨h, _⟩ | ⟨_, h⟩ | ⟨_, h, _⟩
   · cases h
   · obtain ⟨c, _, g2⟩ := cellOfFree _ h; exact ⟨c, g2⟩
   · exact absurd rfl h
 · obtain ⟨fr, hl, h⟩ := E.stk
   refine ⟨fr, hl, fun e he => ?_⟩
   obtain ⟨hk, L, o, h1, h2, h3, h4, h5⟩ := h e he
   exact ⟨hk, L, o, h1, kp _ _ h2, h3, h4, h5⟩
theorem EnvOkT.reNs {T : List Nat} {sc : Scope} {A : Around} {env : Env} {l : Loc} {ρ ρ' : Rh} {s s' : Shared} {σ' : St} {m m' : PySem.Str → Option Value} (E : EnvOkT G T sc A env l ρ s.heap m) (P : Pst G ρ [env.locals] s ρ' s' σ') (hn : s'.heap.Ns env.locals m')
 (hT : ∀ n, env.kindOf (G.nmV n) = some .local → n ∈ T) (hF : ∀ fr, A.frames = some fr → ∀ e ∈ fr, e.frame ≠ some env.locals) : EnvOkT G T sc A env l ρ' s'.heap m' := by
 obtain ⟨oL, es, ep, hL, hd, _⟩ := E.ns
 have cellK : ∀ c v, ¬ Mut ρ c → (∃ o, s.heap.get? c = some o ∧ o.data = .cell v) → ∃ o, s'.heap.get? c = some o ∧ o.data = .cell v := by
  rintro c v nm ⟨o, ho, hv⟩
  obtain ⟨sl, h, _⟩ := P.keep c o ho nm (fun q => by
   rw [List.mem_singleton.mp q, hL] at ho; cases ho; rw [hd] at hv; cases hv)
  exact ⟨_, h, hv⟩
 refine ⟨E.scope, E.kind, E.blts, E.globs, hn, P.notm hL E.offL, fun x c hc => ?_, fun n v hnT hv => ?_, E.baseL, E.ndC, E.hasC, ?_⟩
 · obtain ⟨h1, o, v, h2, h3⟩ := E.offC x c hc
   obtain ⟨o', g1, g2⟩ := cellK c v h1 ⟨o, h2, h3⟩
   exact ⟨P.notm h2 h1, o', v, g1, g2⟩
 · obtain ⟨v', h1, h2, h3⟩ := E.look n v hnT hv
   refine ⟨v', h1.mono P.le P.tups, fun q => absurd (hT n q) hnT, fun q => ?_⟩
   obtain ⟨c, h4, h5⟩ := h3 q
   exact ⟨c, h4, cellK c _ (E.offC _ c h4).1 h5⟩
 · obtain ⟨fr, hl, h⟩ := E.stk
   obtain ⟨oL', es', ep', hL', hd', _⟩ := hn
   refine ⟨fr, hl, fun e he => ?_⟩
   obtain ⟨hk, L, o, h1, h2, h3, h4, h5⟩ := h e he
   by_cases q : L = env.locals
   · subst q
     exact absurd h1 (hF fr hl e he)
   · obtain ⟨sl, g, _⟩ := P.keep L o h2 h4 (fun z => q (List.mem_singleton.mp z))
     exact ⟨hk, L, _, h1, g, h3, P.notm h2 h4, h5⟩
end Mst
end
section
namespace Mst
open PySem PySem.W PyProof.Rows PySem.Calls PySem.SeqAt
variable {G : Gl} {Z : ER} [EOk0 G Z]
abbrev tests (ifs : List PySem.Expr) (env : Env) : Sem Bool := forIn ifs true fun c r => if r = true then do let ok ← isTrue c env (eval c env); pure (ForInStep.yield ok) else pure (ForInStep.yield r)
section
variable {prog : Program} {w : World} {A : Around} {R : Result → Shared → Prop}
theorem compLoop_any {elt target iter : PySem.Expr} {ifs : List PySem.Expr} {scope : Scope} {pos : Pos} {it acc : Value} {env : Env} (I : Nat → Shared → Prop)
 (turn : ∀ n s, I n s → wpAny (model prog w) A (pyNext it) (fun r s₁ => match r with
  | none => R (.ok .next) s₁
  | some v => wpAny (model prog w) A (letOwnedTupleGo target it v) (fun V s₁' => wpAny (model prog w) A (assign target env v) (fun V s₂ =>
   wpAny (model prog w) A (tests ifs env) (fun ok s₃ =>
    if ok = true then wpAny (model prog w) A (eval elt env) (fun x s₄ =>
     wpAny (model prog w) A (call (.builtin "list.append") [acc, x]) (fun V s₅ => ∃ m, m < n ∧ I m s₅) (fun V V => False) s₄) (fun V V => False) s₃
    else ∃ m, m < n ∧ I m s₃) (fun V V => False) s₂) (fun V V => False) s₁') (fun V V => False) s₁) (fun V V => False) s)
 (n : Nat) {s : Shared} (h : I n s) : codeAny (model prog w) A (.compLoop (.ListComp elt [⟨target, iter, ifs, 0⟩] scope pos) 0 it acc env) R s := by
 refine codeAny_loop rfl I (fun n s hI => ?_) n h
 show wpAny _ A ((compTurn (.ListComp elt [⟨target, iter, ifs, 0⟩] scope pos) 0 it acc env).onRaise (fun x => do noteFrame x env; theTreesLotGoes x)) _ _ s
 refine wpAny_noted ?_
 rw [compTurn_list]
 refine wpAny_bind (wpAny_standAt (wpAny_bind (wpAny_mono (turn n s hI) (fun r s₁ h₁ => ?_) fun V V h' => h'.elim)))
 cases r with
 | none => exact wpAny_pure h₁
 | some v =>
  refine wpAny_bind (wpAny_mono h₁ (fun V s₁' h₁' => ?_) fun V V h' => h'.elim)
  refine wpAny_bind (wpAny_mono h₁' (fun V s₂ h₂ => wpAny_bind (wpAny_mono h₂ (fun ok s₃ h₃ => ?_) fun V V h' => h'.elim)) fun V V h' => h'.elim)
  cases ok with
  | false => exact wpAny_pure ⟨rfl, h₃⟩
  | true =>
   exact wpAny_bind (wpAny_bind (wpAny_mono h₃ (fun x s₄ h₄ => wpAny_bind (wpAny_mono h₄ (fun V s₅ h₅ => wpAny_pure (wpAny_pure ⟨rfl, h₅⟩)) fun V V h' => h'.elim)) fun V V h' => h'.elim))
theorem compLoopD_any {kx vx target iter : PySem.Expr} {ifs : List PySem.Expr} {scope : Scope} {pos : Pos} {it : Value} {D : Addr} {env : Env} (I : Nat → Shared → Prop)
 (turn : ∀ n s, I n s → wpAny (model prog w) A (pyNext it) (fun r s₁ => match r with
  | none => R (.ok .next) s₁
  | some v => wpAny (model prog w) A (letOwnedTupleGo target it v) (fun V s₁' => wpAny (model prog w) A (assign target env v) (fun V s₂ =>
   wpAny (model prog w) A (tests ifs env) (fun ok s₃ =>
    if ok = true then wpAny (model prog w) A (eval kx env) (fun kv s₄ => wpAny (model prog w) A (eval vx env) (fun vv s₅ =>
     wpAny (model prog w) A (dictSet D kv vv) (fun V s₆ => ∃ m, m < n ∧ I m s₆) (fun V V => False) s₅) (fun V V => False) s₄) (fun V V => False) s₃
    else ∃ m, m < n ∧ I m s₃) (fun V V => False) s₂) (fun V V => False) s₁') (fun V V => False) s₁) (fun V V => False) s)
 (n : Nat) {s : Shared} (h : I n s) : codeAny (model prog w) A (.compLoop (.DictComp kx vx [⟨target, iter, ifs, 0⟩] scope pos) 0 it (.ref D) env) R s := by
 refine codeAny_loop rfl I (fun n s hI => ?_) n h
 show wpAny _ A ((compTurn (.DictComp kx vx [⟨target, iter, ifs, 0⟩] scope pos) 0 it (.ref D) env).onRaise (fun x => do noteFrame x env; theTreesLotGoes x)) _ _ s
 refine wpAny_noted ?_
 rw [compTurn_dict]
 refine wpAny_bind (wpAny_standAt (wpAny_bind (wpAny_mono (turn n s hI) (fun r s₁ h₁ => ?_) fun V V h' => h'.elim)))
 cases r with
 | none => exact wpAny_pure h₁
 | some v =>
  refine wpAny_bind (wpAny_mono h₁ (fun V s₁' h₁' => ?_) fun V V h' => h'.elim)
  refine wpAny_bind (wpAny_mono h₁' (fun V s₂ h₂ => wpAny_bind (wpAny_mono h₂ (fun ok s₃ h₃ => ?_) fun V V h' => h'.elim)) fun V V h' => h'.elim)
  cases ok with
  | false => exact wpAny_pure ⟨rfl, h₃⟩
  | true =>
   exact wpAny_bind (wpAny_bind (wpAny_mono h₃ (fun kv s₄ h₄ => wpAny_bind (wpAny_holding (wpAny_mono h₄ (fun vv s₅ h₅ => wpAny_bind (wpAny_standAt (wpAny_holding (wpAny_mono h₅ (fun V s₆ h₆ => wpAny_pure ⟨rfl, h₆⟩) fun V V h' => h'.elim)))) fun V V h' => h'.elim))) fun V V h' => h'.elim))
end
theorem ts_nil {sc : Scope} {n : Nat} : TrOk G Z sc (fun V s k => k (.bool true) s) n (fun env => tests [] env) :=
 fun V σ T F hk env A s ρ m E X R => wpAny_tests_nil ⟨σ, ρ, Pst.refl X, hk⟩
theorem ts_one {sc : Scope} {ev : Loc → St → (AV → St → B) → B} {n : Nat} {c : PySem.Expr} (h : TrOk G Z sc ev n (fun env => isTrue c env (eval c env))) : TrOk G Z sc ev n (fun env => tests [c] env) :=
 fun l σ T F hk env A s ρ m E X R => wpAny_tests_one (h l σ T F hk env A s ρ m E X R)
set_option tactic.hygienic true in
theorem Pst.adopt {ρ₀ ρ : Rh} {own : List Addr} {s₀ s : Shared} {n : Pth} {hh : HT} {D : Addr} {o : AO} {k : AV → St → B} (hk : allocK ⟨n, hh⟩ o k = true) (P : Pst G ρ₀ own s₀ ρ s ⟨n, hh⟩) (L : LooseA G ρ s.heap D) (hD : s₀.heap.get? D = none)
 (ho : OR G (Rh.ext ρ n (D, D)) s.heap D D o) : AlI (G := G) ρ₀ own s₀ (Rh.ext ρ n (D, D)) s s.heap n D k := by
 unfold allocK at hk
 obtain ⟨t, hk, t1, t2⟩ := HT.setK_some n hk
 have hk := Pth.succK_some hk
 have x := P.sr
 have fr : ρ n = none := x.free
 have le := Rle.ext (x := (D, D)) fr
 have low : ∀ p y, ρ p = some y → pIdx p ≠ pIdx n := fun p y e q => by rw [pIdx_inj q, fr] at e; cases e
 have inv : ∀ p y, Rh.ext ρ n (D, D) p = some y → (p = n ∧ y = (D, D)) ∨ ρ p = some y := by
  intro p y e
  unfold Rh.ext at e
  split at e
  · rename_i q; cases e; exact .inl ⟨pIdx_inj q, rfl⟩
  · exact .inr e
 obtain ⟨oD, hD', _⟩ := L.at'
 refine ⟨_, ⟨P.rest, ⟨x.base, ?_, ?_, ?_, ?_, ?_⟩, P.le.trans le, ?_, P.keep, P.live, P.tups, P.eps⟩, .ref Rh.ext_self, hk⟩
 · intro p o' hp
   by_cases q : p = n
   · subst q
     rw [t1] at hp; cases hp
     exact ⟨D, D, Rh.ext_self, ho⟩
   · rw [t2 p q] at hp
     obtain ⟨a', d', h1, h2⟩ := x.obj p o' hp
     exact ⟨a', d', le _ _ h1, h2.keeps le (fun V e => e) (fun V e => e) fun b vs e => e⟩
 · intro p y e
   rw [pIdx_succ]
   rcases inv p y e with ⟨rfl, _⟩ | e
   · exact Nat.lt_succ_self _
   · exact Nat.lt_succ_of_lt (x.fresh p y e)
 · intro p q b c d' hp hq
   rcases inv p _ hp with ⟨rfl, e1⟩ | hp'
   · rcases inv q _ hq with ⟨rfl, e2⟩ | hq'
     · rfl
     · cases e1; exact absurd ⟨q, c, hq'⟩ L.nM
   · rcases inv q _ hq with ⟨rfl, e2⟩ | hq'
     · cases e2; exact absurd ⟨p, b, hp'⟩ L.nM
     · exact x.inj p q b c d' hp' hq'
 · intro p b c hp
   rcases inv p _ hp with ⟨rfl, e1⟩ | hp'
   · cases e1; exact ⟨L.nH, L.nH⟩
   · exact x.apart p b c hp'
 · intro p b c hp
   rcases inv p _ hp with ⟨rfl, e1⟩ | hp'
   · cases e1; exact ⟨oD, hD'⟩
   · exact x.live p b c hp'
 · intro p b c hp
   rcases inv p _ hp with ⟨rfl, e1⟩ | hp'
   · cases e1; exact .inr hD
   · exact P.new p b c hp'
theorem LooseA.keep {ρ ρ' : Rh} {own : List Addr} {s s' : Shared} {σ' : St} {I : Addr} (L : LooseA G ρ s.heap I) (P : Pst G ρ own s ρ' s' σ') (h : I ∉ own) (nd : ∀ o, s.heap.get? I = some o → o.cls = .type "frame" → ∀ es ep, o.data ≠ .dict es ep) : LooseA G ρ' s'.heap I ∧ ∀ o, s.heap.get? I = some o → s'.heap.get? I = some o := by
 obtain ⟨oI, hI, dI⟩ := L.at'
 obtain ⟨sl, h1, h2⟩ := P.keep I oI hI L.nM h
 have e := h2 (nd oI hI)
 subst e
 exact ⟨⟨⟨oI, h1, dI⟩, P.notm hI L.nM, L.nH⟩, fun o e => by rw [hI] at e; cases e; exact h1⟩
end Mst
end
section
namespace Mst
open PySem PySem.W PyProof.Rows PySem.Calls PySem.SeqAt
variable {G : Gl} {Z : ER} [EOk0 G Z]
variable (G)
structure CFin (ρ : Rh) (s : Shared) (k : AV → St → B) (D C : Addr) (s' : Shared) : Prop where
 res : ∃ a σ' ρ', Pst G ρ [] s ρ' s' σ' ∧ V1 G ρ' s'.heap a (.ref D) ∧ k a σ' = true ∧ LooseA G ρ' s'.heap C
 new : s.heap.get? C = none
 ns : ∃ m, s'.heap.Ns C m
variable {G}
theorem LooseA.ofNs {ρ : Rh} {h : Heap} {C : Addr} {m : PySem.Str → Option Value} (hn : h.Ns C m) (nM : ¬ Mut ρ C) (nH : G.H0.get? C = none) : LooseA G ρ h C := by
 obtain ⟨o, es, ep, h1, h2, _⟩ := hn
 exact ⟨⟨o, h1, .dict h2⟩, nM, nH⟩
theorem CFin.post {A : Around} {ρ : Rh} {s : Shared} {k : AV → St → B} {D C : Addr} {s' : Shared} {E : Value → Shared → Prop} (x : CFin G ρ s k D C s') : compPost (model G.prog G.w) A E none (QE (G := G) ρ s k) (.ref D) C (.ok .next) s' := by
 obtain ⟨a, σ', ρ', P, hv, hk, L⟩ := x.res
 obtain ⟨m, hn⟩ := x.ns
 refine ⟨m, hn, fun h' hs => ⟨a, σ', ρ', P.but s'.toks L x.new (SameBut.kp hs), ?_, hk⟩⟩
 exact hv.mono (Rle.refl _) (P.sr.but L (SameBut.kp hs)).2
structure AccK (G : Gl) (AI : Rh → Heap → AV → Obj → Nat → Prop) : Prop where
 mono : ∀ {ρ ρ' : Rh} {h h' : Heap} {a : AV} {o : Obj} {i : Nat}, Rle ρ ρ' → Tups h h' → AI ρ h a o i → AI ρ' h' a o i
 up : ∀ {ρ : Rh} {h : Heap} {a : AV} {o : Obj} {i : Nat}, AI ρ h a o i → AI ρ h a o (i + 1)
 apart : ∀ {ρ : Rh} {h : Heap} {a : AV} {o : Obj} {i : Nat}, AI ρ h a o i → Apart o
 nf : ∀ {ρ : Rh} {h : Heap} {a : AV} {o : Obj} {i : Nat}, AI ρ h a o i → o.cls ≠ .type "frame"
 nc : ∀ {ρ : Rh} {h : Heap} {a : AV} {o : Obj} {i : Nat}, AI ρ h a o i → ∀ v, o.data ≠ .cell v
structure CFx (G : Gl) (A : Around) (T : List Nat) (e : Env) (I D C : Addr) (h : Heap) : Prop where
 loc : e.locals = C
 ID : I ≠ D
 IC : I ≠ C
 DC : D ≠ C
 zI : h.get? I = none
 zD : h.get? D = none
 zC : h.get? C = none
 nI : G.H0.get? I = none
 nD : G.H0.get? D = none
 nC : G.H0.get? C = none
 hT : ∀ n, e.kindOf (G.nmV n) = some .local → n ∈ T
 hF : ∀ fr, A.frames = some fr → ∀ x ∈ fr, x.frame ≠ some C
inductive CI (G : Gl) (A : Around) (T : List Nat) (sc : Scope) (e : Env) (l : Loc) (I D C : Addr) (src : AV) (AI : Rh → Heap → AV → Obj → Nat → Prop) (ρ₁ : Rh) (s₁ : Shared) (i : Nat) (acc : AV) (σ : St) (ρ : Rh) (s : Shared) : Prop
 | mk (m : PySem.Str → Option Value) (o : Obj) : Pst G ρ₁ [] s₁ ρ s σ → EnvOkT G T sc A e l ρ s.heap m → ItSt G ρ s.heap I src i → ¬ Mut ρ I → ¬ Mut ρ D → ¬ Mut ρ C → s.heap.get? D = some o → AI ρ s.heap acc o i → CI G A T sc e l I D C src AI ρ₁ s₁ i acc σ ρ s
inductive CJ (P : Nat → AV → St → Rh → Shared → Prop) (W : Nat → Nat → AV → St → B) (fuel f : Nat) (s : Shared) : Prop
 | mk (i : Nat) (acc : AV) (σ : St) (ρ : Rh) : P i acc σ ρ s → i + f = fuel → W f i acc σ = true → CJ P W fuel f s
inductive StR (G : Gl) (AI : Rh → Heap → AV → Obj → Nat → Prop) (D : Addr) (i : Nat) (ρ : Rh) (s : Shared) (K : AV → St → B) (s' : Shared) : Prop
 | mk (ρ' : Rh) (s₇ : Shared) (σ' : St) (h' : Heap) (tk : Nat) (acc : AV) (o : Obj) : Pst G ρ [] s ρ' s₇ σ' → s' = { s₇ with heap := h', toks := tk } → (∀ b o, b ≠ D → s₇.heap.get? b = some o → h'.get? b = some o) → h'.get? D = some o → AI ρ' h' acc o (i + 1) → K acc σ' = true → StR G AI D i ρ s K s'
noncomputable def StepOk (G : Gl) (A : Around) (sc : Scope) (e : Env) (D : Addr) (AI : Rh → Heap → AV → Obj → Nat → Prop) (step : Loc → St → AV → (AV → St → B) → B) (TW : (Shared → Prop) → Shared → Prop) : Prop :=
 ∀ (l : Loc) (σ : St) (acc : AV) (K : AV → St → B) (s : Shared) (ρ : Rh) (m : PySem.Str → Option Value) (o : Obj) (i : Nat), step l σ acc K = true → EnvOk G sc A e l ρ s.heap m → SR G ρ σ s.heap → s.heap.get? D = some o → ¬ Mut ρ D → G.H0.get? D = none → AI ρ s.heap acc o i → i ≤ 600 → TW (StR G AI D i ρ s K) s
section
variable {A : Around} {T : List Nat} {sc : Scope} {e : Env} {l : Loc} {I D C : Addr} {src : AV} {AI : Rh → Heap → AV → Obj → Nat → Prop} {ρ₁ : Rh} {s₁ : Shared}
theorem CI.carry (AK : AccK G AI) (F : CFx G A T e I D C s₁.heap) {i : Nat} {acc : AV} {ρ ρ₆ : Rh} {σ σ₆ : St} {s s₆ : Shared} {m m₆ : PySem.Str → Option Value} {o : Obj} (P : Pst G ρ₁ [] s₁ ρ s σ) (E : EnvOkT G T sc A e l ρ s.heap m) (it : ItSt G ρ s.heap I src i) (mI : ¬ Mut ρ I) (mD : ¬ Mut ρ D) (mC : ¬ Mut ρ C)
 (gD : s.heap.get? D = some o) (ha : AI ρ s.heap acc o i) (Q : Pst G ρ [C] s ρ₆ s₆ σ₆) (hn : s₆.heap.Ns C m₆) : CI G A T sc e l I D C src AI ρ₁ s₁ i acc σ₆ ρ₆ s₆ := by
 obtain ⟨oI, vI, gI, dI⟩ := it.at
 have LI : LooseA G ρ s.heap I := ⟨⟨oI, gI, .fields dI⟩, mI, F.nI⟩
 obtain ⟨LI₆, kI⟩ := LI.keep Q (by simp [F.IC]) (fun o g V es ep q => by rw [gI] at g; cases g; rw [dI] at q; cases q)
 have LD : LooseA G ρ s.heap D := ⟨⟨o, gD, AK.apart ha⟩, mD, F.nD⟩
 obtain ⟨LD₆, kD⟩ := LD.keep Q (by simp [F.DC]) (fun o2 g hc => by rw [gD] at g; cases g; exact absurd hc (AK.nf ha))
 obtain ⟨oc, esc, epc, gc, _⟩ := E.ns
 have hl := F.loc
 subst hl
 exact ⟨m₆, o, ((P.any (own' := [e.locals])).trans Q).drop fun b hb => .inr (by rw [List.mem_singleton.mp hb]; exact F.zC), E.reNs Q hn F.hT F.hF, it.keep Q.le Q.tups kI Q.eps, LI₆.nM, LD₆.nM, Q.notm gc mC, kD _ gD, AK.mono Q.le Q.tups ha⟩
theorem comp_turn (AK : AccK G AI) (F : CFx G A T e I D C s₁.heap) {n : Nat} (Rr : Rm A n) {evi : EVT} {tg : AV → Loc → (Loc → B) → B} {target : PySem.Expr} {ifs : List PySem.Expr} {step : Loc → St → AV → (AV → St → B) → B} {TW : (Shared → Prop) → Shared → Prop} {kf : AV → St → B} {fuel : Nat} (hfu : fuel ≤ 600)
 (tm : ∀ {Q Q' : Shared → Prop} {s : Shared}, (∀ s, Q s → Q' s) → TW Q s → TW Q' s) (hst : StepOk G A sc e D AI step TW)
 (ht : AsOkT G noE T [] sc (fun v l s k => tg v l fun l => k l s) n (fun env v => assign target env v)) (hi : TrOk G noE sc evi n (fun env => tests ifs env)) {fin : Shared → Prop}
 (hfin : ∀ i acc σ ρ s m o, Pst G ρ₁ [] s₁ ρ s σ → EnvOkT G T sc A e l ρ s.heap m → ¬ Mut ρ D → ¬ Mut ρ C → s.heap.get? D = some o → AI ρ s.heap acc o i → kf acc σ = true → fin s) (f : Nat) (s : Shared)
 (h : CJ (CI G A T sc e l I D C src AI ρ₁ s₁) (fun f i acc σ => compG G.T (fun l s t f => evi l s fun v s => tstK v (t s) (f s)) step tg src f i l acc σ kf) fuel f s) :
 wpAny (model G.prog G.w) A (pyNext (.ref I)) (fun r s₁' => match r with
  | none => fin s₁'
  | some v => wpAny (model G.prog G.w) A (letOwnedTupleGo target (.ref I) v) (fun V s₂ => wpAny (model G.prog G.w) A (assign target e v) (fun V s₃ => wpAny (model G.prog G.w) A (tests ifs e) (fun ok s₄ =>
   if ok = true then TW (fun s₅ => ∃ m, m < f ∧ CJ (CI G A T sc e l I D C src AI ρ₁ s₁) (fun f i acc σ => compG G.T (fun l s t f => evi l s fun v s => tstK v (t s) (f s)) step tg src f i l acc σ kf) fuel m s₅) s₄
   else ∃ m, m < f ∧ CJ (CI G A T sc e l I D C src AI ρ₁ s₁) (fun f i acc σ => compG G.T (fun l s t f => evi l s fun v s => tstK v (t s) (f s)) step tg src f i l acc σ kf) fuel m s₄) (fun V V => False) s₃) (fun V V => False) s₂) (fun V V => False) s₁') (fun V V => False) s := by
 generalize hW : (fun f i acc σ => compG G.T (fun l s t f => evi l s fun v s => tstK v (t s) (f s)) step tg src f i l acc σ kf) = W at h ⊢
 obtain ⟨i, acc, σ, ρ, ⟨m, o, P, E, it, mI, mD, mC, gD, ha⟩, hfe, hk⟩ := h
 cases f with
 | zero => subst hW; exact ff hk
 | succ f =>
  have hk' : nxtK G.T σ.h src i (kf acc σ) (fun v => tg v l fun l' => evi l' σ fun v s => tstK v (step l' s acc fun acc s => W f (i + 1) acc s) (W f (i + 1) acc s)) = true := by subst hW; exact hk
  clear hk hW
  generalize hN : W f (i + 1) = N at hk'
  obtain ⟨oI, vI, gI, dI⟩ := it.at
  have LI : Loose G e ρ s.heap I := ⟨⟨oI, vI, gI, dI⟩, mI, F.nI⟩
  refine wpAny_mono (nxt_ok Rr.handled it P.sr hk') (fun r s₃ q => ?_) fun V V z => z
  obtain ⟨h', tk, rfl, kp, q⟩ := q
  have P₃ := P.but tk LI.a F.zI kp
  have tp := (P.sr.but LI.a kp).2
  have E₃ := E.but LI kp tp
  have gD₃ : h'.get? D = some o := kp D _ (Ne.symm F.ID) gD
  have ha₃ := AK.mono (Rle.refl _) tp ha
  cases r with
  | none => exact hfin i acc σ ρ _ m o P₃ E₃ mD mC gD₃ ha₃ q
  | some v =>
   obtain ⟨a, hva, hka, it₃⟩ := q
   refine letGo_ok (s := { s with heap := h', toks := tk }) it₃ (wpAny_mono (ht a l σ (fun l' s => evi l' s fun v s => tstK v (step l' s acc fun acc s => N acc s) (N acc s)) hka e A _ ρ m v E₃ P₃.sr hva Rr) (fun V s₄ q => ?_) fun V V z => z)
   obtain ⟨σ₄, ρ₄, l₄, m₄, P₄, E₄, hk₄⟩ := q
   refine wpAny_mono (hi l₄ σ₄ (fun s => step l₄ s acc fun acc s => N acc s) (fun s => N acc s) hk₄ e A s₄ ρ₄ m₄ E₄ P₄.sr Rr) (fun ok s₅ q => ?_) fun V V z => z
   obtain ⟨σ₅, ρ₅, P₅, hk₅⟩ := q
   have hl := F.loc
   have ns : ∀ {ρ₆ : Rh} {s₆ : Shared} {σ₆ : St}, Pst G ρ₄ [] s₄ ρ₆ s₆ σ₆ → s₆.heap.Ns C m₄ := fun P₆ => by
    obtain ⟨o4, es4, ep4, g4, d4, r4⟩ := E₄.ns
    obtain ⟨sl, g6, _⟩ := P₆.keep _ _ g4 E₄.offL (by simp)
    exact ⟨{ o4 with slots := sl }, es4, ep4, by rw [← hl]; exact g6, d4, r4⟩
   have P₄' : Pst G ρ [C] { s with heap := h', toks := tk } ρ₄ s₄ σ₄ := by subst hl; exact P₄
   have go : ∀ {ρ₆ : Rh} {s₆ : Shared} {σ₆ : St}, Pst G ρ₄ [] s₄ ρ₆ s₆ σ₆ → CI G A T sc e l I D C src AI ρ₁ s₁ (i + 1) acc σ₆ ρ₆ s₆ := fun P₆ => CI.carry AK F P₃ E₃ it₃ mI mD mC gD₃ (AK.up ha₃) (P₄'.trans P₆.any) (ns P₆)
   cases ok with
   | false =>
    show ∃ m, m < f + 1 ∧ CJ _ W fuel m s₅
    exact ⟨f, Nat.lt_succ_self _, i + 1, acc, σ₅, ρ₅, go P₅, by omega, by rw [hN]; exact hk₅⟩
   | true =>
    show TW (fun s₅ => ∃ m, m < f + 1 ∧ CJ _ W fuel m s₅) s₅
    have LD : LooseA G ρ h' D := ⟨⟨o, gD₃, AK.apart ha₃⟩, mD, F.nD⟩
    obtain ⟨LD₅, kD₅⟩ := LD.keep (s := { s with heap := h', toks := tk }) (P₄'.trans P₅.any) (by simp [F.DC]) (fun o2 g hc => by rw [show h'.get? D = some o2 from g] at gD₃; cases gD₃; exact absurd hc (AK.nf ha₃))
    refine tm (fun s₆ q => ?_) (hst l₄ σ₅ acc N s₅ ρ₅ m₄ o i hk₅ (E₄.after P₅) P₅.sr (kD₅ _ gD₃) LD₅.nM F.nD (AK.mono (P₄'.trans P₅.any).le (P₄'.trans P₅.any).tups ha₃) (by omega))
    obtain ⟨ρ₇, s₇, σ₇, h₈, tk₈, acc', o', P₇, rfl, kp₈, g₈, ha₈, hk₈⟩ := q
    obtain ⟨m₆, o₆, Q1, Q2, Q3, Q4, Q5, Q6, Q7, Q8⟩ := go (P₅.trans P₇)
    have LD₇ : LooseA G ρ₇ s₇.heap D := ⟨⟨_, Q7, AK.apart Q8⟩, Q5, F.nD⟩
    have tp₈ := (Q1.sr.but LD₇ kp₈).2
    exact ⟨f, Nat.lt_succ_self _, i + 1, acc', σ₇, ρ₇, ⟨m₆, o', Q1.but tk₈ LD₇ F.zD kp₈, Q2.chg Q7 (hl ▸ Ne.symm F.DC) (AK.nc Q8) (fun q => AK.nf Q8 q.1) kp₈ tp₈,
     Q3.keep (Rle.refl _) tp₈ (fun o g => kp₈ I o F.ID g) (fun b hb => EpOk.same fun o g => kp₈ b o (fun q => Q5 (q ▸ hb)) g), Q4, Q5, Q6, g₈, ha₈⟩, by omega, by rw [hN]; exact hk₈⟩
end
end Mst
end
section
namespace Mst
open PySem PySem.W PyProof.Rows PySem.Calls PySem.SeqAt
variable {G : Gl} {Z : ER} [EOk0 G Z]
theorem DX.cls {ρ : Rh} {h : Heap} {l : AV} {o : Obj} {n : Nat} (x : DX G ρ h l o n) : o.cls = .type "dict" := by
 rcases x with ⟨kvs, ⟨es, ep, h1, _⟩, _⟩ | ⟨kvs, ⟨es, ep, h1, _⟩, _⟩ <;> exact h1.1
theorem DX.up {ρ : Rh} {h : Heap} {l : AV} {o : Obj} {n : Nat} (x : DX G ρ h l o n) : DX G ρ h l o (n + 1) := by
 rcases x with ⟨kvs, a, b, c⟩ | ⟨kvs, a, b, c⟩
 · exact .inl ⟨kvs, a, b, by omega⟩
 · exact .inr ⟨kvs, a, b, by omega⟩
theorem comp_gen (big : ∃ a o, sysModules ≤ a ∧ G.H0.get? a = some o) {sc scope : Scope} {TT : List Nat} {n : Nat} (Y : Cy G) (CS : CompS G sc scope TT) {AI : Rh → Heap → AV → Obj → Nat → Prop} (AK : AccK G AI) {evs evi : EVT} {tg : AV → Loc → (Loc → B) → B} {target iter : PySem.Expr} {ifs : List PySem.Expr} {ce : PySem.Expr} {cpos : Pos} {fuel : Nat}
 (hs : SrcOk G Z sc evs n (fun env => eval iter env)) (hf : ∀ env x, foldedSetIterable iter env x = pure x) (ht : AsOkT G noE TT [] (relabelS scope sc) (fun v l s k => tg v l fun l => k l s) n (fun env v => assign target env v))
 (hi : TrOk G noE (relabelS scope sc) evi n (fun env => tests ifs env)) (hcl : clausesOf ce = [⟨target, iter, ifs, 0⟩]) {l : Loc} {σ : St} {k : AV → St → B} {step : Loc → St → AV → (AV → St → B) → B} {mk : AV → AO} {TW : Env → Addr → (Shared → Prop) → Shared → Prop} {newAcc : Sem Value} {O : Obj}
 (hk : evs l σ (fun src s => srcK G.T s.h src fun src => compG G.T (fun l s t f => evi l s fun v s => tstK v (t s) (f s)) step tg src fuel 0 l .nil s fun r s => capK r (allocK s (mk r) k)) = true) (hfu : fuel ≤ 600)
 {env : Env} {A : Around} {s : Shared} {ρ : Rh} {m : PySem.Str → Option Value} (E : EnvOk G sc A env l ρ s.heap m) (X : SR G ρ σ s.heap) (Rr : Rm A n) {use : Option (Value → Sem Unit)} {Q : Value → Shared → Prop}
 (hO : O.isFreed = false) (hnew : ∀ {Q E s}, Q (.ref s.heap.objs.size) { s with heap := s.heap.push O } → wpAny (model G.prog G.w) A newAcc Q E s) (h0 : ∀ ρ h, AI ρ h .nil O 0) (hst : ∀ e D, StepOk G A (relabelS scope sc) e D AI step (TW e D)) (tm : ∀ {e D Q Q' s}, (∀ s, Q s → Q' s) → TW e D Q s → TW e D Q' s)
 (hOR : ∀ {ρ ρ' h acc o i D b}, AI ρ h acc o i → h.get? D = some o → (D == sysModules) = false → Rle ρ ρ' → capK acc b = true → b = true ∧ OR G ρ' h D D (mk acc))
 (hloop : ∀ {it : Value} {D : Addr} {e : Env} {Rz : Result → Shared → Prop} (I : Nat → Shared → Prop), (∀ n s, I n s → wpAny (model G.prog G.w) A (pyNext it) (fun r s₁ => match r with
  | none => Rz (.ok .next) s₁
  | some v => wpAny (model G.prog G.w) A (letOwnedTupleGo target it v) (fun V s₁' => wpAny (model G.prog G.w) A (assign target e v) (fun V s₂ => wpAny (model G.prog G.w) A (tests ifs e) (fun ok s₃ =>
   if ok = true then TW e D (fun s₅ => ∃ m, m < n ∧ I m s₅) s₃ else ∃ m, m < n ∧ I m s₃) (fun V V => False) s₂) (fun V V => False) s₁') (fun V V => False) s₁) (fun V V => False) s) → ∀ n {s : Shared}, I n s → codeAny (model G.prog G.w) A (.compLoop ce 0 it (.ref D) e) Rz s)
 (hstart : ∀ {it acc : Value} {e : Env} {Rz : Result → Shared → Prop} {s : Shared}, codeAny (model G.prog G.w) A (.compLoop ce 0 it acc e) Rz s → wpAny (model G.prog G.w) A (pyIter it) (fun it' s' => codeAny (model G.prog G.w) A (.compLoop ce 0 it' acc e) Rz s') (notedBy (model G.prog G.w) A e fun x s' => Rz (.error x) s') s → codeAny (model G.prog G.w) A (.compStart ce 0 it acc e) Rz s)
 (fin : ∀ D C s', CFin G ρ s k D C s' → compPost (model G.prog G.w) A (Z env A ρ s) use Q (.ref D) C (.ok .next) s') :
 wpAny (model G.prog G.w) A (comprehension ce scope env cpos newAcc false (eval iter env) use) Q (Z env A ρ s) s := by
 refine wpAny_comprehension_free hcl (hf env) (CS.clos E) CS.kind CS.names (wpAny_mono (hs l σ _ hk env A s ρ m E X Rr) (fun v s₁ q => ?_) fun V V e => e)
 obtain ⟨src0, σ₁, ρ₁, P₁, hv, hk₁⟩ := q
 refine wpAny_mono (iter_ok Y hv P₁.sr hk₁) (fun it s₂ q => ?_) fun V V e => e
 obtain ⟨src, oI, rfl, rfl, it, hk₂⟩ := q
 refine hnew (wpAny_newFunctionEnv CS.nocell (by intro y hy; simp at hy) (fun h₁ hns₁ hsb₁ => ?_) CS.kind)
 dsimp only at hns₁ hsb₁ ⊢
 have E₁ := E.after P₁
 have X₁ := P₁.sr
 generalize hH1 : s₁.heap.push oI = H1 at hns₁ hsb₁ it ⊢
 have sI : H1.objs.size = s₁.heap.objs.size + 1 := by rw [← hH1, Heap.size_push]
 have kp1 : ∀ b o, s₁.heap.get? b = some o → H1.get? b = some o := fun b o e => by rw [← hH1]; exact Heap.get?_push_of_some _ e
 generalize hH2 : H1.push O = H2 at hns₁ hsb₁ ⊢
 have sD : H2.objs.size = H1.objs.size + 1 := by rw [← hH2, Heap.size_push]
 have kp2 : ∀ b o, H1.get? b = some o → H2.get? b = some o := fun b o e => by rw [← hH2]; exact Heap.get?_push_of_some _ e
 have gD2 : H2.get? H1.objs.size = some O := by rw [← hH2]; exact Heap.get?_push_size _ hO
 have kp3 : ∀ b o, H2.get? b = some o → h₁.get? b = some o := fun b o e => hsb₁.extBut b o (Nat.ne_of_lt (Heap.lt_size e)) (Heap.get?_push_of_some _ e)
 have kpA : ∀ b o, s₁.heap.get? b = some o → h₁.get? b = some o := fun b o e => kp3 b o (kp2 b o (kp1 b o e))
 generalize hI : s₁.heap.objs.size = I at it sI ⊢
 generalize hD : H1.objs.size = D at sI sD gD2 ⊢
 generalize hC : H2.objs.size = C at sD hns₁ hsb₁ ⊢
 have zz : ∀ b, I ≤ b → s₁.heap.get? b = none := fun b hb => Heap.get?_none_of_le (by omega)
 have fresh : ∀ b, I ≤ b → ¬ Mut ρ₁ b := fun b hb mm => absurd (X₁.mut_lt mm) (Nat.not_lt.mpr (hI ▸ hb))
 have fH : ∀ b, I ≤ b → G.H0.get? b = none := fun b hb => X₁.h0_lt (hI ▸ hb)
 have iD : I ≤ D := by omega
 have iC : I ≤ C := by omega
 have s0 : s.heap.get? C = none := by
  cases q : s.heap.get? C with
  | none => rfl
  | some o => obtain ⟨o', h'⟩ := P₁.live C o q; rw [zz C iC] at h'; cases h'
 have ID : I ≠ D := by omega
 have IC : I ≠ C := by omega
 have DC : D ≠ C := by omega
 have F : CFx G A TT (compEnvC scope (clOf env.cells scope.names []) C env) I D C s₁.heap := by
  refine ⟨rfl, ID, IC, DC, zz I (Nat.le_refl _), zz D iD, zz C iC, fH I (Nat.le_refl _), fH D iD, fH C iC, fun n q => ?_, fun fr hl e he q => ?_⟩
  · have q' : (relabel scope env).names.lookup (G.nmV n) = some .local := q
    rw [relabel_eq E.scope] at q'
    cases z : scope.names.lookup (G.nmV n) with
    | none => rw [show (relabelS scope sc).names.lookup _ = none from lookup_rel_none z] at q'; cases q'
    | some k0 =>
     rw [show (relabelS scope sc).names.lookup _ = _ from lookup_rel z] at q'
     split at q'
     · cases q'
     · cases q'; exact CS.locs n z
  · obtain ⟨fr', hl', hh⟩ := E₁.stk
    rw [hl] at hl'; cases hl'
    obtain ⟨_, L, o, g1, g2, _⟩ := hh e he
    rw [g1] at q; cases q
    rw [zz C iC] at g2; cases g2
 have Ec : EnvOkT G TT (relabelS scope sc) A (compEnvC scope (clOf env.cells scope.names []) C env) l ρ₁ h₁ _ := comp_env CS E₁ X₁ kpA (by omega) hns₁
 have itS : ItSt G ρ₁ h₁ I src 0 := it.keep (Rle.refl _) (fun a vs e => kp3 _ _ (kp2 _ _ e)) (fun o e => kp3 _ _ (kp2 _ _ e)) fun b V => .same fun o e => kp3 _ _ (kp2 _ _ e)
 have hbig : (D == sysModules) = false := by
  obtain ⟨a, o, h1, h2⟩ := big
  have h3 := Heap.lt_size (X₁.base _ _ h2)
  rw [beq_eq_false_iff_ne]
  have h5 : s₁.heap.objs.size < D := by rw [hI]; omega
  exact Nat.ne_of_gt (Nat.lt_of_le_of_lt h1 (Nat.lt_trans h3 h5))
 have loop : codeAny (model G.prog G.w) A (.compLoop ce 0 (.ref I) (.ref D) (compEnvC scope (clOf env.cells scope.names []) C env)) (compPost (model G.prog G.w) A (Z env A ρ s) use Q (.ref D) C) { s₁ with heap := h₁, toks := s₁.toks + ([] : List (PySem.Str × Value)).length } :=
  hloop (CJ (CI G A TT (relabelS scope sc) (compEnvC scope (clOf env.cells scope.names []) C env) l I D C src AI ρ₁ s₁) (fun f i acc σ => compG G.T (fun l s t f => evi l s fun v s => tstK v (t s) (f s)) step tg src f i l acc σ fun r s => capK r (allocK s (mk r) k)) fuel)
   (comp_turn (l := l) (TW := TW (compEnvC scope (clOf env.cells scope.names []) C env) D) (kf := fun r s => capK r (allocK s (mk r) k)) (fin := fun s' => compPost (model G.prog G.w) A (Z env A ρ s) use Q (.ref D) C (.ok .next) s') AK F Rr hfu tm (hst _ D) ht hi fun i acc σ' ρ' s' m' o P E' mD mC gD ha q => by
    obtain ⟨nx, hh⟩ := σ'
    obtain ⟨q, ho⟩ := hOR ha gD hbig (Rle.ext (x := (D, D)) P.sr.free) q
    obtain ⟨σ₄, P₄, hv₄, hk₄⟩ := Pst.adopt q P ⟨⟨_, gD, AK.apart ha⟩, mD, F.nD⟩ F.zD ho
    refine fin D C _ ⟨⟨_, σ₄, _, P₁.trans P₄, hv₄, hk₄, LooseA.ofNs E'.ns ?_ F.nC⟩, s0, _, E'.ns⟩
    rintro ⟨p, a, hp⟩
    unfold Rh.ext at hp
    split at hp
    · exact F.DC (congrArg (·.2) (Option.some.inj hp))
    · exact mC ⟨p, a, hp⟩) fuel
   ⟨0, .nil, σ₁, ρ₁, ⟨_, O, Pst.grow _ X₁ kpA, Ec, itS, fresh I (Nat.le_refl _), fresh D iD, fresh C iC, kp3 _ _ gD2, h0 _ _⟩, by omega, hk₂⟩
 exact hstart loop (iter_self itS loop)
inductive AiL (G : Gl) (ρ : Rh) (h : Heap) (a : AV) (o : Obj) (i : Nat) : Prop
 | mk (vs : List Value) (n : Nat) : o = listOf vs.toArray n → V2 G ρ h a vs → vs.length ≤ i → AiL G ρ h a o i
theorem ack_list : AccK G (AiL G) where
 mono := fun le tp ⟨vs, n, h1, h2, h3⟩ => ⟨vs, n, h1, h2.mono le tp, h3⟩
 up := fun ⟨vs, n, h1, h2, h3⟩ => ⟨vs, n, h1, h2, Nat.le_succ_of_le h3⟩
 apart := fun ⟨vs, n, h1, _, _⟩ => h1 ▸ .list
 nf := fun ⟨vs, n, h1, _, _⟩ q => by rw [h1] at q; exact absurd (show (Value.type "list") = .type "frame" from q) (by decide)
 nc := fun ⟨vs, n, h1, _, _⟩ v q => by rw [h1] at q; cases q
theorem ack_dict : AccK G (DX G) where
 mono := fun le tp h => h.mono le tp
 up := fun h => h.up
 apart := fun h => h.apart
 nf := fun h q => absurd (h.cls.symm.trans q) (by decide)
 nc := fun h v q => by rcases h with ⟨_, ⟨es, ep, _, h1, _⟩, _⟩ | ⟨_, ⟨es, ep, _, h1, _⟩, _⟩ <;> (rw [h1] at q; cases q)
section
variable {A : Around} {n : Nat} {sc : Scope}
theorem step_list (Rr : Rm A n) {eve : EVT} {elt : PySem.Expr} (he : EvOk G noE sc eve n (fun env => eval elt env)) (e : Env) (D : Addr) : StepOk G A sc e D (AiL G) (fun l s acc k => eve l s fun v s => appV acc (.cons v .nil) fun acc => k acc s)
 (fun Q s => wpAny (model G.prog G.w) A (eval elt e) (fun x s₄ => wpAny (model G.prog G.w) A (call (.builtin "list.append") [.ref D, x]) (fun V s₅ => Q s₅) (fun V V => False) s₄) (fun V V => False) s) := by
 intro l σ acc K s ρ m o i hk E X gD mD nD ha hi
 obtain ⟨vs, nn, rfl, hv, hl⟩ := ha
 refine wpAny_mono (he l σ _ hk e A s ρ m E X Rr) (fun x s₆ q => ?_) fun V V z => z
 obtain ⟨ax, σ₆, ρ₆, P₆, hx, hk₆⟩ := q
 obtain ⟨LD, kD⟩ := LooseA.keep (G := G) ⟨⟨_, gD, .list⟩, mD, nD⟩ P₆ (by simp) (fun o g hc => by rw [gD] at g; cases g; exact absurd (show (Value.type "list") = .type "frame" from hc) (by decide))
 obtain ⟨r, hr, hk₇⟩ := appV_some (hv.mono P₆.le P₆.tups) (.cons hx .nil) hk₆
 refine wpAny_list_append_plain ⟨nn, kD _ gD⟩ (fun h₇ hl₇ hs₇ => ?_) (by rw [List.size_toArray, sizeLine_eq]; omega)
 obtain ⟨nn', g₇⟩ := hl₇
 refine ⟨ρ₆, s₆, σ₆, h₇, s₆.toks, r, _, P₆, rfl, SameBut.kp hs₇, g₇, ⟨vs ++ [x], nn', by rw [show (vs ++ [x]).toArray = vs.toArray.push x by simp], hr.mono (Rle.refl _) (P₆.sr.but LD (SameBut.kp hs₇)).2, ?_⟩, hk₇⟩
 rw [List.length_append, List.length_singleton]; omega
theorem step_dict {R : Orc} (hR : OrcOk G.ν R) (Y : Cy G) (Rr : Rm A n) {evk eve : EVT} {kx elt : PySem.Expr} (hkx : EvOk G noE sc evk n (fun env => eval kx env)) (he : EvOk G noE sc eve n (fun env => eval elt env)) (e : Env) (D : Addr) : StepOk G A sc e D (DX G) (fun l s acc k => evk l s fun q s => eve l s fun v s => dSet R acc q v fun acc => k acc s)
 (fun Q s => wpAny (model G.prog G.w) A (eval kx e) (fun kv s₄ => wpAny (model G.prog G.w) A (eval elt e) (fun vv s₅ => wpAny (model G.prog G.w) A (dictSet D kv vv) (fun V s₆ => Q s₆) (fun V V => False) s₅) (fun V V => False) s₄) (fun V V => False) s) := by
 intro l σ acc K s ρ m o i hk E X gD mD nD ha hi
 refine wpAny_mono (hkx l σ _ hk e A s ρ m E X Rr) (fun xq s₆ q => ?_) fun V V z => z
 obtain ⟨aq, σ₆, ρ₆, P₆, hq, hk₆⟩ := q
 refine wpAny_mono (he l σ₆ _ hk₆ e A s₆ ρ₆ m (E.after P₆) P₆.sr Rr) (fun xv s₇ q => ?_) fun V V z => z
 obtain ⟨av, σ₇, ρ₇, P₇, hv₇, hk₇⟩ := q
 have P := P₆.trans P₇
 obtain ⟨LD, kD⟩ := LooseA.keep (G := G) ⟨⟨_, gD, ha.apart⟩, mD, nD⟩ P (by simp) (fun o g hc => by rw [gD] at g; cases g; exact absurd (ha.cls.symm.trans hc) (by decide))
 refine dSet_wp hR Y (kD _ gD) (ha.mono P.le P.tups) (by omega) (hq.mono P₇.le P₇.tups) hv₇ (show dSet R acc aq av _ = true from hk₇) (fun k1 k2 k3 k4 => dictSet_ep k1 k2 k3 k4) fun h₈ acc' oD' g₈ hs₈ ee e3 hk₈ => ?_
 exact ⟨ρ₇, s₇, σ₇, h₈, s₇.toks + 1, acc', oD', P, rfl, SameBut.kp hs₈, g₈, e3.mono (Rle.refl _) (P.sr.but LD (SameBut.kp hs₈)).2, hk₈⟩
end
section
variable (big : ∃ a o, sysModules ≤ a ∧ G.H0.get? a = some o) {sc scope : Scope} {TT : List Nat} {n : Nat} (Y : Cy G) (CS : CompS G sc scope TT) {evs evi eve evk : EVT} {tg : AV → Loc → (Loc → B) → B} {kx elt target iter : PySem.Expr} {ifs : List PySem.Expr} {pos cpos : Pos} {fuel : Nat}
 (hs : SrcOk G Z sc evs n (fun env => eval iter env)) (hf : ∀ env x, foldedSetIterable iter env x = pure x) (ht : AsOkT G noE TT [] (relabelS scope sc) (fun v l s k => tg v l fun l => k l s) n (fun env v => assign target env v))
 (hi : TrOk G noE (relabelS scope sc) evi n (fun env => tests ifs env)) {l : Loc} {σ : St} {k : AV → St → B} (hfu : fuel ≤ 600) {env : Env} {A : Around} {s : Shared} {ρ : Rh} {m : PySem.Str → Option Value} (E : EnvOk G sc A env l ρ s.heap m) (X : SR G ρ σ s.heap) (Rr : Rm A n)
 {use : Option (Value → Sem Unit)} {Q : Value → Shared → Prop} (fin : ∀ D C s', CFin G ρ s k D C s' → compPost (model G.prog G.w) A (Z env A ρ s) use Q (.ref D) C (.ok .next) s')
include big Y CS hs hf ht hi hfu E X Rr fin
theorem comp_list (he : EvOk G noE (relabelS scope sc) eve n (fun env => eval elt env))
 (hk : evs l σ (fun src s => srcK G.T s.h src fun src => compG G.T (fun l s t f => evi l s fun v s => tstK v (t s) (f s)) (fun l s acc k => eve l s fun v s => appV acc (.cons v .nil) fun acc => k acc s) tg src fuel 0 l .nil s fun r s => newL s r k) = true) :
 wpAny (model G.prog G.w) A (comprehension (.ListComp elt [⟨target, iter, ifs, 0⟩] scope pos) scope env cpos (newList []) false (eval iter env) use) Q (Z env A ρ s) s :=
 comp_gen big Y CS ack_list hs hf ht hi rfl (mk := .list) hk hfu E X Rr rfl (fun h => wpAny_newObj_type h) (fun V V => ⟨[], 0, rfl, .nil, Nat.le_refl _⟩) (step_list Rr he) (fun f h => wpAny_mono h (fun V V h => wpAny_mono h (fun V V h => f _ h) fun V V z => z) fun V V z => z)
  (fun ha gD V le hc => by obtain ⟨vs, nn, rfl, hv, _⟩ := ha; obtain ⟨hz, hb⟩ := capK_some hv hc; exact ⟨hb, .list rfl gD (hv.mono le fun V V e => e) hz⟩) (fun I turn n V h => compLoop_any I turn n h) (fun h0 h => codeAny_compStart_list h0 h) fin
theorem comp_dict {R : Orc} (hR : OrcOk G.ν R) (hkx : EvOk G noE (relabelS scope sc) evk n (fun env => eval kx env)) (he : EvOk G noE (relabelS scope sc) eve n (fun env => eval elt env))
 (hk : evs l σ (fun src s => srcK G.T s.h src fun src => compG G.T (fun l s t f => evi l s fun v s => tstK v (t s) (f s)) (fun l s acc k => evk l s fun q s => eve l s fun v s => dSet R acc q v fun acc => k acc s) tg src fuel 0 l .nil s fun r s => capK r (allocK s (.dict r) k)) = true) :
 wpAny (model G.prog G.w) A (comprehension (.DictComp kx elt [⟨target, iter, ifs, 0⟩] scope pos) scope env cpos newDict false (eval iter env) use) Q (Z env A ρ s) s :=
 comp_gen big Y CS ack_dict hs hf ht hi rfl (mk := .dict) hk hfu E X Rr rfl (fun h => wpAny_newObj_type h) (fun V V => .inl ⟨[], ⟨#[], 0, ⟨rfl, rfl, rfl⟩, rfl, (fun e he => by simp at he), .nil, List.nodup_nil⟩, .nil, Nat.le_refl _⟩) (step_dict hR Y Rr hkx he)
  (fun f h => wpAny_mono h (fun V V h => wpAny_mono h (fun V V h => wpAny_mono h (fun V V h => f _ h) fun V V z => z) fun V V z => z) fun V V z => z)
  (fun ha gD hbig le hc => by obtain ⟨hz, hb⟩ := ha.cap hc; exact ⟨hb, (hz.mono le fun V V e => e).or gD hbig⟩) (fun I turn n V h => compLoopD_any I turn n h) (fun h0 h => codeAny_compStart_dict h0 h) fin
end
end Mst
end
section
namespace Mst
open PySem PySem.W PyProof.Rows PySem.Calls PySem.SeqAt
variable {G : Gl} {Z : ER} [EOk0 G Z]
theorem EnvOkT.butC {T : List Nat} {sc : Scope} {A : Around} {env : Env} {l : Loc} {ρ ρ₀ : Rh} {h h' h₀ : Heap} {m : PySem.Str → Option Value} {C : Addr} (E : EnvOkT G T sc A env l ρ h m) (st : Stk G A ρ₀ h₀) (hC : h₀.get? C = none)
 (hd : ∃ o es ep, h.get? C = some o ∧ o.data = .dict es ep) (nL : C ≠ env.locals) (kp : ∀ b o, b ≠ C → h.get? b = some o → h'.get? b = some o) (tp : Tups h h') : EnvOkT G T sc A env l ρ h' m := by
 obtain ⟨oC, esC, epC, gC, dC⟩ := hd
 obtain ⟨oL, es, ep, hL, hd, hr⟩ := E.ns
 refine ⟨E.scope, E.kind, E.blts, E.globs, ⟨oL, es, ep, kp _ _ (Ne.symm nL) hL, hd, hr⟩, E.offL, fun x c hc => ?_, fun k a hkT hka => ?_, E.baseL, E.ndC, E.hasC, ?_⟩
 · obtain ⟨h1, o, v, h2, h3⟩ := E.offC x c hc
   exact ⟨h1, o, v, kp c o (fun q => by rw [q, gC] at h2; cases h2; rw [dC] at h3; cases h3) h2, h3⟩
 · obtain ⟨v', h1, h2, h3⟩ := E.look k a hkT hka
   refine ⟨v', h1.mono (Rle.refl _) tp, h2, fun q => ?_⟩
   obtain ⟨c, h4, o, h5, h6⟩ := h3 q
   exact ⟨c, h4, o, kp c o (fun q => by rw [q, gC] at h5; cases h5; rw [dC] at h6; cases h6) h5, h6⟩
 · obtain ⟨fr, hl, hh⟩ := E.stk
   obtain ⟨fr', hl', hh'⟩ := st
   rw [hl] at hl'; cases hl'
   refine ⟨fr, hl, fun e he => ?_⟩
   obtain ⟨hk, L, o, h1, h2, h3, h4, h5⟩ := hh e he
   obtain ⟨_, L', o', g1, g2, _⟩ := hh' e he
   rw [h1] at g1; cases g1
   exact ⟨hk, L, o, h1, kp L o (fun q => by rw [q, hC] at g2; cases g2) h2, h3, h4, h5⟩
theorem CFin.store {sc : Scope} {n : Nat} {A : Around} {env : Env} {l : Loc} {ρ : Rh} {s s' : Shared} {m : PySem.Str → Option Value} {tg : AV → Loc → St → (Loc → St → B) → B} {kn : Loc → St → B} {D C : Addr} {t : PySem.Expr} {Q : Value → Shared → Prop}
 (ht : AsOk G Z sc tg n (fun env v => assign t env v)) (E : EnvOk G sc A env l ρ s.heap m) (R : Rm A n) (x : CFin G ρ s (fun v s => tg v l s kn) D C s')
 (hQ : ∀ s', (∃ σ' ρ' l' m', Pst G ρ (ownOf env) s ρ' s' σ' ∧ EnvOk G sc A env l' ρ' s'.heap m' ∧ kn l' σ' = true) → Q .none s') :
 compPost (model G.prog G.w) A (Z env A ρ s) (some fun v => assign t env v) Q (.ref D) C (.ok .next) s' := by
 obtain ⟨a, σ', ρ', P, hv, hk, L⟩ := x.res
 obtain ⟨mC, oC, es, ep, hC, hd, hr⟩ := x.ns
 refine wpAny_mono (ht a l σ' kn hk env A s' ρ' m _ (E.after P) P.sr hv R) (fun V s'' q => ?_) fun V V e => aft P e
 obtain ⟨σ₂, ρ₂, l₂, m₂, P₂, E₂, hk₂⟩ := q
 have nL : C ≠ env.locals := fun q => by
  obtain ⟨oL, _, _, hL, _⟩ := E.ns
  rw [← q, x.new] at hL; cases hL
 obtain ⟨sl, g, _⟩ := P₂.keep C oC hC L.nM (fun q => nL (List.mem_singleton.mp q))
 have L₂ : LooseA G ρ₂ s''.heap C := ⟨⟨_, g, .dict hd⟩, P₂.notm hC L.nM, L.nH⟩
 refine ⟨mC, ⟨_, es, ep, g, hd, hr⟩, fun h' hs => ?_⟩
 have P12 := (P.any (own' := ownOf env)).trans P₂
 refine hQ _ ⟨σ₂, ρ₂, l₂, m₂, P12.but s''.toks L₂ x.new (SameBut.kp hs), ?_, hk₂⟩
 exact E₂.butC E.stk x.new ⟨_, es, ep, g, hd⟩ nL (SameBut.kp hs) (P12.sr.but L₂ (SameBut.kp hs)).2
theorem ex_one {sc : Scope} {n : Nat} {exa : Loc → St → (Loc → St → B) → (AV → St → B) → (Loc → St → B) → B} {st : Stmt} (ha : ExOk G Z sc exa n (fun env => exec st env)) : ExOk G Z sc exa n (fun env => execs [st] env) := by
 intro l σ kn kr kc hk env A s ρ m hf E X R
 refine wpAny_execs_cons (wpAny_mono (ha l σ kn kr kc hk env A s ρ m hf E X R) (fun fl s₁ q => ?_) fun V V e => e)
 obtain ⟨σ₁, ρ₁, P, q⟩ := q
 cases fl with
 | next => exact wpAny_execs_nil ⟨σ₁, ρ₁, P, q⟩
 | ret v => exact ⟨σ₁, ρ₁, P, q⟩
 | cont => exact ⟨σ₁, ρ₁, P, q⟩
 | brk => exact q.elim
theorem ex_nil {sc : Scope} {n : Nat} : ExOk G Z sc (fun l s kn V V => kn l s) n (fun env => execs [] env) :=
 fun l σ kn kr kc hk env A s ρ m hf E X R => wpAny_execs_nil ⟨σ, ρ, Pst.refl X, l, m, E, hk⟩
theorem ex_cons [EOk G Z] {sc : Scope} {n : Nat} {exa exb : Loc → St → (Loc → St → B) → (AV → St → B) → (Loc → St → B) → B} {st : Stmt} {r : List Stmt} (ha : ExOk G Z sc exa n (fun env => exec st env)) (hb : ExOk G Z sc exb n (fun env => execs r env)) :
 ExOk G Z sc (fun l s kn kr kc => exa l s (fun l s => exb l s kn kr kc) kr kc) n (fun env => execs (st :: r) env) := by
 intro l σ kn kr kc hk env A s ρ m hf E X R
 refine wpAny_execs_cons (wpAny_mono (ha l σ _ kr kc hk env A s ρ m hf E X R) (fun fl s₁ q => ?_) fun V V e => e)
 obtain ⟨σ₁, ρ₁, P, q⟩ := q
 cases fl with
 | next =>
  obtain ⟨l₁, m₁, E₁, hk₁⟩ := q
  refine wpAny_mono (hb l₁ σ₁ kn kr kc hk₁ env A s₁ ρ₁ m₁ hf E₁ P.sr R) (fun fl s₂ q => ?_) fun V V e => EOk.afterO P e
  obtain ⟨σ₂, ρ₂, P₂, q⟩ := q
  exact ⟨σ₂, ρ₂, P.trans P₂, q⟩
 | ret v => exact ⟨σ₁, ρ₁, P, q⟩
 | cont => exact ⟨σ₁, ρ₁, P, q⟩
 | brk => exact q.elim
theorem ex_ret {sc : Scope} {n : Nat} {ev : Loc → St → (AV → St → B) → B} {e : PySem.Expr} {p : Pos} (h : EvOk G Z sc ev n (fun env => eval e env)) : ExOk G Z sc (fun l s V kr V => ev l s kr) n (fun env => exec (.Return (some e) p) env) := by
 intro l σ kn kr kc hk env A s ρ m hf E X R
 refine wpAny_Return_some (wpAny_mono (h l σ kr hk env A s ρ m E X R) (fun v s₁ q => ?_) fun V V e => e)
 obtain ⟨a, σ₁, ρ₁, P, hv, hk₁⟩ := q
 exact ⟨σ₁, ρ₁, P.any, a, hv, hk₁⟩
theorem ex_retN {sc : Scope} {n : Nat} {p : Pos} : ExOk G Z sc (fun V s V kr V => kr .none s) n (fun env => exec (.Return none p) env) :=
 fun l σ kn kr kc hk env A s ρ m hf E X R => wpAny_Return_none ⟨σ, ρ, Pst.refl X, .none, .none, hk⟩
theorem ex_pass {sc : Scope} {n : Nat} {p : Pos} : ExOk G Z sc (fun l s kn V V => kn l s) n (fun env => exec (.Pass p) env) :=
 fun l σ kn kr kc hk env A s ρ m hf E X R => wpAny_bind (wpAny_standAt (wpAny_pure ⟨σ, ρ, Pst.refl X, l, m, E, hk⟩))
theorem ex_cont {sc : Scope} {n : Nat} {p : Pos} : ExOk G Z sc (fun l s V V kc => kc l s) n (fun env => exec (.Continue p) env) :=
 fun l σ kn kr kc hk env A s ρ m hf E X R => wpAny_bind (wpAny_standAt (wpAny_pure ⟨σ, ρ, Pst.refl X, l, m, E, hk⟩))
theorem ex_ex {sc : Scope} {n : Nat} {ev : Loc → St → (AV → St → B) → B} {e : PySem.Expr} {p : Pos} (hsc : sc.kind = .function) (hsw : ∀ env, swapsWith e none p.line env = pure false) (h : EvOk G Z sc ev n (fun env => eval e env)) :
 ExOk G Z sc (fun l s kn V V => ev l s fun V s => kn l s) n (fun env => exec (.Expr e p) env) := by
 intro l σ kn kr kc hk env A s ρ m hf E X R
 refine wpAny_Expr_any (wpAny_mono (h l σ _ hk env A s ρ m E X R) (fun v s₁ q => ?_) fun V V e => e) (by unfold interactive; rw [E.kind]; rfl) (hsw env)
 obtain ⟨a, σ₁, ρ₁, P, hv, hk₁⟩ := q
 exact ⟨σ₁, ρ₁, P.any, l, m, E.after P, hk₁⟩
theorem ex_iff {sc : Scope} {n : Nat} {ev : Loc → St → (AV → St → B) → B} {exa exb : Loc → St → (Loc → St → B) → (AV → St → B) → (Loc → St → B) → B} {e : PySem.Expr} {a b : List Stmt} {p : Pos} (h : TrOk G Z sc ev n (fun env => isTrue e env (eval e env)))
 (ha : ExOk G Z sc exa n (fun env => execs a env)) (hb : ExOk G Z sc exb n (fun env => execs b env)) :
 ExOk G Z sc (fun l s kn kr kc => ev l s fun v s => tstK v (exa l s kn kr kc) (exb l s kn kr kc)) n (fun env => exec (.If e a b p) env) := by
 intro l σ kn kr kc hk env A s ρ m hf E X R
 refine wpAny_If (wpAny_mono (h l σ (fun s => exa l s kn kr kc) (fun s => exb l s kn kr kc) hk env A s ρ m E X R) (fun c s₁ q => ?_) fun V V e => e)
 obtain ⟨σ₁, ρ₁, P, hk₁⟩ := q
 have fin : ∀ fl s₂, QX G sc A env ρ₁ s₁ kn kr kc fl s₂ → QX G sc A env ρ s kn kr kc fl s₂ := fun fl s₂ ⟨σ₂, ρ₂, P₂, q⟩ => ⟨σ₂, ρ₂, P.any.trans P₂, q⟩
 cases c with
 | true => exact wpAny_mono (ha l σ₁ kn kr kc hk₁ env A s₁ ρ₁ m hf (E.after P) P.sr R) (fun fl s₂ q => fin fl s₂ q) fun V V e => aft P e
 | false => exact wpAny_mono (hb l σ₁ kn kr kc hk₁ env A s₁ ρ₁ m hf (E.after P) P.sr R) (fun fl s₂ q => fin fl s₂ q) fun V V e => aft P e
theorem ex_asn {sc : Scope} {n : Nat} {ev : Loc → St → (AV → St → B) → B} {tg : AV → Loc → St → (Loc → St → B) → B} {e t : PySem.Expr} {p : Pos} (hn : notStar t = true) (h : EvOk G Z sc ev n (fun env => eval e env)) (ht : AsOk G Z sc tg n (fun env v => assign t env v))
 (h1 : ∀ env : Env, env.scope = sc → swapsWithSole [t] e p.line env = pure false) (h2 : ∀ env : Env, env.scope = sc → swappedStores [t] e env = pure none) :
 ExOk G Z sc (fun l s kn V V => ev l s fun v s => tg v l s kn) n (fun env => exec (.Assign [t] e p) env) := by
 intro l σ kn kr kc hk env A s ρ m hf E X R
 show wpAny _ _ (exec (.Assign [t] e p) env) _ _ _
 rw [exec_Assign]
 refine wpAny_bind (wpAny_standAt ?_)
 rw [h1 env E.scope]
 refine wpAny_bind (wpAny_pure ?_)
 rw [if_neg (by decide)]
 refine wpAny_bind (wpAny_mono (h l σ _ hk env A s ρ m E X R) (fun v s₁ q => ?_) fun V V e => e)
 obtain ⟨a, σ₁, ρ₁, P, hv, hk₁⟩ := q
 rw [h2 env E.scope]
 refine wpAny_bind (wpAny_pure ?_)
 have e1 : (assignEach [t] env).map (·.2) = [assign t env] := by rw [assignEach_cons hn]; rfl
 show wpAny _ _ (do assignAll v ((assignEach [t] env).map (·.2)); pure Flow.next) _ _ _
 rw [e1]
 refine wpAny_bind (wpAny_mono (ht a l σ₁ kn hk₁ env A s₁ ρ₁ m v (E.after P) P.sr hv R) (fun V s₂ q => ?_) fun V V e => aft P e)
 obtain ⟨σ₂, ρ₂, l₂, m₂, P₂, E₂, hk₂⟩ := q
 exact wpAny_pure ⟨σ₂, ρ₂, (P.any (own' := ownOf env)).trans P₂, l₂, m₂, E₂, hk₂⟩
theorem ex_asnC {sc scope : Scope} {n : Nat} {e : PySem.Expr} {t : PySem.Expr} {p : Pos} {g : Comprehension} {cpos : Pos} {acc : Sem Value} {ev : Loc → St → (AV → St → B) → B} {tg : AV → Loc → St → (Loc → St → B) → B} (hn : notStar t = true) (ht : AsOk G Z sc tg n (fun env v => assign t env v))
 (h1 : ∀ env : Env, env.scope = sc → swapsWithSole [t] e p.line env = pure true)
 (hu : ∀ env u, evalThenUse e env u = (do let _ ← comprehension e scope env cpos acc false (eval g.iter env) (some u)))
 (core : ∀ {l : Loc} {σ : St} {k : AV → St → B}, ev l σ k = true → ∀ {env : Env} {A : Around} {s : Shared} {ρ : Rh} {m : PySem.Str → Option Value}, EnvOk G sc A env l ρ s.heap m → SR G ρ σ s.heap → Rm A n → ∀ {use : Option (Value → Sem Unit)} {Q : Value → Shared → Prop},
  (∀ D C s', CFin G ρ s k D C s' → compPost (model G.prog G.w) A (Z env A ρ s) use Q (.ref D) C (.ok .next) s') → wpAny (model G.prog G.w) A (comprehension e scope env cpos acc false (eval g.iter env) use) Q (Z env A ρ s) s) :
 ExOk G Z sc (fun l s kn V V => ev l s fun v s => tg v l s kn) n (fun env => exec (.Assign [t] e p) env) := by
 intro l σ kn kr kc hk env A s ρ m hf E X R
 show wpAny _ _ (exec (.Assign [t] e p) env) _ _ _
 rw [exec_Assign]
 refine wpAny_bind (wpAny_standAt ?_)
 rw [h1 env E.scope]
 refine wpAny_bind (wpAny_pure ?_)
 rw [if_pos rfl]
 have e1 : (assignEach [t] env).map (·.2) = [assign t env] := by rw [assignEach_cons hn]; rfl
 rw [e1, hu]
 refine wpAny_bind (wpAny_bind ?_)
 refine core hk E X R (use := some fun v => assignAll v [assign t env]) fun D C s' x => ?_
 refine CFin.store ht E R x fun s' q => ?_
 obtain ⟨σ₂, ρ₂, l₂, m₂, P₂, E₂, hk₂⟩ := q
 exact wpAny_pure (wpAny_pure ⟨σ₂, ρ₂, P₂, l₂, m₂, E₂, hk₂⟩)
end Mst
end
section
namespace Mst
open PySem PySem.W PyProof.Rows PySem.Calls PySem.SeqAt
variable {G : Gl} {Z : ER} [EOk0 G Z]
section
variable {M : Model} {A : Around} {E : Value → Shared → Prop}
theorem store_all {env : Env} (hf : env.scope.kind = .function) : ∀ (ps : List (PySem.Str × Value)) (s : Shared) (m : PySem.Str → Option Value) (Q : Unit → Shared → Prop), (∀ x ∈ ps, env.kindOf x.1 = some .local) → s.heap.Ns env.locals m →
 (∀ h' tk m', h'.Ns env.locals m' → Heap.SameBut env.locals s.heap h' → (∀ o, s.heap.get? env.locals = some o → ∃ o', h'.get? env.locals = some o' ∧ o'.cls = o.cls) → (∀ y, m' y = (ps.reverse.lookup y).or (m y)) → Q () { s with heap := h', toks := tk }) →
 wpAny M A (assignInOrder ((ps.map (·.1)).map fun n => bindName env n) (ps.map (·.2))) Q E s
 | [], s, m, Q, _, hn, hQ => wpAny_pure (hQ s.heap s.toks m hn (Heap.SameBut.refl ..) (fun o e => ⟨o, e, rfl⟩) fun y => by simp)
 | (n, v) :: ps, s, m, Q, hk, hn, hQ => by
  show wpAny _ _ (do holding (ps.map (·.2)) (bindName env n v); assignInOrder ((ps.map (·.1)).map fun n => bindName env n) (ps.map (·.2))) _ _ _
  refine wpAny_bind (wpAny_holding (wpAny_bindName (storeName_C (hk (n, v) List.mem_cons_self) hn (fun h' hn' hs' hcl => ?_) (by rw [hf]; rfl))))
  refine store_all hf ps _ _ Q (fun x hx => hk x (List.mem_cons_of_mem _ hx)) hn' fun h'' tk m'' hn'' hs'' hcl' hm => ?_
  refine hQ h'' tk m'' hn'' (hs'.trans hs'') (fun o e => let ⟨o', g1, g2⟩ := hcl o e; let ⟨o'', g3, g4⟩ := hcl' o' g1; ⟨o'', g3, g4.trans g2⟩) fun y => ?_
  rw [hm y, List.reverse_cons, List.lookup_append, Option.or_assoc]
  congr 1
  simp only [List.lookup_cons, List.lookup_nil]
  by_cases e : y = n
  · subst e; simp
  · have : (y == n) = false := by rw [beq_eq_false_iff_ne]; exact e
    rw [this]; simp [e]
end
noncomputable def tNs (cs : List Nat) : X := cs.foldr (fun n b => .cons (.tName n) b) .nil
theorem tNs_len {cs : List Nat} : cs.length = lenX (tNs cs) := by
 induction cs with
 | nil => rfl
 | cons a l ih => exact congrArg (· + 1) ih
inductive AsR (G : Gl) (ρ : Rh) (h : Heap) (cs : List Nat) (vs : List Value) (l : Loc) (k : Loc → B) : Prop
 | mk (l' : Loc) : k l' = true → (∀ n a, l'.get n = some a → (n ∈ cs ∧ ∃ v, ((cs.map G.nmV).zip vs).lookup (G.nmV n) = some v ∧ V1 G ρ h a v) ∨ (n ∉ cs ∧ l.get n = some a)) → AsR G ρ h cs vs l k
theorem asgN_some {T : Tabs} {R : Orc} {H : Nat → AV → AV → St → (AV → St → B) → B} {E0 : X → Loc → St → (AV → St → B) → B} (Y : Cy G) {ρ : Rh} {h : Heap} {s : St} {kn : Loc → St → B} {av : AV} {vs : List Value} (x : LR (V1 G ρ h) av vs) : ∀ {cs : List Nat} {l : Loc}, cs.Nodup → asg T R H E0 (tNs cs) av l s kn = true → AsR G ρ h cs vs l fun l => kn l s := by
 induction x with
 | nil =>
  intro cs l nd hk
  cases cs with
  | nil => exact ⟨l, hk, fun n a q => .inr ⟨List.not_mem_nil, q⟩⟩
  | cons => exact ff hk
 | @cons x m v vs hx _ ih =>
  intro cs l nd hk
  cases cs with
  | nil => exact ff hk
  | cons c cs =>
   rw [List.nodup_cons] at nd
   obtain ⟨l1, hk1, g1, g2⟩ := Loc.setK_some (show l.setK c x (fun l => asg T R H E0 (tNs cs) m l s kn) = true from hk)
   obtain ⟨l', hk2, q⟩ := ih nd.2 hk1
   refine ⟨l', hk2, fun n a hn => ?_⟩
   rw [List.map_cons, List.zip_cons_cons, List.lookup_cons]
   by_cases e : n = c
   · subst e
     rw [beq_self_eq_true]
     rcases q n a hn with ⟨h2, _⟩ | ⟨_, h3⟩
     · exact absurd h2 nd.1
     · rw [g1] at h3; cases h3
       exact .inl ⟨List.mem_cons_self, v, rfl, hx⟩
   · rw [show (G.nmV n == G.nmV c) = false from by rw [beq_eq_false_iff_ne]; intro z; exact e (Y.injV _ _ z)]
     rcases q n a hn with ⟨h2, h3⟩ | ⟨h2, h3⟩
     · exact .inl ⟨List.mem_cons_of_mem _ h2, h3⟩
     · rw [g2 n e] at h3
       exact .inr ⟨fun q => (List.mem_cons.mp q).elim e h2, h3⟩
theorem ex_asnB {sc : Scope} {n : Nat} (Y : Cy G) {T : Tabs} {R : Orc} {H : Nat → AV → AV → St → (AV → St → B) → B} {E0 : X → Loc → St → (AV → St → B) → B} {ev : Loc → St → (AV → St → B) → B} {cs : List Nat} {es : List PySem.Expr} {c : Nat} {tp p : Pos} {e : PySem.Expr} {names : List PySem.Str}
 (nd : cs.Nodup) (hnm : names = cs.map G.nmV) (hkind : ∀ k ∈ cs, sc.names.lookup (G.nmV k) = some .local) (h : EvOk G Z sc ev n (fun env => eval e env))
 (h1 : ∀ env : Env, env.scope = sc → swapsWithSole [.Tuple es c tp] e p.line env = pure false) (h2 : ∀ env : Env, env.scope = sc → swappedStores [.Tuple es c tp] e env = pure (some names)) :
 ExOk G Z sc (fun l s kn V V => ev l s fun v s => asg T R H E0 (.tTup (tNs cs)) v l s kn) n (fun env => exec (.Assign [.Tuple es c tp] e p) env) := by
 intro l σ kn kr kc hk env A s ρ m hf E X Rr
 show wpAny _ _ (exec (.Assign [.Tuple es c tp] e p) env) _ _ _
 rw [exec_Assign]
 refine wpAny_bind (wpAny_standAt ?_)
 rw [h1 env E.scope]
 refine wpAny_bind (wpAny_pure ?_)
 rw [if_neg (by decide)]
 refine wpAny_bind (wpAny_mono (h l σ _ hk env A s ρ m E X Rr) (fun v s₁ q => ?_) fun V V e => e)
 obtain ⟨a, σ₁, ρ₁, P, hv, hk₁⟩ := q
 rw [h2 env E.scope]
 refine wpAny_bind (wpAny_pure ?_)
 show wpAny _ _ (do rule "assign.swapped-stores"; let items ← unpackItems v names.length none; assignInOrder (names.reverse.map fun n => bindName env n) items.reverse; pure Flow.next) _ _ _
 refine wpAny_bind (wpAny_rule (wpAny_bind ?_))
 have E₁ := E.after P
 have X₁ := P.sr
 have fin : ∀ (vs : List Value) (la : AV) (h' : Heap), V2 G ρ₁ s₁.heap la vs → lenX (tNs cs) = vs.length → asg T R H E0 (tNs cs) la l σ₁ kn = true → Heap.ExtBut s₁.heap.objs.size s₁.heap h' →
  wpAny (model G.prog G.w) A (do assignInOrder (names.reverse.map fun n => bindName env n) vs.reverse; pure Flow.next) (QX G sc A env ρ s kn kr kc) (Z env A ρ s) { s₁ with heap := h' } := by
  intro vs la h' hvs hl hk2 he
  have kp : ∀ b o, s₁.heap.get? b = some o → h'.get? b = some o := fun b o e => he b o (Nat.ne_of_lt (Heap.lt_size e)) e
  have P₂ : Pst G ρ₁ [] s₁ ρ₁ { s₁ with heap := h' } σ₁ := Pst.grow s₁.toks X₁ kp
  have E₂ := E₁.after P₂
  have hvs₂ := hvs.mono (Rle.refl _) P₂.tups
  obtain ⟨l', hkn, hl'⟩ := asgN_some Y (V2.lr hvs₂) nd hk2
  have lc : cs.length = lenX (tNs cs) := tNs_len
  have ln : names.length = vs.length := by rw [hnm, List.length_map, lc, hl]
  have e1 : names.reverse = ((names.zip vs).reverse.map (·.1)) := by rw [List.map_reverse, List.map_fst_zip (Nat.le_of_eq ln)]
  have e2 : vs.reverse = ((names.zip vs).reverse.map (·.2)) := by rw [List.map_reverse, List.map_snd_zip (Nat.le_of_eq ln.symm)]
  rw [e1, e2]
  refine wpAny_bind (store_all E.kind _ _ m _ (fun x hx => ?_) E₂.ns fun h'' tk m' hn hs hcl hm => wpAny_pure ?_)
  · have := (List.of_mem_zip (List.mem_reverse.mp hx)).1
    rw [hnm] at this
    obtain ⟨k, hk, e⟩ := List.mem_map.mp this
    rw [← e]
    unfold Env.kindOf; rw [E.scope]; exact hkind k hk
  · obtain ⟨oL, es', ep, hL, hd, _⟩ := E₂.ns
    obtain ⟨oL', es'', ep', hL', hd', _⟩ := id hn
    have keep : ∀ c o, c ≠ env.locals → h'.get? c = some o → h''.get? c = some o := SameBut.kp hs
    have P₃ : Pst G ρ₁ (ownOf env) { s₁ with heap := h' } ρ₁ { s₁ with heap := h'', toks := tk } σ₁ := Pst.touch tk P₂.sr hL (.dict hd) E₂.offL E₂.baseL List.mem_cons_self keep ⟨_, hL'⟩
    refine ⟨σ₁, ρ₁, ((P.trans P₂).any (own' := ownOf env)).trans P₃, l', m', ⟨E₂.scope, E₂.kind, E₂.blts, E₂.globs, hn, E₂.offL, fun x c hc => ?_, fun k a V hka => ?_, E₂.baseL, E₂.ndC, E₂.hasC, E₂.stk.touch keep fun o e nf => by
     obtain ⟨o', g1, g2⟩ := hcl o e
     rw [hL'] at g1; cases g1
     exact ⟨_, hL', g2.trans nf.1, _, _, hd'⟩⟩, hkn⟩
    · obtain ⟨g1, o, v', g2, g3⟩ := E₂.offC x c hc
      exact ⟨g1, o, v', keep c o (fun e => by rw [e, hL] at g2; cases g2; rw [hd] at g3; cases g3) g2, g3⟩
    · rcases hl' k a hka with ⟨g1, v', g2, g3⟩ | ⟨g1, g2⟩
      · refine ⟨v', g3.mono (Rle.refl _) P₃.tups, fun V => ?_, fun q => ?_⟩
        · rw [hm, List.reverse_reverse, hnm, g2]; rfl
        · have : env.kindOf (G.nmV k) = some .local := by unfold Env.kindOf; rw [E.scope]; exact hkind k g1
          rw [this] at q; rcases q with q | q <;> cases q
      · obtain ⟨v', f1, f2, f3⟩ := E₂.look k a (by simp) g2
        refine ⟨v', f1.mono (Rle.refl _) P₃.tups, fun q => ?_, fun q => ?_⟩
        · rw [hm, List.reverse_reverse, hnm]
          have : ((cs.map G.nmV).zip vs).lookup (G.nmV k) = none := by
           refine lookup_zip_take fun q => g1 ?_
           obtain ⟨j, hj, e⟩ := List.mem_map.mp (List.mem_of_mem_take q)
           rw [← Y.injV _ _ e]; exact hj
          rw [this, Option.none_or]
          exact f2 q
        · obtain ⟨cc, f4, o, f5, f6⟩ := f3 q
          exact ⟨cc, f4, o, keep cc o (fun e => by rw [e, hL] at f5; cases f5; rw [hd] at f6; cases f6) f5, f6⟩
 have ln : lenX (tNs cs) = names.length := by rw [hnm, List.length_map, tNs_len]
 have hk₂ : seqK σ₁.h a (fun m => lenEq (tNs cs) m (asg T R H E0 (tNs cs) m l σ₁ kn)) = true := hk₁
 clear hk₁
 cases a with
 | ref q =>
  obtain ⟨_, _, ls, ws, n1, rfl, _, _, g1, v1, z1, hk₂⟩ := hv.lsP X₁ (k := fun V m => lenEq (tNs cs) m (asg T R H E0 (tNs cs) m l σ₁ kn)) hk₂
  obtain ⟨h3, h4⟩ := lenEq_some v1 hk₂
  rw [← ln, h3, show ws.length = ws.toArray.size by simp]
  exact unpack_lst Rr.handled ⟨_, g1, rfl, n1, rfl⟩ fun h' he => fin ws ls h' v1 h3 h4 he
 | tup ls =>
  obtain ⟨a1, vs, rfl, g1, hb, hz⟩ := hv.tup_inv
  obtain ⟨h3, h4⟩ := lenEq_some hb hk₂
  rw [← ln, h3, show vs.length = vs.toArray.size by simp]
  exact unpackItems_tuple Rr.handled ⟨_, g1, rfl, 0, rfl⟩ fun h' he => fin vs ls h' hb h3 h4 he
 | _ => exact ff hk₂
end Mst
end
section
namespace Mst
open PySem PySem.W PyProof.Rows PySem.Calls PySem.SeqAt
variable {G : Gl} {Z : ER} [EOk0 G Z]
theorem ok_vals {sc : Scope} {ev : Loc → St → (AV → St → B) → B} {n : Nat} {o : PySem.Expr} {ap pos : Pos} (hn : notSuper o = true) (hline : (ap.endLine == pos.line) = true) (h : EvOk G Z sc ev n (fun env => eval o env)) :
 SrcOk G Z sc (fun l s k => ev l s fun v s => dcP s.h v fun p V => k (.cons (.ref p) .nil) s) n (fun env => eval (.Call (.Attribute o "values" ap) [] [] pos) env) := by
 intro l σ k hk env A s ρ m E X Rr
 refine Call_method_gen hn rfl (by simp) hline (wpAny_mono (h l σ _ hk env A s ρ m E X Rr) (fun v s₁ q => ?_) fun V V e => e)
 obtain ⟨av, σ₁, ρ₁, P, hv, hk₁⟩ := q
 intro pl
 obtain ⟨p, d0, d, dl, rfl, hr, ho, ob, hk3⟩ := hv.dcP P.sr hk₁
 obtain ⟨od, rfl, g1, g2, g3⟩ := ob.dx
 have fin : ∀ {K : Type} [DecidableEq K] {knd : PySem.KeyKind G.prog G.w K} {kvs : List (K × Value)}, od.IsDictOf knd kvs →
  wpAny (model G.prog G.w) A (getMethod (.ref d) "values" pl) (fun fx s₂ => wpAny (model G.prog G.w) A (callWith pos fx.1 fx.2 (backTo pos (starEach [] env)) []) (QS G ρ s k) (Z env A ρ s) s₂) (Z env A ρ s) s₁ := by
  intro K _ knd kvs hd
  have D : s₁.heap.DictOf knd d kvs := Heap.dictOf_iff.mpr ⟨_, g1, hd⟩
  obtain ⟨es, ep, q1, _⟩ := hd
  refine getMethod_builtin (T := "dict") ⟨_, g1, q1.1⟩ PySem.F.plainAttrs_dict PySem.F.slot_dict_values PySem.F.type_dict_values (fun b e => by cases e; exact ⟨_, g1, q1.2.1⟩) ?_
  refine call_plain (P := fun V => True) (es := []) rfl (fun h V => keeps_blt h trivial) (spliced_nil ⟨trivial, ?_⟩)
  refine call_meetsIn (T := "dict") PySem.F.slot_dict_values D.typeIs PySem.F.entry_dict_values (PySem.F.args_dict_values_1 _) (meets_dict_values knd d g3) ⟨⟨_, D⟩, ?_⟩
  have kp : ∀ b o, s₁.heap.get? b = some o → (s₁.heap.push { cls := .type "dict_values", data := .fields #[.ref d] }).get? b = some o := fun b o e => Heap.get?_push_of_some _ e
  exact ⟨.cons (.ref p) .nil, σ₁, ρ₁, P.trans (Pst.grow s₁.toks P.sr kp), .inr ⟨p, d, d, _, rfl, rfl, hr, ⟨_, Heap.get?_push_size _ rfl, rfl, rfl⟩⟩, hk3⟩
 rcases g2 with ⟨kvs, h1, _⟩ | ⟨kvs, h1, _⟩
 · exact fin h1
 · exact fin h1
end Mst
end
section
namespace Mst
open PySem PySem.W PyProof.Rows PySem.Calls PySem.SeqAt
variable {G : Gl} {Z : ER} [EOk0 G Z]
noncomputable def cDi (f : PySem.Expr → X) : List (Option PySem.Expr) → List PySem.Expr → X
 | [], _ => .nil
 | o :: r, l => (match o with | some k => (match l with | v :: vs => .cons (f k) (.cons (f v) (cDi f r vs)) | [] => .bad) | none => .bad)
theorem DX.le {ρ : Rh} {h : Heap} {l : AV} {o : Obj} {n m : Nat} (x : DX G ρ h l o n) (hm : n ≤ m) : DX G ρ h l o m := by
 rcases x with ⟨kvs, a, b, c⟩ | ⟨kvs, a, b, c⟩
 · exact .inl ⟨kvs, a, b, by omega⟩
 · exact .inr ⟨kvs, a, b, by omega⟩
noncomputable def flat (ps : List (Value × Value)) : List Value := ps.foldr (fun p r => p.1 :: p.2 :: r) []
inductive PsR (ρ : Rh) (s : Shared) (k : AV → St → B) (ps : List (Value × Value)) (s' : Shared) : Prop
 | mk (b : AV) (σ' : St) (ρ' : Rh) : Pst G ρ [] s ρ' s' σ' → V2 G ρ' s'.heap b (flat ps) → k b σ' = true → PsR ρ s k ps s'
theorem pairs_wp {T : Tabs} {R : Orc} {H : Nat → AV → AV → St → (AV → St → B) → B} {E0 : X → Loc → St → (AV → St → B) → B} {sc : Scope} {n : Nat} {pos : Pos} {f : PySem.Expr → X} (hf : ∀ e, EvOk G Z sc (ev T R H E0 (f e)) n (fun env => eval e env))
 {l : Loc} {env : Env} {A : Around} {m : PySem.Str → Option Value} (Rr : Rm A n) {keys : List (Option PySem.Expr)} : ∀ {vals : List PySem.Expr} {σ : St} {k : AV → St → B} {s : Shared} {ρ : Rh}, keys.length = vals.length → ev T R H E0 (cDi f keys vals) l σ k = true →
  EnvOk G sc A env l ρ s.heap m → SR G ρ σ s.heap → wpAny (model G.prog G.w) A (evalPairs (pairTrees keys vals env pos)) (fun ps s' => ps.length = keys.length ∧ PsR (G := G) ρ s k ps s') (Z env A ρ s) s := by
 induction keys with
 | nil =>
  intro vals σ k s ρ hl hh E X
  cases vals with
  | nil => exact pairTrees_nil_walk ⟨rfl, .nil, σ, ρ, Pst.refl X, .nil, hh⟩
  | cons => cases hl
 | cons o r ih =>
  intro vals σ k s ρ hl hh E X
  cases o with
  | none => exact ff hh
  | some ke =>
   cases vals with
   | nil => cases hl
   | cons ve vs =>
    refine pairTrees_cons_walk (wpAny_mono (hf ke l σ _ hh env A s ρ m E X Rr) (fun kv s₁ q => ?_) fun V V e => e)
    obtain ⟨av, σ₁, ρ₁, P, hv, hk₁⟩ := q
    refine wpAny_mono (hf ve l σ₁ _ hk₁ env A s₁ ρ₁ m (E.after P) P.sr Rr) (fun vv s₂ q => ?_) fun V V e => aft P e
    obtain ⟨bv, σ₂, ρ₂, P₂, hv₂, hk₂⟩ := q
    have P12 := P.trans P₂
    refine wpAny_mono (ih (Nat.succ.inj hl) hk₂ (E.after P12) P12.sr) (fun ps s₃ q => ?_) fun V V e => aft P12 e
    obtain ⟨hlen, b, σ₃, ρ₃, P₃, h1, hk₃⟩ := q
    exact ⟨by rw [List.length_cons, hlen, List.length_cons], _, σ₃, ρ₃, P12.trans P₃, .cons ((hv.mono P₂.le P₂.tups).mono P₃.le P₃.tups) (.cons (hv₂.mono P₃.le P₃.tups) h1), hk₃⟩
theorem zip_wp {R : Orc} (hR : OrcOk G.ν R) (Y : Cy G) {A : Around} {E : Value → Shared → Prop} {s₀ : Shared} {ρ₀ ρ : Rh} {σ : St} {D : Addr} {k : AV → B} (zD : s₀.heap.get? D = none) (nM : ¬ Mut ρ D) (nH : G.H0.get? D = none) {Q : PUnit → Shared → Prop}
 (fin : ∀ (s' : Shared) oD' acc', s'.heap.get? D = some oD' → DX G ρ s'.heap acc' oD' 65536 → Pst G ρ₀ [] s₀ ρ s' σ → k acc' = true → Q PUnit.unit s') {ps : List (Value × Value)} : ∀ {a acc : AV} {i : Nat} {s : Shared} {oD : Obj},
 s.heap.get? D = some oD → DX G ρ s.heap acc oD i → i + ps.length ≤ 65536 → Pst G ρ₀ [] s₀ ρ s σ → V2 G ρ s.heap a (flat ps) → zipS R a acc k = true → wpAny (model G.prog G.w) A (storeAll D ps) Q E s := by
 induction ps with
 | nil =>
  intro a acc i s oD gD hD hi P ha hk
  cases ha
  unfold storeAll
  rw [List.forIn_nil]
  exact wpAny_pure (fin s oD acc gD (hD.le (by simpa using hi)) P hk)
 | cons p ps ih =>
  intro a acc i s oD gD hD hi P ha hk
  obtain ⟨kv, vv⟩ := p
  cases ha with
  | cons ha1 ha2 => cases ha2 with
   | cons hb1 hb2 =>
    rw [List.length_cons] at hi
    unfold storeAll
    rw [List.forIn_cons]
    refine wpAny_bind (wpAny_bind ?_)
    refine dSet_wp hR Y gD hD (by omega) ha1 hb1 hk (fun k1 k2 k3 k4 => dictSet_ep k1 k2 k3 k4) fun h₈ acc' oD' g₈ hs₈ ee e3 hk₈ => wpAny_pure ?_
    have LD : LooseA G ρ s.heap D := ⟨⟨_, gD, hD.apart⟩, nM, nH⟩
    have tp₈ := (P.sr.but LD (SameBut.kp hs₈)).2
    exact ih (s := { s with heap := h₈, toks := s.toks + 1 }) g₈ (e3.mono (Rle.refl _) tp₈) (by omega) (P.but (s.toks + 1) LD zD (SameBut.kp hs₈)) (hb2.mono (Rle.refl _) tp₈) hk₈
theorem ok_dct {R : Orc} (hR : OrcOk G.ν R) (Y : Cy G) (big : ∃ a o, sysModules ≤ a ∧ G.H0.get? a = some o) {sc : Scope} {n : Nat} {T : Tabs} {H : Nat → AV → AV → St → (AV → St → B) → B} {E0 : X → Loc → St → (AV → St → B) → B} {keys : List (Option PySem.Expr)} {vals : List PySem.Expr} {pos : Pos}
 {f : PySem.Expr → X} (hf : ∀ e, EvOk G Z sc (ev T R H E0 (f e)) n (fun env => eval e env)) (ha : keys.all (·.isSome) = true) (hl : keys.length = vals.length) (hz : keys.length ≤ 15) : EvOk G Z sc (ev T R H E0 (.dct (cDi f keys vals) .nil)) n (fun env => eval (.Dict keys vals pos) env) := by
 intro l σ k hk env A s ρ m E X Rr
 have s0 : s.heap.get? s.heap.objs.size = none := none_at _
 have fM : ¬ Mut ρ s.heap.objs.size := fun mm => absurd (X.mut_lt mm) (Nat.lt_irrefl _)
 have nH : G.H0.get? s.heap.objs.size = none := X.h0_lt (Nat.le_refl _)
 have hbig : (s.heap.objs.size == sysModules) = false := by
  obtain ⟨a, o, h1, h2⟩ := big
  rw [beq_eq_false_iff_ne]
  exact Nat.ne_of_gt (Nat.lt_of_le_of_lt h1 (Heap.lt_size (X.base _ _ h2)))
 have kp : ∀ b o, s.heap.get? b = some o → (s.heap.push emptyDict).get? b = some o := fun b o e => Heap.get?_push_of_some _ e
 have gD : (s.heap.push emptyDict).get? s.heap.objs.size = some emptyDict := Heap.get?_push_size _ rfl
 have P₁ : Pst G ρ [] s ρ { s with heap := s.heap.push emptyDict } σ := Pst.grow s.toks X kp
 have D0 : ∀ {ρ' : Rh} {h' : Heap}, DX G ρ' h' .nil emptyDict 0 := .inl ⟨[], ⟨#[], 0, ⟨rfl, rfl, rfl⟩, rfl, (fun e he => by simp at he), .nil, List.nodup_nil⟩, .nil, Nat.le_refl _⟩
 have LD₁ : LooseA G ρ (s.heap.push emptyDict) s.heap.objs.size := ⟨⟨_, gD, (D0 (ρ' := ρ) (h' := s.heap)).apart⟩, fM, nH⟩
 have hk : ev T R H E0 (cDi f keys vals) l σ (fun m s => zipS R m .nil fun d => allocK s (.dict d) k) = true := hk
 have fin : ∀ {ρ₂ : Rh} {σ₂ : St} (s' : Shared) oD' acc', s'.heap.get? s.heap.objs.size = some oD' → ¬ Mut ρ₂ s.heap.objs.size → DX G ρ₂ s'.heap acc' oD' 65536 → Pst G ρ [] s ρ₂ s' σ₂ → allocK σ₂ (.dict acc') k = true → QE (G := G) ρ s k (.ref s.heap.objs.size) s' := fun {ρ₂ σ₂} s' oD' acc' g' nm d' P' hk' => by
  obtain ⟨nx, hh⟩ := σ₂
  obtain ⟨σ₄, P₄, hv₄, hk₄⟩ := Pst.adopt hk' P' ⟨⟨_, g', d'.apart⟩, nm, nH⟩ s0 ((d'.mono (Rle.ext P'.sr.free) fun V V e => e).or g' hbig)
  exact ⟨_, σ₄, _, P₄, hv₄, hk₄⟩
 cases keys with
 | nil =>
  cases vals with
  | cons => cases hl
  | nil =>
   show wpAny _ _ (eval (.Dict [] [] pos) env) _ _ _
   rw [eval_Dict_empty]
   exact wpAny_bind (wpAny_standAt (wpAny_newObj_type (fin _ _ _ gD fM (D0.le (by omega)) P₁ hk)))
 | cons o r =>
  refine wpAny_Dict_any ha hl (fun q => by cases q) hz ?_
  refine wpAny_mono (pairs_wp hf Rr hl hk (s := { s with heap := s.heap.push emptyDict }) (E.after P₁) P₁.sr) (fun ps s₂ q => ?_) fun V V e => aft P₁ e
  obtain ⟨hlen, b, σ₂, ρ₂, P₂, v1, hk₂⟩ := q
  obtain ⟨LD₂, kD⟩ := LD₁.keep (s := { s with heap := s.heap.push emptyDict }) P₂ (by simp) (fun o e hc => by
   rw [show (s.heap.push emptyDict).get? s.heap.objs.size = some o from e] at gD; cases gD
   exact absurd hc (by decide))
  exact zip_wp hR Y s0 LD₂.nM nH (fun s' oD' acc' g' d' P' hk' => fin s' oD' acc' g' LD₂.nM d' P' hk') (kD _ gD) D0 (by omega) (P₁.trans P₂) v1 hk₂
end Mst
end
section
namespace Mst
open PySem PySem.W PyProof.Rows PySem.Calls PySem.SeqAt
noncomputable def natsEq : List Nat → List Nat → Bool
 | [], m => m.isEmpty
 | a :: l, m => (match m with | b :: m => (match Nat.beq a b with | true => natsEq l m | false => false) | [] => false)
theorem natsEq_iff {l : List Nat} : ∀ {m : List Nat}, natsEq l m = true ↔ l = m := by
 induction l with
 | nil => intro m; cases m <;> exact ⟨fun h => by cases h <;> rfl, fun h => by cases h <;> rfl⟩
 | cons a l ih =>
  intro m
  cases m with
  | nil => exact ⟨fun h => ff h, fun h => by cases h⟩
  | cons b m =>
   show (match Nat.beq a b with | true => natsEq l m | false => false) = true ↔ _
   cases q : Nat.beq a b with
   | true =>
    have := Nat.eq_of_beq_eq_true q; subst this
    exact ⟨fun h => by rw [ih.mp h], fun h => ih.mpr (by cases h; rfl)⟩
   | false => exact ⟨fun h => ff h, fun h => by cases h; rw [Nat.beq_refl] at q; cases q⟩
noncomputable def strEq (a b : PySem.Str) : Bool := natsEq a.cps.toList b.cps.toList
theorem strEq_iff {a b : PySem.Str} : strEq a b = true ↔ a = b := by
 unfold strEq
 rw [natsEq_iff]
 exact ⟨fun h => by obtain ⟨⟨l⟩⟩ := a; obtain ⟨⟨m⟩⟩ := b; cases h; rfl, fun h => by rw [h]⟩
theorem strEq_beq (a b : PySem.Str) : strEq a b = (a == b) := by
 rw [Bool.eq_iff_iff, strEq_iff, beq_iff_eq]
noncomputable def kLook (x : PySem.Str) : List (PySem.Str × NameKind) → Option NameKind
 | [] => none
 | p :: r => match strEq x p.1 with | true => some p.2 | false => kLook x r
theorem kLook_eq (x : PySem.Str) (l : List (PySem.Str × NameKind)) : l.lookup x = kLook x l := by
 induction l with
 | nil => rfl
 | cons p r ih =>
  obtain ⟨y, k⟩ := p
  rw [List.lookup_cons, ← strEq_beq, ih]
  show _ = (match strEq x y with | true => some k | false => kLook x r)
  cases strEq x y <;> rfl
noncomputable def isK (k : NameKind) (o : Option NameKind) : Bool := match o with | some q => decide (q = k) | none => false
theorem isK_of {k : NameKind} {o : Option NameKind} (h : isK k o = true) : o = some k := by
 cases o with
 | none => exact ff h
 | some q => exact congrArg some (of_decide_eq_true h)
theorem isK_beq (k : NameKind) (o : Option NameKind) : isK k o = (o == some k) := by
 cases o with
 | none => rfl
 | some q => rw [Bool.eq_iff_iff]; exact ⟨fun h => by rw [isK_of h, beq_iff_eq], fun h => by rw [beq_iff_eq] at h; cases h; exact decide_eq_true rfl⟩
theorem k_look {k : NameKind} {sc : Scope} {x : PySem.Str} (h : isK k (kLook x sc.names) = true) : sc.names.lookup x = some k := by rw [kLook_eq]; exact isK_of h
structure Nms where
 v : PySem.Str → Option Nat
 a : PySem.Str → Option Pth
 s : PySem.Str → Option Nat
 glo : PySem.Str → Option AV
 fn : PySem.Str → Option Nat
 cl : PySem.Str → Option Nat
 bl : PySem.Str → Option Nat
 ms : PySem.Str → Option Nat
 ex : PySem.Str → Option Nat
 ps : Nat → List Nat
noncomputable def memN (n : Nat) : List Nat → Bool
 | [] => false
 | a :: r => (match Nat.beq n a with | true => true | false => memN n r)
theorem memN_iff {n : Nat} {l : List Nat} : memN n l = true ↔ n ∈ l := by
 induction l with
 | nil => exact ⟨fun h => ff h, fun h => by cases h⟩
 | cons a r ih =>
  show (match Nat.beq n a with | true => true | false => memN n r) = true ↔ _
  cases q : Nat.beq n a with
  | true => exact ⟨fun V => by rw [Nat.eq_of_beq_eq_true q]; exact List.mem_cons_self, fun V => rfl⟩
  | false =>
   rw [List.mem_cons]
   have : n ≠ a := fun e => by subst e; rw [Nat.beq_refl] at q; cases q
   exact ⟨fun h => .inr (ih.mp h), fun h => ih.mpr (h.resolve_left this)⟩
noncomputable def nodN : List Nat → Bool
 | [] => true
 | a :: r => !(memN a r) && nodN r
theorem nodN_of {l : List Nat} (h : nodN l = true) : l.Nodup := by
 induction l with
 | nil => exact List.nodup_nil
 | cons x r ih =>
  obtain ⟨h1, h2⟩ := and2 h
  refine List.nodup_cons.mpr ⟨fun hx => ?_, ih h2⟩
  rw [memN_iff.mpr hx] at h1; cases h1
noncomputable def relB (scope sc : Scope) : Scope :=
 { scope with names := scope.names.map fun (n, k) => match k with
  | .free => (match sc.kind with | .function => (match isK .cell (kLook n sc.names) with | true => (n, .cell) | false => (n, .free)) | _ => (n, .free))
  | k => (n, k) }
theorem relB_eq (scope sc : Scope) : relabelS scope sc = relB scope sc := by
 unfold relabelS relB
 congr 1
 refine List.map_congr_left fun x hx => ?_
 obtain ⟨n, k⟩ := x
 cases k <;> try rfl
 dsimp only
 rw [kLook_eq, ← isK_beq]
 cases sc.kind <;> first | rfl | skip
 cases isK .cell (kLook n sc.names) <;> rfl
noncomputable def nodupB : List PySem.Str → Bool
 | [] => true
 | x :: r => !(r.any (strEq x)) && nodupB r
theorem nodupB_of {l : List PySem.Str} (h : nodupB l = true) : l.Nodup := by
 induction l with
 | nil => exact List.nodup_nil
 | cons x r ih =>
  obtain ⟨h1, h2⟩ := and2 h
  refine List.nodup_cons.mpr ⟨fun hx => ?_, ih h2⟩
  rw [Bool.not_eq_true', List.any_eq_false] at h1
  exact h1 x hx (strEq_iff.mpr rfl)
noncomputable def fnKind (k : ScopeKind) : Bool := match k with | .function => true | _ => false
theorem fnKind_of {k : ScopeKind} (h : fnKind k = true) : k = .function := by cases k <;> first | rfl | exact ff h
noncomputable def compB (N : Nms) (sc scope : Scope) (T : List Nat) : Bool :=
 fnKind scope.kind && (scope.names.all (fun x => match x.2 with
  | .cell => false
  | .free => isK .cell (kLook x.1 sc.names)
  | .local => isK .local (kLook x.1 scope.names) && (strEq x.1 ".0" || (match N.v x.1 with | some n => memN n T | none => false))
  | _ => true) && nodupB ((clOf [] scope.names []).map (·.1)))
noncomputable def namesT : X → List Nat := fun x => X.rec (motive := fun V => List Nat) [] [] (fun V V a b => a ++ b) (fun V => []) (fun V => []) (fun V V => []) (fun V V V => []) (fun V V V V => [])
 (fun V V V V V V => []) (fun V V V V V => []) (fun V V V V V => []) (fun V V V V V => []) (fun V V V => []) (fun V V V V V => []) (fun V V V V V => []) (fun V V => []) (fun V V V V V => []) (fun V V V V V V V V => [])
 (fun V V V V => []) (fun V V V V => []) (fun V V => []) (fun V V V V V V => []) (fun V V => []) (fun V V => []) (fun V V V V => []) (fun V V V V V V V V => []) (fun V V V V V V V V V V => [])
 (fun V V => []) (fun V V => []) (fun V V => []) [] (fun V V V V => []) (fun V V V V V V => []) (fun V V V V V V => []) [] [] (fun V V V V V => []) (fun V => []) (fun V V V => []) (fun n => [n]) (fun V V V => []) (fun V V V V => []) (fun V a => a) x
noncomputable def remT (x : X) (T : List Nat) : List Nat := (namesT x).foldl (fun T n => T.filter (· ≠ n)) T
theorem remT_nil (x : X) : remT x [] = [] := by
 unfold remT
 generalize namesT x = l
 induction l with
 | nil => rfl
 | cons a l ih => exact ih
theorem remT_cons (a b : X) (T : List Nat) : remT (.cons a b) T = remT b (remT a T) := List.foldl_append
section
variable (N : Nms)
noncomputable def orX {α : Type} (o : Option α) (k : α → X) (e : X) : X := match o with | some a => k a | none => e
noncomputable def bX (b : Bool) (x : X) : X := match b with | true => x | false => .bad
noncomputable def oneX {α : Type} (l : List α) (k : α → X) : X := match l with | [] => .bad | a :: r => (match r with | [] => k a | _ :: _ => .bad)
theorem orX_ok {α : Type} {P : X → Prop} {o : Option α} {k : α → X} {e : X} (h : ∀ a, o = some a → P (k a)) (he : P e) : P (orX o k e) := by
 cases o with | none => exact he | some a => exact h a rfl
theorem bX_ok {P : X → Prop} (hb : P .bad) {b : Bool} {x : X} (h : b = true → P x) : P (bX b x) := by
 cases b with | false => exact hb | true => exact h rfl
theorem oneX_ok {α : Type} {P : X → Prop} (hb : P .bad) {l : List α} {k : α → X} (h : ∀ a, l = [a] → P (k a)) : P (oneX l k) := by
 cases l with
 | nil => exact hb
 | cons a r => cases r with | nil => exact h a rfl | cons => exact hb
noncomputable def nameX (e : PySem.Expr) (k : PySem.Str → X) (d : X) : X := match e with | .Name x _ => k x | _ => d
theorem nameX_ok {P : X → Prop} {e : PySem.Expr} {k : PySem.Str → X} {d : X} (h : ∀ x p, e = .Name x p → P (k x)) (hd : P d) : P (nameX e k d) := by
 cases e <;> first | exact h _ _ rfl | exact hd
noncomputable def conX (e : PySem.Expr) (k : Const → X) : X := match e with | .Constant c _ _ => k c | _ => .bad
theorem conX_ok {P : X → Prop} (hb : P .bad) {e : PySem.Expr} {k : Const → X} (h : ∀ c i p, e = .Constant c i p → P (k c)) : P (conX e k) := by
 cases e <;> first | exact h _ _ _ rfl | exact hb
noncomputable def calX (e : PySem.Expr) (k : PySem.Expr → List PySem.Expr → List Keyword → Pos → X) (d : X) : X := match e with | .Call f es ks p => k f es ks p | _ => d
theorem calX_ok {P : X → Prop} {e : PySem.Expr} {k : PySem.Expr → List PySem.Expr → List Keyword → Pos → X} {d : X} (h : ∀ f es ks p, e = .Call f es ks p → P (k f es ks p)) (hd : P d) : P (calX e k d) := by
 cases e <;> first | exact h _ _ _ _ rfl | exact hd
noncomputable def attX (e : PySem.Expr) (k : PySem.Expr → PySem.Str → Pos → X) (d : X) : X := match e with | .Attribute o nm p => k o nm p | _ => d
theorem attX_ok {P : X → Prop} {e : PySem.Expr} {k : PySem.Expr → PySem.Str → Pos → X} {d : X} (h : ∀ o nm p, e = .Attribute o nm p → P (k o nm p)) (hd : P d) : P (attX e k d) := by
 cases e <;> first | exact h _ _ _ rfl | exact hd
noncomputable def sliX (e : PySem.Expr) (k : Option PySem.Expr → Option PySem.Expr → X) (d : X) : X := match e with | .Slice l h st _ => (match st with | none => k l h | some _ => .bad) | _ => d
set_option tactic.hygienic true in
theorem sliX_ok {P : X → Prop} (hb : P .bad) {e : PySem.Expr} {k : Option PySem.Expr → Option PySem.Expr → X} {d : X} (h : ∀ l g p, e = .Slice l g none p → P (k l g)) (hd : P d) : P (sliX e k d) := by
 cases e <;> try exact hd
 rename_i st _
 cases st with | none => exact h _ _ _ rfl | some _ => exact hb
noncomputable def cL (f : PySem.Expr → X) : List PySem.Expr → X
 | [] => .nil
 | e :: r => .cons (f e) (cL f r)
noncomputable def kwN : List Keyword → Option (List Nat)
 | [] => some []
 | w :: r => (match w.arg with | some x => (match N.v x with | some n => (match kwN r with | some l => some (n :: l) | none => none) | none => none) | none => none)
noncomputable def cKs (f : PySem.Expr → X) : List Nat → List Keyword → X
 | [], _ => .nil
 | n :: cs, l => (match l with | w :: r => .cons (.kw n (f w.value)) (cKs f cs r) | [] => .nil)
noncomputable def bytV : List UInt8 → AV
 | [] => .nil
 | u :: r => .cons (.int (.lit (.ofNat u.toNat))) (bytV r)
noncomputable def cC (c : Const) : X := match c with
 | .none => .cst .none
 | .bool b => .cst (.bool b)
 | .int i => .cst (.int (.lit i))
 | .str x => orX (N.s x) (fun n => .cst (.str n)) .bad
 | .bytes b => bX (Nat.ble b.length 65536) (.cst (.byt (bytV b)))
 | _ => .bad
noncomputable def cN (sc : Scope) (x : PySem.Str) : X := bX (isK .local (kLook x sc.names)) (orX (N.v x) .tName .bad)
noncomputable def cT (sc : Scope) : Nat → PySem.Expr → X := Nat.rec (fun V => .bad) fun V f e => match e with
 | .Name x _ => cN N sc x
 | .Tuple es _ _ => bX (es.all notStar) (.tTup (cL f es))
 | _ => .bad
noncomputable def notSetE (e : PySem.Expr) : Bool := match e with | .Set .. => false | _ => true
noncomputable def isBad (x : X) : Bool := match x with | .bad => true | _ => false
noncomputable def compSc (e : PySem.Expr) : Option Scope := match e with
 | .ListComp _ _ s _ => some s
 | .SetComp _ _ s _ => some s
 | .DictComp _ _ _ s _ => some s
 | _ => none
noncomputable def isCompE (e : PySem.Expr) : Bool := match compSc e with | some _ => true | none => false
noncomputable def kX (o : Option NameKind) (a b : X) : X := match o with
 | some k => (match k with | .local => a | .cell => a | .free => a | .globalImplicit => b | _ => .bad)
 | none => .bad
noncomputable def binN (o : Operator) : Option Nat := match o with | .Add => some 0 | .Sub => some 1 | .Mult => some 2 | .Mod => some 3 | .FloorDiv => some 4 | .LShift => some 5 | .RShift => some 6 | .BitAnd => some 7 | .BitOr => some 8 | .Pow => some 9 | _ => none
noncomputable def cmpN (o : CmpOp) : Option Nat := match o with | .Eq => some 0 | .NotEq => some 1 | .Lt => some 2 | .LtE => some 3 | .Gt => some 4 | .GtE => some 5 | .In => some 6 | .NotIn => some 7 | .Is => some 8 | .IsNot => some 9
theorem binN_of {o : Operator} {n : Nat} (h : binN o = some n) : opOf n = some o := by cases o <;> cases h <;> rfl
theorem cmpN_of {o : CmpOp} {n : Nat} (h : cmpN o = some n) : cmpOf n = some o := by cases o <;> cases h <;> rfl
noncomputable def cBo (op : BoolOp) (f : PySem.Expr → X) : List PySem.Expr → X
 | [] => .bad
 | e :: r => (match r with | [] => f e | _ :: _ => (match op with | .And => .and (f e) (cBo op f r) | .Or => .or (f e) (cBo op f r)))
noncomputable def cPart (f : PySem.Expr → X) (o : Option PySem.Expr) : X := match o with | none => .cst .none | some e => f e
noncomputable def cCallN (f : PySem.Expr → X) (x : PySem.Str) (es : List PySem.Expr) (ks : List Keyword) : X :=
 orX (N.fn x) (fun k => bX ks.isEmpty (.cF k (cL f es) .nil)) (orX (N.cl x) (fun k => orX (kwN N ks) (fun cs => bX (nodN cs && cs.all fun n => memN n (N.ps k) && !(memN n ((N.ps k).take (es.length + 1)))) (.cC k (cL f es) (cKs f cs ks))) .bad)
  (orX (N.bl x) (fun b => bX ks.isEmpty (.cB b (cL f es))) .bad))
noncomputable def cCall (f : PySem.Expr → X) (sc : Scope) (fn : PySem.Expr) (es : List PySem.Expr) (ks : List Keyword) (p : Pos) : X := bX (es.all notStar) (nameX fn (fun x => bX (isK .globalImplicit (kLook x sc.names)) (cCallN N f x es ks))
 (attX fn (fun o nm ap => bX (notSuper o && (Nat.blt es.length 29 && (Nat.beq ap.endLine p.line && ks.isEmpty))) (orX (N.ms nm) (fun m => .cS m (f o) (cL f es)) (orX (N.a nm) (fun q => .cM (f o) q (cL f es)) .bad))) .bad))
noncomputable def cSrc (f : PySem.Expr → X) (e : PySem.Expr) : X := calX e (fun fn es ks p => attX fn (fun o nm ap => match strEq nm "values" with
 | true => bX (notSuper o && (Nat.beq ap.endLine p.line && (es.isEmpty && ks.isEmpty))) (.vals (f o))
 | false => f e) (f e)) (f e)
noncomputable def cIf (f : PySem.Expr → X) (l : List PySem.Expr) : X := match l with | [] => .cst (.bool true) | e :: r => (match r with | [] => f e | _ :: _ => .bad)
noncomputable def cGen (f g : PySem.Expr → X) (sc scope : Scope) (gens : List Comprehension) (k : X → X → X → X) : X := oneX gens fun a =>
 bX (eqI a.is_async 0 && (notSetE a.iter && (compB N sc scope (namesT (cT N (relB scope sc) 9 a.target)) && (remT (cT N (relB scope sc) 9 a.target) (namesT (cT N (relB scope sc) 9 a.target))).isEmpty))) (k (cT N (relB scope sc) 9 a.target) (cSrc f a.iter) (cIf g a.ifs))
noncomputable def cEs (f : Bool → Scope → PySem.Expr → X) (c : Bool) (sc : Scope) (e : PySem.Expr) : X := match e with
 | .Constant k _ _ => cC N k
 | .Name x _ => kX (kLook x sc.names) (orX (N.v x) .loc .bad) (orX (N.glo x) .cst .bad)
 | .Attribute o nm _ => bX (notSuper o) (orX (N.a nm) (fun q => .attr (f c sc o) q) .bad)
 | .Subscript o s _ => sliX s (fun l h => .slc (f c sc o) (cPart (f c sc) l) (cPart (f c sc) h)) (.sub (f c sc o) (f c sc s))
 | .Call fn es ks p => cCall N (f c sc) sc fn es ks p
 | .BinOp x op y _ => orX (binN op) (fun o => .bin o (f c sc x) (f c sc y)) .bad
 | .UnaryOp op x _ => (match op with | .Not => .not (f c sc x) | .USub => .neg (f c sc x) | _ => .bad)
 | .Compare x ops ys _ => (match ops with
  | [] => .bad
  | op :: r => (match r with
   | [] => oneX ys fun y => bX (!(behindInMarks op y)) (orX (cmpN op) (fun o => .cmp o (f c sc x) (f c sc y)) .bad)
   | oq :: _ => oneX r fun V => (match ys with
    | [] => .bad
    | y :: yr => oneX yr fun z => bX (!(lastMarks [op, oq] [y, z])) (orX (cmpN op) (fun o => orX (cmpN oq) (fun q => .cmp2 o q (f c sc x) (f c sc y) (f c sc z)) .bad) .bad))))
 | .BoolOp op es _ => cBo op (f c sc) es
 | .IfExp e x y _ => .ife (f c sc e) (f c sc x) (f c sc y)
 | .Tuple es _ _ => bX (es.all notStar) (.tup (cL (f c sc) es))
 | .List es _ => bX (es.all notStar) (.lst (cL (f c sc) es))
 | .Dict ks vs _ => bX (ks.all (·.isSome) && (Nat.beq ks.length vs.length && Nat.ble ks.length 15)) (.dct (cDi (f c sc) ks vs) .nil)
 | .ListComp e gens scope _ => bX c (cGen N (f true sc) (f false (relB scope sc)) sc scope gens fun t s i => .lc (f false (relB scope sc) e) t s i)
 | .DictComp k e gens scope _ => bX c (cGen N (f true sc) (f false (relB scope sc)) sc scope gens fun t s i => .dc (f false (relB scope sc) k) (f false (relB scope sc) e) t s i)
 | _ => .bad
noncomputable def cE : Nat → Bool → Scope → PySem.Expr → X := Nat.rec (fun V V V => .bad) fun V f => cEs N f
end
end Mst
end
section
namespace Mst
open PySem PySem.W PyProof.Rows PySem.Calls PySem.SeqAt
abbrev HT' := Nat → AV → AV → St → (AV → St → B) → B
abbrev ET := X → Loc → St → (AV → St → B) → B
variable (G : Gl)
noncomputable def MthOk (R : Orc) (m : Nat) (x : PySem.Str) : Prop := ∀ (Z : ER) [EOk0 G Z] (sc : Scope) (ev ev2 : EVT) (n : Nat) (o : PySem.Expr) (ap pos : Pos) (es : List PySem.Expr),
 notSuper o = true → es.all notStar = true → es.length < 29 → (ap.endLine == pos.line) = true → EvOk G Z sc ev n (fun env => eval o env) → (∀ pos, EvLs G Z sc ev2 n (fun env => backTo pos (starEach es env))) →
 EvOk G Z sc (fun l s k => ev l s fun e s => preK s m e (ev2 l s fun as s => mthK G.T R s m e as k)) n (fun env => eval (.Call (.Attribute o x ap) es [] pos) env)
structure Bun (F : Nat → FDef) (R : Orc) (N : Nms) : Prop where
 cx : Cx G
 cy : Cy G
 ni : NoIn G
 cw : Cw G
 big : ∃ a o, sysModules ≤ a ∧ G.H0.get? a = some o
 hR : OrcOk G.ν R
 v : ∀ x n, N.v x = some n → x = G.nmV n ∧ (x == ("__debug__" : PySem.Str)) = false ∧ (x == ("__classdict__" : PySem.Str)) = false
 v0 : ∀ n, G.nmV n ≠ ".0"
 a : ∀ x p, N.a x = some p → x = G.nmA (pIdx p)
 s : ∀ x n, N.s x = some n → x = G.nmS n
 glo : ∀ x v, N.glo x = some v → (x == ("__debug__" : PySem.Str)) = false ∧ ∃ w, nsIn G.K mainGlobals x = some (some w) ∧ V1 G (fun V => none) G.H0 v w
 fn : ∀ x f, N.fn x = some f → nsIn G.K mainGlobals x = some (some (.ref (G.fnA f))) ∧ keepIn G.K (.ref (G.fnA f)) = true ∧ (x == ("__debug__" : PySem.Str)) = false
 cl : ∀ x c, N.cl x = some c → c < G.nC ∧ G.T.init c ≠ 9999 ∧ nsIn G.K mainGlobals x = some (some (.ref (G.clA c))) ∧ keepIn G.K (.ref (G.clA c)) = true ∧ (x == ("__debug__" : PySem.Str)) = false ∧ N.ps c = (F (G.T.init c)).ps
 bl : ∀ x b, N.bl x = some b → nsIn G.K mainGlobals x = some none ∧ (x == ("__debug__" : PySem.Str)) = false ∧ ∃ f, nsIn G.K builtinsNs x = some (some f) ∧ ((∃ T, f = .type T) ∨ ∃ T, f = .builtin T) ∧ BltOk G R b f
 ms : ∀ x m, N.ms x = some m → MthOk G R m x
variable {G} {F : Nat → FDef} {R : Orc} {N : Nms}
noncomputable def GT (G : Gl) (Z : ER) (n : Nat) (sc : Scope) (e : PySem.Expr) (x : X) : Prop := ∀ T, AsOkT G Z T (remT x T) sc (fun v l s k => tgtK x v l fun l => k l s) n (fun env w => assign e env w)
section
variable {Z : ER} {n : Nat} {sc : Scope}
theorem gT_bad {e : PySem.Expr} : GT G Z n sc e .bad := fun T v l s k hk => ff hk
theorem len_cL {f : PySem.Expr → X} {es : List PySem.Expr} : lenX (cL f es) = es.length := by
 induction es with
 | nil => rfl
 | cons e r ih => exact congrArg (· + 1) ih
theorem gT_list [EOk G Z] {f : PySem.Expr → X} (h : ∀ e, GT G Z n sc e (f e)) : ∀ {es : List PySem.Expr}, es.all notStar = true → ∀ T, AsLsT G Z T (remT (cL f es) T) sc (fun v l s k => tgtK (cL f es) v l fun l => k l s) n (fun env => assignEach es env) := by
 intro es
 induction es with
 | nil => exact fun V T => as_nil
 | cons e r ih =>
  intro hs T
  rw [List.all_cons] at hs
  obtain ⟨h1, h2⟩ := and2 hs
  rw [show remT (cL f (e :: r)) T = _ from remT_cons _ _ _]
  exact as_cons h1 (h e T) (ih h2 _)
theorem gT_name [EOk0 G Z] (BB : Bun G F R N) {x : PySem.Str} {p : Pos} : GT G Z n sc (.Name x p) (cN N sc x) :=
 bX_ok gT_bad fun h => orX_ok (fun k hk T => by obtain ⟨rfl, _⟩ := BB.v x k hk; exact as_name BB.cy rfl (k_look h)) gT_bad
theorem gT_ok [EOk G Z] (BB : Bun G F R N) : ∀ (d : Nat) (e : PySem.Expr), GT G Z n sc e (cT N sc d e) := by
 intro d
 induction d with
 | zero => exact fun e => gT_bad
 | succ d ih =>
  intro e
  cases e with
  | Name x p => exact gT_name BB
  | Tuple es c p => exact bX_ok gT_bad fun h T => as_tupT h len_cL (gT_list ih h T)
  | _ => exact gT_bad
end
noncomputable def CoreOk (G : Gl) (Z : ER) (sc : Scope) (ev : EVT) (n : Nat) (e : PySem.Expr) : Prop := ∃ (scope : Scope) (cpos : Pos) (acc : Sem Value) (g : Comprehension),
 (∀ env u, evalThenUse e env u = (do let _ ← comprehension e scope env cpos acc false (eval g.iter env) (some u))) ∧ (∀ env, eval e env = comprehension e scope env cpos acc false (eval g.iter env)) ∧
 ∀ {l : Loc} {σ : St} {k : AV → St → B}, ev l σ k = true → ∀ {env : Env} {A : Around} {s : Shared} {ρ : Rh} {m : PySem.Str → Option Value}, EnvOk G sc A env l ρ s.heap m → SR G ρ σ s.heap → Rm A n → ∀ {use : Option (Value → Sem Unit)} {Q : Value → Shared → Prop},
  (∀ D C s', CFin G ρ s k D C s' → compPost (model G.prog G.w) A (Z env A ρ s) use Q (.ref D) C (.ok .next) s') → wpAny (model G.prog G.w) A (comprehension e scope env cpos acc false (eval g.iter env) use) Q (Z env A ρ s) s
theorem CoreOk.ev {Z : ER} {sc : Scope} {v : EVT} {n : Nat} {e : PySem.Expr} (h : CoreOk G Z sc v n e) : EvOk G Z sc v n (fun env => eval e env) := by
 obtain ⟨scope, cpos, acc, g, _, h1, h2⟩ := h
 intro l σ k hk env A s ρ m E X Rr
 show wpAny _ A (eval e env) _ _ s
 rw [h1 env]
 exact h2 hk E X Rr (use := none) fun D C s' x => x.post
section
variable (G) (R) (Z : ER) (H : HT') (E0 : ET) (n : Nat)
structure G1 (sc : Scope) (e : PySem.Expr) (x : X) : Prop where
 ev : EvOk G Z sc (ev G.T R H E0 x) n (fun env => eval e env)
 tr : TrOk G Z sc (Mst.ev G.T R H E0 x) n (fun env => isTrue e env (eval e env))
 bo : ∀ op es p, e = .BoolOp op es p → TrC G Z sc (Mst.ev G.T R H E0 x) n op es
 co : isBad x = false → isCompE e = true → CoreOk G Z sc (Mst.ev G.T R H E0 x) n e
noncomputable def CokE (G : Gl) (F : Nat → FDef) (R : Orc) (f : Bool → Scope → PySem.Expr → X) : Prop := ∀ (c : Bool) (sc : Scope) (e : PySem.Expr) (Z : ER) [EOk0 G Z] (H : HT') (E0 : ET) (n : Nat), HOk G Z F H n → (c = true → ∃ Hn, HOk G noE F Hn n ∧ E0 = ev G.T R Hn (fun V V V V => false)) → G1 G R Z H E0 n sc e (f c sc e)
end
section
variable {Z : ER} {H : HT'} {E0 : ET} {n : Nat} {sc : Scope}
theorem g_bad {e : PySem.Expr} : G1 G R Z H E0 n sc e .bad :=
 ⟨fun l σ k hk => ff hk, fun l σ T F hk => ff hk, fun op es p q whole pos l σ T F hk => ff hk, fun h => by cases h⟩
variable [EOk0 G Z]
theorem g_nb {e : PySem.Expr} {x : X} (h : EvOk G Z sc (ev G.T R H E0 x) n (fun env => eval e env)) (ht : TrOk G Z sc (ev G.T R H E0 x) n (fun env => isTrue e env (eval e env)))
 (hb : ∀ op es p, e ≠ .BoolOp op es p) (hc : isCompE e = false) : G1 G R Z H E0 n sc e x :=
 ⟨h, ht, fun op es p q => absurd q (hb op es p), fun V q => by rw [hc] at q; cases q⟩
theorem g_pl {e : PySem.Expr} {x : X} (h : EvOk G Z sc (ev G.T R H E0 x) n (fun env => eval e env)) (he : ∀ env whole, isTrue e env whole = (do let v ← whole; standAt e.pos; holding [v] (truthy v)))
 (hb : ∀ op es p, e ≠ .BoolOp op es p) (hc : isCompE e = false) : G1 G R Z H E0 n sc e x := g_nb h (tr_plain h he) hb hc
theorem ls_ok {f : PySem.Expr → X} (h : ∀ e, G1 G R Z H E0 n sc e (f e)) {es : List PySem.Expr} (hs : es.all notStar = true) (pos : Pos) : EvLs G Z sc (ev G.T R H E0 (cL f es)) n (fun env => backTo pos (starEach es env)) := by
 induction es with
 | nil => exact ok_lnil
 | cons e r ih =>
  rw [List.all_cons] at hs
  obtain ⟨h1, h2⟩ := and2 hs
  exact ok_lcons h1 (h e).ev (ih h2)
theorem kws_ok (BB : Bun G F R N) {f : PySem.Expr → X} (h : ∀ e, G1 G R Z H E0 n sc e (f e)) (pos : Pos) {ks : List Keyword} : ∀ {cs : List Nat}, kwN N ks = some cs → kwNames ks = some (cs.map G.nmV) ∧ EvKs G Z sc (ev G.T R H E0 (cKs f cs ks)) n (cs.map G.nmV) (fun env => backToKw pos (keywordEach ks env)) := by
 induction ks with
 | nil => intro cs q; cases q; exact ⟨rfl, ok_knil⟩
 | cons w r ih =>
  intro cs q
  obtain ⟨o, e, p⟩ := w
  unfold kwN at q
  cases o with
  | none => cases q
  | some x =>
   dsimp only at q
   cases z : N.v x with
   | none => rw [z] at q; cases q
   | some v =>
    rw [z] at q; dsimp only at q
    cases y : kwN N r with
    | none => rw [y] at q; cases q
    | some l =>
     rw [y] at q; cases q
     obtain ⟨i1, i2⟩ := ih y
     have hx := (BB.v x v z).1
     subst hx
     exact ⟨by show (kwNames r).map (G.nmV v :: ·) = _; rw [i1]; rfl, ok_kcons rfl (h e).ev i2⟩
theorem byt_rel {ν : Nat → Int} {b : List UInt8} : BRel ν (bytV b) b := by
 induction b with
 | nil => exact .nil
 | cons u r ih => exact .cons rfl ih
theorem con_ok (BB : Bun G F R N) {c : Const} {i : Nat} {p : Pos} : G1 G R Z H E0 n sc (.Constant c i p) (cC N c) := by
 have pl : ∀ {x : X}, EvOk G Z sc (ev G.T R H E0 x) n (fun env => eval (.Constant c i p) env) → G1 G R Z H E0 n sc (.Constant c i p) x := fun h => g_pl h (fun V V => rfl) (fun V V V q => by cases q) rfl
 cases c with
 | none => exact pl ok_none
 | bool b => exact pl ok_bool
 | int i => exact pl ok_int
 | str x => exact orX_ok (fun k hk => pl (ok_str (BB.s x k hk))) g_bad
 | bytes b => exact bX_ok g_bad fun h => pl (ok_byt byt_rel (Nat.le_of_ble_eq_true h))
 | _ => exact g_bad
theorem nam_ok (BB : Bun G F R N) {x : PySem.Str} {p : Pos} : G1 G R Z H E0 n sc (.Name x p) (kX (kLook x sc.names) (orX (N.v x) .loc .bad) (orX (N.glo x) .cst .bad)) := by
 have pl : ∀ {y : X}, EvOk G Z sc (ev G.T R H E0 y) n (fun env => eval (.Name x p) env) → G1 G R Z H E0 n sc (.Name x p) y := fun h => g_pl h (fun V V => rfl) (fun V V V q => by cases q) rfl
 have lo : ∀ {k : NameKind}, kLook x sc.names = some k → (k = .local ∨ k = .cell ∨ k = .free) → G1 G R Z H E0 n sc (.Name x p) (orX (N.v x) .loc .bad) := fun {k} z hk =>
  orX_ok (fun v hv => by
   obtain ⟨rfl, h1, h2⟩ := BB.v x v hv
   rw [← kLook_eq] at z
   exact pl (ok_loc rfl h1 h2 (by rw [z]; exact hk.elim (fun q => .inl (by rw [q])) fun q => .inr (q.elim (fun q => .inl (by rw [q])) fun q => .inr (by rw [q]))))) g_bad
 cases z : kLook x sc.names with
 | none => exact g_bad
 | some k =>
  cases k with
  | «local» => exact lo z (.inl rfl)
  | cell => exact lo z (.inr (.inl rfl))
  | free => exact lo z (.inr (.inr rfl))
  | globalImplicit => exact orX_ok (fun v hv => by obtain ⟨hd, w, e1, e2⟩ := BB.glo x v hv; exact pl (ok_glo BB.cx (by rw [kLook_eq, z]) e1 hd e2)) g_bad
  | _ => exact g_bad
theorem bo_ok {op : BoolOp} {f : PySem.Expr → X} (h : ∀ e, G1 G R Z H E0 n sc e (f e)) {p : Pos} {es : List PySem.Expr} : (isBad (cBo op f es) = true ∧ es = []) ∨ (EvOk G Z sc (ev G.T R H E0 (cBo op f es)) n (fun env => eval (.BoolOp op es p) env) ∧ TrC G Z sc (ev G.T R H E0 (cBo op f es)) n op es) := by
 induction es with
 | nil => exact .inl ⟨rfl, rfl⟩
 | cons e r ih =>
  refine .inr ?_
  cases r with
  | nil => exact ⟨(h e).ev, trc_one (h e).tr⟩
  | cons e2 r =>
   rcases ih with ⟨_, q⟩ | ⟨i1, i2⟩
   · cases q
   · cases op with
     | And => exact ⟨ok_and (h e).ev i1, trc_and (h e).tr i2⟩
     | Or => exact ⟨ok_or (h e).ev i1, trc_or (h e).tr i2⟩
theorem part_ok {f : PySem.Expr → X} (h : ∀ e, G1 G R Z H E0 n sc e (f e)) (o : Option PySem.Expr) : EvOk G Z sc (ev G.T R H E0 (cPart f o)) n (fun env => evalPart o env) := by
 cases o with
 | none => exact ok_pnone
 | some e => exact ok_psome (h e).ev
theorem cmpe {es : List PySem.Expr} {b : Bool} (h : es.isEmpty = true) : es = [] := List.isEmpty_iff.mp h
theorem call_okE (BB : Bun G F R N) {f : PySem.Expr → X} (h : ∀ e, G1 G R Z H E0 n sc e (f e)) (hH : HOk G Z F H n) {fn : PySem.Expr} {es : List PySem.Expr} {ks : List Keyword} {p : Pos} : G1 G R Z H E0 n sc (.Call fn es ks p) (cCall N f sc fn es ks p) := by
 have pl : ∀ {y : X}, EvOk G Z sc (ev G.T R H E0 y) n (fun env => eval (.Call fn es ks p) env) → G1 G R Z H E0 n sc (.Call fn es ks p) y := fun h => g_pl h (fun V V => rfl) (fun V V V q => by cases q) rfl
 refine bX_ok g_bad fun hs => nameX_ok (fun x np e => ?_) (attX_ok (fun o nm ap e => ?_) g_bad)
 · subst e
   refine bX_ok g_bad fun hg => ?_
   have gi := k_look hg
   refine orX_ok (fun k hk => bX_ok g_bad fun hn => ?_) (orX_ok (fun k hk => orX_ok (fun cs hcs => bX_ok g_bad fun hn => ?_) g_bad) (orX_ok (fun b hb => bX_ok g_bad fun hn => ?_) g_bad))
   · rw [List.isEmpty_iff] at hn; subst hn
     obtain ⟨g1, g2, g3⟩ := BB.fn x k hk
     exact pl (ok_cF BB.cx hH gi g1 g2 g3 hs (fun env => arm_eval_Call_Name' ..) (ls_ok h hs p))
   · obtain ⟨g1, g2, g3, g4, g5, g6⟩ := BB.cl x k hk
     obtain ⟨e1, e2⟩ := kws_ok BB h p hcs
     obtain ⟨n1, n2⟩ := and2 hn
     rw [List.all_eq_true] at n2
     refine pl (ok_cC BB.cx BB.cw hH g1 g2 gi g3 g4 g5 hs e1 (List.pairwise_map.mpr ((nodN_of n1).imp fun hne q => hne (BB.cy.injV _ _ q))) (fun y hy => ?_) (ls_ok h hs p) e2)
     obtain ⟨v, hv, rfl⟩ := List.mem_map.mp hy
     obtain ⟨m1, m2⟩ := and2 (n2 v hv)
     rw [g6] at m1 m2
     refine ⟨List.mem_map.mpr ⟨v, memN_iff.mp m1, rfl⟩, fun q => ?_⟩
     rw [← List.map_take] at q
     obtain ⟨u, hu, e⟩ := List.mem_map.mp q
     have := BB.cy.injV _ _ e; subst this
     rw [memN_iff.mpr hu] at m2; cases m2
   · rw [List.isEmpty_iff] at hn; subst hn
     obtain ⟨g1, g2, fv, g3, g4, g5⟩ := BB.bl x b hb
     exact pl (ok_cB BB.cx gi g1 g3 g2 hs g4 g5 (fun env => arm_eval_Call_Name' ..) (ls_ok h hs p))
 · subst e
   refine bX_ok g_bad fun hq => ?_
   obtain ⟨h1, hq⟩ := and2 hq
   obtain ⟨h2, hq⟩ := and2 hq
   obtain ⟨h3, hq⟩ := and2 hq
   rw [List.isEmpty_iff] at hq; subst hq
   have hl : (ap.endLine == p.line) = true := by rw [beq_iff_eq]; exact Nat.eq_of_beq_eq_true h3
   refine orX_ok (fun m hm => ?_) (orX_ok (fun q hq => ?_) g_bad)
   · exact pl (BB.ms nm m hm Z sc _ _ n o ap p es h1 hs (Nat.le_of_ble_eq_true h2) hl (h o).ev (ls_ok h hs))
   · exact pl (ok_cM BB.cx BB.cw hH (BB.a nm q hq) h1 hs (Nat.le_of_ble_eq_true h2) hl (h o).ev (ls_ok h hs p))
theorem src_ok {f : PySem.Expr → X} (h : ∀ e, G1 G R Z H E0 n sc e (f e)) {e : PySem.Expr} : SrcOk G Z sc (ev G.T R H E0 (cSrc f e)) n (fun env => eval e env) := by
 have d := (h e).ev.src
 refine calX_ok (P := fun x => SrcOk G Z sc (ev G.T R H E0 x) n (fun env => eval e env)) (fun fn es ks p q => attX_ok (P := fun x => SrcOk G Z sc (ev G.T R H E0 x) n (fun env => eval e env)) (fun o nm ap r => ?_) d) d
 subst q; subst r
 cases z : strEq nm "values" with
 | false => exact d
 | true =>
  rw [strEq_iff] at z; subst z
  refine bX_ok (P := fun x => SrcOk G Z sc (ev G.T R H E0 x) n (fun env => eval (.Call (.Attribute o "values" ap) es ks p) env)) (fun l σ k hk => ff hk) fun hq => ?_
  obtain ⟨h1, hq⟩ := and2 hq
  obtain ⟨h2, hq⟩ := and2 hq
  obtain ⟨h3, hq⟩ := and2 hq
  have e3 := List.isEmpty_iff.mp h3
  have e4 := List.isEmpty_iff.mp hq
  clear h3 hq
  subst e3; subst e4
  exact ok_vals h1 (by rw [beq_iff_eq]; exact Nat.eq_of_beq_eq_true h2) (h o).ev
theorem if_ok {f : PySem.Expr → X} (h : ∀ e, G1 G R Z H E0 n sc e (f e)) {l : List PySem.Expr} : TrOk G Z sc (ev G.T R H E0 (cIf f l)) n (fun env => tests l env) := by
 cases l with
 | nil => exact ts_nil
 | cons e r => cases r with
  | nil => exact ts_one (h e).tr
  | cons => exact fun l σ T F hk => ff hk
theorem folded {it : PySem.Expr} (h : notSetE it = true) : ∀ env x, foldedSetIterable it env x = pure x := by
 intro env x
 cases it <;> first | rfl | exact ff h
theorem comp_ok (BB : Bun G F R N) {sc scope : Scope} {T : List Nat} (h : compB N sc scope T = true) : CompS G sc scope T := by
 obtain ⟨h1, h2⟩ := and2 h
 obtain ⟨h2, h3⟩ := and2 h2
 rw [List.all_eq_true] at h2
 refine ⟨fnKind_of h1, fun x hx q => ?_, fun x hx => k_look (h2 _ hx), fun n hn => ?_, fun x hx q => ?_, nodupB_of h3⟩
 · have := h2 x hx
   rw [q] at this; cases this
 · obtain ⟨_, h4⟩ := and2 (h2 _ (mem_of_lookup hn))
   rcases Bool.or_eq_true_iff.mp h4 with q | q
   · exact absurd (strEq_iff.mp q) (BB.v0 n)
   · dsimp only at q
     cases z : N.v (G.nmV n) with
     | none => rw [z] at q; cases q
     | some m => rw [z] at q; rw [BB.cy.injV _ _ (BB.v _ _ z).1]; exact memN_iff.mp q
 · have := h2 _ hx
   rw [q] at this
   exact k_look (and2 this).1
end
end Mst
end
section
namespace Mst
open PySem PySem.W PyProof.Rows PySem.Calls PySem.SeqAt
variable {G : Gl} {F : Nat → FDef} {R : Orc} {N : Nms}
theorem gen_ok (BB : Bun G F R N) {P : X → Prop} (hb : P .bad) {f g : PySem.Expr → X} {sc scope : Scope} {n : Nat} {gens : List Comprehension} {k : X → X → X → X}
 (h : ∀ t it is T, gens = [⟨t, it, is, 0⟩] → (∀ env x, foldedSetIterable it env x = pure x) → CompS G sc scope T → AsOkT G noE T [] (relabelS scope sc) (fun v l s k => tgtK (cT N (relB scope sc) 9 t) v l fun l => k l s) n (fun env v => assign t env v) → P (k (cT N (relB scope sc) 9 t) (cSrc f it) (cIf g is))) : P (cGen N f g sc scope gens k) := by
 refine oneX_ok hb fun a e => bX_ok hb fun q => ?_
 obtain ⟨t, it, is, z⟩ := a
 obtain ⟨h1, q⟩ := and2 q
 obtain ⟨h2, q⟩ := and2 q
 obtain ⟨h3, h4⟩ := and2 q
 rw [eqI_eq, decide_eq_true_iff] at h1
 subst h1
 refine h t it is _ e (folded h2) (comp_ok BB h3) ?_
 have ht := gT_ok BB (Z := noE) (n := n) (sc := relB scope sc) 9 t (namesT (cT N (relB scope sc) 9 t))
 rw [List.isEmpty_iff.mp h4] at ht
 rw [relB_eq]; exact ht
section
variable {Z : ER} {H : HT'} {E0 : ET} {n : Nat} {sc : Scope} [EOk0 G Z]
theorem g_co {e : PySem.Expr} {x : X} (h : CoreOk G Z sc (ev G.T R H E0 x) n e) (he : ∀ env whole, isTrue e env whole = (do let v ← whole; standAt e.pos; holding [v] (truthy v)))
 (hb : ∀ op es p, e ≠ .BoolOp op es p) : G1 G R Z H E0 n sc e x :=
 ⟨h.ev, tr_plain h.ev he, fun op es p q => absurd q (hb op es p), fun V V => h⟩
theorem cmp_ok (BB : Bun G F R N) {f : PySem.Expr → X} (I : ∀ e, G1 G R Z H E0 n sc e (f e)) {x : PySem.Expr} {ops : List CmpOp} {ys : List PySem.Expr} {p : Pos} : G1 G R Z H E0 n sc (.Compare x ops ys p) (match ops with
 | [] => .bad
 | op :: r => (match r with
  | [] => oneX ys fun y => bX (!(behindInMarks op y)) (orX (cmpN op) (fun o => .cmp o (f x) (f y)) .bad)
  | oq :: _ => oneX r fun V => (match ys with
   | [] => .bad
   | y :: yr => oneX yr fun z => bX (!(lastMarks [op, oq] [y, z])) (orX (cmpN op) (fun o => orX (cmpN oq) (fun q => .cmp2 o q (f x) (f y) (f z)) .bad) .bad)))) := by
 cases ops with
 | nil => exact g_bad
 | cons op r =>
  cases r with
  | nil =>
   refine oneX_ok g_bad fun y e => bX_ok g_bad fun hm => orX_ok (fun o ho => ?_) g_bad
   subst e
   rw [Bool.not_eq_true'] at hm
   exact g_nb (ok_cmp BB.hR BB.cy BB.ni (cmpN_of ho) hm (I x).ev (I y).ev) (tr_cmp BB.hR BB.cy BB.ni (cmpN_of ho) hm (I x).ev (I y).ev) (fun V V V q => by cases q) rfl
  | cons oq r =>
   refine oneX_ok g_bad fun a e => ?_
   cases e
   cases ys with
   | nil => exact g_bad
   | cons y yr =>
    refine oneX_ok g_bad fun z e => bX_ok g_bad fun hm => orX_ok (fun o ho => orX_ok (fun o2 ho2 => ?_) g_bad) g_bad
    subst e
    rw [Bool.not_eq_true'] at hm
    exact g_nb (ok_cmp2 BB.hR BB.cy BB.ni (cmpN_of ho) (cmpN_of ho2) hm (I x).ev (I y).ev (I z).ev) (tr_cmp2 BB.hR BB.cy BB.ni (cmpN_of ho) (cmpN_of ho2) hm (I x).ev (I y).ev (I z).ev) (fun V V V q => by cases q) rfl
end
theorem cEs_ok (BB : Bun G F R N) {f : Bool → Scope → PySem.Expr → X} (hf : CokE G F R f) : CokE G F R (cEs N f) := by
 intro c sc e Z _ H E0 n hH hc
 have I : ∀ e, G1 G R Z H E0 n sc e (f c sc e) := fun e => hf c sc e Z H E0 n hH hc
 cases e with
 | Constant k i p => exact con_ok BB
 | Name x p => exact nam_ok BB
 | Attribute o nm p => exact bX_ok g_bad fun hs => orX_ok (fun q hq => g_pl (ok_attr BB.cx (I o).ev (BB.a nm q hq) hs) (fun V V => rfl) (fun V V V q => by cases q) rfl) g_bad
 | Subscript o s p =>
  exact sliX_ok g_bad (fun l g q e => by subst e; exact g_pl (ok_slc (I o).ev (part_ok I l) (part_ok I g)) (fun V V => rfl) (fun V V V q => by cases q) rfl)
   (g_pl (ok_sub BB.hR BB.cy (I o).ev (I s).ev) (fun V V => rfl) (fun V V V q => by cases q) rfl)
 | Call fn es ks p => exact call_okE BB I hH
 | BinOp x op y p => exact orX_ok (fun o ho => g_pl (ok_bin BB.hR (binN_of ho) (I x).ev (I y).ev) (fun V V => rfl) (fun V V V q => by cases q) rfl) g_bad
 | UnaryOp op x p =>
  cases op with
  | Not => exact g_nb (ok_not (I x).ev) (tr_not (I x).tr) (fun V V V q => by cases q) rfl
  | USub => exact g_pl (ok_neg (I x).ev) (fun V V => rfl) (fun V V V q => by cases q) rfl
  | _ => exact g_bad
 | Compare x ops ys p => exact cmp_ok BB I
 | BoolOp op es p =>
  rcases bo_ok I (op := op) (p := p) (es := es) with ⟨_, rfl⟩ | ⟨a, b⟩
  · exact g_bad
  · exact ⟨a, trc_tr b, fun op es p q => by cases q; exact b, fun V q => by cases q⟩
 | IfExp e x y p => exact g_nb (ok_ife (I e).tr (I x).ev (I y).ev) (tr_ife (I e).tr (I x).tr (I y).tr) (fun V V V q => by cases q) rfl
 | Tuple es k p => exact bX_ok g_bad fun hs => g_pl (ok_tup (ls_ok I hs _)) (fun V V => rfl) (fun V V V q => by cases q) rfl
 | List es p => exact bX_ok g_bad fun hs => g_pl (ok_lst (ls_ok I hs _)) (fun V V => rfl) (fun V V V q => by cases q) rfl
 | Dict ks vs p =>
  refine bX_ok g_bad fun q => ?_
  obtain ⟨h1, q⟩ := and2 q
  obtain ⟨h2, h3⟩ := and2 q
  exact g_pl (ok_dct BB.hR BB.cy BB.big (fun e => (I e).ev) h1 (Nat.eq_of_beq_eq_true h2) (Nat.le_of_ble_eq_true h3)) (fun V V => rfl) (fun V V V q => by cases q) rfl
 | ListComp e gens scope p =>
  refine bX_ok g_bad fun h1 => ?_
  subst h1
  obtain ⟨Hn, hHn, rfl⟩ := hc rfl
  have J : ∀ e, G1 G R noE Hn (fun V V V V => false) n (relabelS scope sc) e (f false (relB scope sc) e) := fun e => by rw [relB_eq]; exact hf false _ e noE Hn _ n hHn (fun q => by cases q)
  refine gen_ok (n := n) BB g_bad fun t it is T e1 hfo CS ht => ?_
  subst e1
  exact g_co ⟨scope, firstIterPos [⟨t, it, is, 0⟩] p, newList [], ⟨t, it, is, 0⟩, fun V V => rfl, fun V => rfl, fun hk V V V V V E X Rr V V fin => comp_list BB.big BB.cy CS (src_ok I) hfo ht (if_ok J) (Nat.le_refl _) E X Rr fin (J e).ev hk⟩ (fun V V => rfl) (fun V V V q => by cases q)
 | DictComp k e gens scope p =>
  refine bX_ok g_bad fun h1 => ?_
  subst h1
  obtain ⟨Hn, hHn, rfl⟩ := hc rfl
  have J : ∀ e, G1 G R noE Hn (fun V V V V => false) n (relabelS scope sc) e (f false (relB scope sc) e) := fun e => by rw [relB_eq]; exact hf false _ e noE Hn _ n hHn (fun q => by cases q)
  refine gen_ok (n := n) BB g_bad fun t it is T e1 hfo CS ht => ?_
  subst e1
  exact g_co ⟨scope, firstIterPos [⟨t, it, is, 0⟩] p, newDict, ⟨t, it, is, 0⟩, fun V V => rfl, fun V => rfl, fun hk V V V V V E X Rr V V fin => comp_dict BB.big BB.cy CS (src_ok I) hfo ht (if_ok J) (Nat.le_refl _) E X Rr fin BB.hR (J k).ev (J e).ev hk⟩ (fun V V => rfl) (fun V V V q => by cases q)
 | _ => exact g_bad
theorem cE_ok (BB : Bun G F R N) (d : Nat) : CokE G F R (cE N d) := by
 induction d with
 | zero => exact fun c sc e Z V H E0 n hH hc => g_bad
 | succ d ih => exact cEs_ok BB ih
end Mst
end
section
namespace Mst
open PySem PySem.W PyProof.Rows PySem.Calls PySem.SeqAt
variable {G : Gl} {F : Nat → FDef} {R : Orc} {N : Nms}
theorem sw_eq (e : PySem.Expr) (t : Option PySem.Expr) (line : Nat) (env : Env) : swapsWith e t line env = (do
 let some scope := compSc e | return false
 match t with
 | none =>
  if env.scope.kind == .class then unsupported "comprehension:value-dropped-in-a-class-body"
  if e.pos.line != line then unsupported "comprehension:value-dropped:on-another-line"
  return true
 | some (.Name t pos) => return env.blockKind == .function && env.kindOf t == some .local && pos.line == e.pos.line && !(scope.names.any fun (n, k) => n == t && (k == .local || k == .cell))
 | some _ => return false) := by cases e <;> rfl
noncomputable def swN (sc : Scope) (x : PySem.Str) (p : Pos) (e : PySem.Expr) : Bool := match compSc e with
 | none => false
 | some scope => (fnKind sc.kind && isK .local (kLook x sc.names) && p.line == e.pos.line && !(scope.names.any fun (n, k) => n == x && (k == .local || k == .cell)))
theorem swN_ok {sc : Scope} {x : PySem.Str} {p : Pos} {e : PySem.Expr} {line : Nat} (hf : fnKind sc.kind = true) (env : Env) (he : env.scope = sc) : swapsWithSole [.Name x p] e line env = pure (swN sc x p e) := by
 show swapsWith e (some (.Name x p)) line env = _
 rw [sw_eq]
 unfold swN
 cases compSc e with
 | none => rfl
 | some scope =>
  refine congrArg pure ?_
  have bk : env.blockKind = .function := by unfold Env.blockKind; rw [he, fnKind_of hf]; rfl
  rw [hf, isK_beq, ← kLook_eq, bk, Env.kindOf, he]; rfl
theorem sw_none {e : PySem.Expr} (h : compSc e = none) (t : Option PySem.Expr) (line : Nat) (env : Env) : swapsWith e t line env = pure false := by rw [sw_eq, h]
noncomputable def swL {α : Type} (b1 b2 b3 b4 b5 : Bool) (x : α) : Option (Option α) := match b1 with
 | true => some none
 | false => (match b2 with
  | true => some none
  | false => (match b3 with
   | true => some none
   | false => (match b4 with
    | true => some none
    | false => (match b5 with | true => none | false => some (some x)))))
theorem swL_ok {b1 b2 b3 b4 b5 : Bool} {x : List PySem.Str} {r : Option (List PySem.Str)} (h : swL b1 b2 b3 b4 b5 x = some r) : (do
 if b1 then return none
 if b2 then return none
 if b3 then return none
 if b4 then return none
 if b5 then unsupported "assign.tuple-of-constant-expressions:order-of-the-stores"
 return some x : Sem (Option (List PySem.Str))) = pure r := by
 cases b1 <;> try (cases h; rfl)
 cases b2 <;> try (cases h; rfl)
 cases b3 <;> try (cases h; rfl)
 cases b4 <;> try (cases h; rfl)
 cases b5 <;> try (cases h; rfl)
 cases h
noncomputable def nmLn (sc : Scope) (line : Nat) (e : PySem.Expr) : Option PySem.Str := match e with
 | .Name x p => if (isK .local (kLook x sc.names) && p.line == line) then some x else none
 | _ => none
noncomputable def tupE (e : PySem.Expr) : Option (List PySem.Expr) := match e with | .Tuple l _ _ => some l | _ => none
noncomputable def swS (sc : Scope) (ts : List PySem.Expr) (e : PySem.Expr) : Option (Option (List PySem.Str)) := match tupE e with
 | none => some none
 | some vs => swL (!(ts.length == 2 || ts.length == 3) || vs.length != ts.length || !(fnKind sc.kind)) (vs.any fun | .Starred .. => true | _ => false)
  ((ts.filterMap (nmLn sc ((ts.head?.map (·.pos.line)).getD 0))).length != ts.length || (ts.filterMap (nmLn sc ((ts.head?.map (·.pos.line)).getD 0))).eraseDups.length != (ts.filterMap (nmLn sc ((ts.head?.map (·.pos.line)).getD 0))).length)
  (vs.all (foldedForSure 8)) (vs.all (constantsAlone 8)) (ts.filterMap (nmLn sc ((ts.head?.map (·.pos.line)).getD 0)))
theorem tup_sw (ts : List PySem.Expr) (c : Nat) (p : Pos) (e : PySem.Expr) (env : Env) : swappedStores [.Tuple ts c p] e env = (match tupE e with
 | none => pure none
 | some vs => (do
  if !(ts.length == 2 || ts.length == 3) || vs.length != ts.length || env.blockKind != .function then return none
  if vs.any fun | .Starred .. => true | _ => false then return none
  let line := (ts.head?.map (·.pos.line)).getD 0
  let names := ts.filterMap fun
   | .Name id pos => if env.kindOf id == some .local && pos.line == line then some id else none
   | _ => none
  if names.length != ts.length || names.eraseDups.length != names.length then return none
  if vs.all (foldedForSure 8) then return none
  if vs.all (constantsAlone 8) then unsupported "assign.tuple-of-constant-expressions:order-of-the-stores"
  return some names)) := by cases e <;> rfl
theorem swS_ok {sc : Scope} {ts : List PySem.Expr} {c : Nat} {p : Pos} {e : PySem.Expr} {r : Option (List PySem.Str)} (h : swS sc ts e = some r) (hf : fnKind sc.kind = true) (env : Env) (he : env.scope = sc) : swappedStores [.Tuple ts c p] e env = pure r := by
 rw [tup_sw]
 unfold swS at h
 cases z : tupE e with
 | none => rw [z] at h; cases h; rfl
 | some vs =>
  rw [z] at h
  have bk : env.blockKind = .function := by unfold Env.blockKind; rw [he, fnKind_of hf]; rfl
  have en : ∀ line, (fun (x : PySem.Expr) => match x with
   | .Name id pos => if env.kindOf id == some .local && pos.line == line then some id else none
   | _ => none) = nmLn sc line := by
   intro line
   funext x
   cases x <;> try rfl
   unfold nmLn
   dsimp only
   rw [isK_beq, ← kLook_eq, Env.kindOf, he]
  have := swL_ok h
  rw [hf] at this
  dsimp only
  rw [bk, en]
  exact this
end Mst
end
section
namespace Mst
open PySem PySem.W PyProof.Rows PySem.Calls PySem.SeqAt
section
variable (N : Nms)
noncomputable def cG (f : PySem.Expr → X) (sc : Scope) : Nat → PySem.Expr → X := Nat.rec (fun V => .bad) fun V g e => match e with
 | .Name x _ => cN N sc x
 | .Attribute o nm _ => orX (N.a nm) (fun q => .tAttr (f o) q) .bad
 | .Subscript o s _ => .tSub (f o) (f s)
 | .Tuple es _ _ => bX (es.all notStar) (.tTup (cL g es))
 | _ => .bad
noncomputable def cAsN (f : PySem.Expr → X) (sc : Scope) (x : PySem.Str) (p : Pos) (v : PySem.Expr) : X := bX (match swN sc x p v with | true => !(isBad (f v)) | false => true) (.asn (cN N sc x) (f v))
noncomputable def cS0 (f : PySem.Expr → X) (sc : Scope) (st : Stmt) (d : X) : X := match st with
 | .Expr v _ => (match compSc v with | none => .ex (f v) | some _ => .bad)
 | .Return o _ => (match o with | some v => .ret (f v) | none => .retN)
 | .Assign ts v _ => oneX ts fun t => (match t with | .Name x p => cAsN N f sc x p v | _ => d)
 | _ => d
noncomputable def varsN : List PySem.Str → Option (List Nat)
 | [] => some []
 | x :: r => (match N.v x with | some n => (match varsN r with | some l => some (n :: l) | none => none) | none => none)
noncomputable def cAs (f : PySem.Expr → X) (sc : Scope) (t v : PySem.Expr) : X := match t with
 | .Attribute _ _ _ => .asn (cG N f sc 9 t) (f v)
 | .Subscript _ _ _ => .asn (cG N f sc 9 t) (f v)
 | .Tuple ts _ _ => (match swS sc ts v with
  | none => .bad
  | some o => (match o with
   | none => .asn (cG N f sc 9 t) (f v)
   | some ns => orX (varsN N ns) (fun cs => bX (nodN cs && ns.all fun x => isK .local (kLook x sc.names)) (.asn (.tTup (tNs cs)) (f v))) .bad))
 | _ => .bad
noncomputable def c0X (c : Const) (k : AV → X) : X := match c with | .none => k .none | .bool b => k (.bool b) | _ => .bad
noncomputable def cH (sc : Scope) (hb : List Stmt) : X := oneX hb fun st => match st with
 | .Return o _ => (match o with | some v => conX v fun c => c0X c fun a => .cons (.ret (.cst a)) .nil | none => .bad)
 | .Assign ts v _ => oneX ts fun t => nameX t (fun x => conX v fun c => c0X c fun a => .cons (.asn (cN N sc x) (.cst a)) .nil) .bad
 | _ => .bad
noncomputable def cRaise (sc : Scope) (exc cause : Option PySem.Expr) : X := match cause with
 | some _ => .bad
 | none => (match exc with
  | none => .bad
  | some e => calX e (fun fn es ks V => nameX fn (fun x => oneX es fun a => conX a fun c => (match c with | .str _ => bX (ks.isEmpty && isK .globalImplicit (kLook x sc.names)) (orX (N.ex x) .raise_ .bad) | _ => .bad)) .bad) .bad)
noncomputable def cTry (f : PySem.Expr → X) (sc : Scope) (b : List Stmt) (hs : List ExceptHandler) (els fin : List Stmt) : X := bX (els.isEmpty && fin.isEmpty) (oneX b fun s => oneX hs fun h => match h with
 | .ExceptHandler ty nm hb _ => (match nm with
  | some _ => .bad
  | none => (match ty with
   | none => .bad
   | some e => nameX e (fun x => bX (isK .globalImplicit (kLook x sc.names) && !(hb.isEmpty)) (orX (N.ex x) (fun c => .try_ (.cons (cS0 N f sc s .bad) .nil) c (cH N sc hb)) .bad)) .bad)))
noncomputable def cLs (f : Stmt → X) : List Stmt → X
 | [] => .nil
 | s :: r => .cons (f s) (cLs f r)
noncomputable def cS (sc : Scope) : Nat → Stmt → X := Nat.rec (fun V => .bad) fun V g st => cS0 N (cE N 40 true sc) sc st (match st with
 | .Assign ts v _ => oneX ts fun t => cAs N (cE N 40 true sc) sc t v
 | .If e a b _ => .iff (cE N 40 true sc e) (cLs g a) (cLs g b)
 | .For t it b els _ => bX (els.isEmpty && notSetE it) (.for_ (cT N sc 9 t) (cSrc (cE N 40 true sc) it) (cLs g b))
 | .Continue _ => .cont
 | .Pass _ => .pass
 | .Raise exc cause _ => cRaise N sc exc cause
 | .Try b hs els fin _ => cTry N (cE N 40 true sc) sc b hs els fin
 | _ => .bad)
end
variable {G : Gl} {F : Nat → FDef} {R : Orc} {N : Nms}
section
variable {Z : ER} {H : HT'} {E0 : ET} {n : Nat} {sc : Scope}
noncomputable def GA (G : Gl) (R : Orc) (Z : ER) (H : HT') (E0 : ET) (n : Nat) (sc : Scope) (e : PySem.Expr) (x : X) : Prop := AsOk G Z sc (fun v l s k => asg G.T R H E0 x v l s k) n (fun env w => assign e env w)
theorem ga_bad {e : PySem.Expr} : GA G R Z H E0 n sc e .bad := fun v l s k hk => ff hk
theorem ga_name [EOk0 G Z] (BB : Bun G F R N) {x : PySem.Str} {p : Pos} : GA G R Z H E0 n sc (.Name x p) (cN N sc x) :=
 bX_ok ga_bad fun h => orX_ok (fun k hk => by obtain ⟨rfl, _⟩ := BB.v x k hk; exact as_name (T := []) BB.cy rfl (k_look h)) ga_bad
theorem ga_list [EOk G Z] {f : PySem.Expr → X} (h : ∀ e, GA G R Z H E0 n sc e (f e)) {es : List PySem.Expr} (hs : es.all notStar = true) : AsLs G Z sc (fun v l s k => asg G.T R H E0 (cL f es) v l s k) n (fun env => assignEach es env) := by
 induction es with
 | nil => exact as_nil
 | cons e r ih =>
  rw [List.all_cons] at hs
  obtain ⟨h1, h2⟩ := and2 hs
  exact as_cons h1 (h e) (ih h2)
theorem ga_ok [EOk G Z] (BB : Bun G F R N) {f : PySem.Expr → X} (I : ∀ e, G1 G R Z H E0 n sc e (f e)) : ∀ (d : Nat) (e : PySem.Expr), GA G R Z H E0 n sc e (cG N f sc d e) := by
 intro d
 induction d with
 | zero => exact fun e => ga_bad
 | succ d ih =>
  intro e
  cases e with
  | Name x p => exact ga_name BB
  | Attribute o nm p => exact orX_ok (fun q hq => as_attr BB.cx BB.cw BB.cy (BB.a nm q hq) (I o).ev) ga_bad
  | Subscript o s p => exact as_sub BB.hR BB.cy (I o).ev (I s).ev
  | Tuple es c p => exact bX_ok ga_bad fun h => as_tup h len_cL (ga_list ih h)
  | _ => exact ga_bad
theorem varsN_of (BB : Bun G F R N) {ns : List PySem.Str} : ∀ {cs : List Nat}, varsN N ns = some cs → ns = cs.map G.nmV := by
 induction ns with
 | nil => intro cs h; cases h; rfl
 | cons x r ih =>
  intro cs h
  unfold varsN at h
  cases z : N.v x with
  | none => rw [z] at h; cases h
  | some v =>
   rw [z] at h; dsimp only at h
   cases y : varsN N r with
   | none => rw [y] at h; cases h
   | some l => rw [y] at h; cases h; rw [ih y, (BB.v x v z).1]; rfl
end
section
variable {Z : ER} [EOk0 G Z] {Hk : Kx → HT'} {E0 : ET} {n : Nat} {sc : Scope} {kx : Kx}
noncomputable def GS (G : Gl) (R : Orc) (Z : ER) (Hk : Kx → HT') (E0 : ET) (kx : Kx) (n : Nat) (sc : Scope) (st : Stmt) (x : X) : Prop := ExOk G Z sc (exc G.T R E0 Hk x kx) n (fun env => exec st env)
theorem gs_bad {st : Stmt} : GS G R Z Hk E0 kx n sc st .bad := fun l σ kn kr kc hk => ff hk
theorem cAsN_ok (BB : Bun G F R N) (hsc : fnKind sc.kind = true) {f : PySem.Expr → X} (I : ∀ e, G1 G R Z (Hk kx) E0 n sc e (f e)) {x : PySem.Str} {q : Pos} {v : PySem.Expr} {p : Pos} : GS G R Z Hk E0 kx n sc (.Assign [.Name x q] v p) (cAsN N f sc x q v) := by
 refine bX_ok gs_bad fun h => ?_
 cases z : swN sc x q v with
 | false => exact ex_asn rfl (I v).ev (ga_name BB) (fun env e => by rw [swN_ok hsc env e, z]) (fun env e => rfl)
 | true =>
  rw [z] at h
  have hc : isCompE v = true := by
   unfold swN at z
   unfold isCompE
   cases y : compSc v with
   | none => rw [y] at z; cases z
   | some s => rfl
  obtain ⟨scope, cpos, acc, g, hu, _, core⟩ := (I v).co (by rw [Bool.not_eq_true'] at h; exact h) hc
  exact ex_asnC rfl (ga_name BB) (fun env e => by rw [swN_ok hsc env e, z]) hu core
theorem cS0_ok (BB : Bun G F R N) (hsc : fnKind sc.kind = true) {f : PySem.Expr → X} (I : ∀ e, G1 G R Z (Hk kx) E0 n sc e (f e)) {st : Stmt} {d : X} (hd : GS G R Z Hk E0 kx n sc st d) : GS G R Z Hk E0 kx n sc st (cS0 N f sc st d) := by
 cases st with
 | Expr v p =>
  show GS G R Z Hk E0 kx n sc _ (match compSc v with | none => .ex (f v) | some _ => .bad)
  cases z : compSc v with
  | none => exact ex_ex (fnKind_of hsc) (sw_none z _ _) (I v).ev
  | some s => exact gs_bad
 | Return o p =>
  cases o with
  | none => exact ex_retN
  | some v => exact ex_ret (I v).ev
 | Assign ts v p =>
  refine oneX_ok gs_bad fun t e => ?_
  subst e
  cases t with
  | Name x q => exact cAsN_ok BB hsc I
  | _ => exact hd
 | _ => exact hd
end
end Mst
end
section
namespace Mst
open PySem PySem.W PyProof.Rows PySem.Calls PySem.SeqAt
variable {G : Gl} {F : Nat → FDef} {R : Orc} {N : Nms}
section
variable {Z : ER} [EOk G Z] {Hk : Kx → HT'} {E0 : ET} {n : Nat} {sc : Scope} {kx : Kx}
theorem cAs_ok (BB : Bun G F R N) (hsc : fnKind sc.kind = true) {f : PySem.Expr → X} (I : ∀ e, G1 G R Z (Hk kx) E0 n sc e (f e)) {t v : PySem.Expr} {p : Pos} : GS G R Z Hk E0 kx n sc (.Assign [t] v p) (cAs N f sc t v) := by
 have pl : notStar t = true → (∀ env : Env, env.scope = sc → swapsWithSole [t] v p.line env = pure false) → (∀ env : Env, env.scope = sc → swappedStores [t] v env = pure none) → GS G R Z Hk E0 kx n sc (.Assign [t] v p) (.asn (cG N f sc 9 t) (f v)) :=
  fun h1 h2 h3 => ex_asn h1 (I v).ev (ga_ok BB I 9 t) h2 h3
 cases t with
 | Attribute o nm q => exact pl rfl (fun env V => by show swapsWith v (some (.Attribute o nm q)) p.line env = _; rw [sw_eq]; cases compSc v <;> rfl) (fun env V => rfl)
 | Subscript o s q => exact pl rfl (fun env V => by show swapsWith v (some (.Subscript o s q)) p.line env = _; rw [sw_eq]; cases compSc v <;> rfl) (fun env V => rfl)
 | Tuple ts c q =>
  have h2 : ∀ env : Env, env.scope = sc → swapsWithSole [.Tuple ts c q] v p.line env = pure false := fun env V => by show swapsWith v (some (.Tuple ts c q)) p.line env = _; rw [sw_eq]; cases compSc v <;> rfl
  show GS G R Z Hk E0 kx n sc _ (match swS sc ts v with
   | none => .bad
   | some o => (match o with
    | none => .asn (cG N f sc 9 (.Tuple ts c q)) (f v)
    | some ns => orX (varsN N ns) (fun cs => bX (nodN cs && ns.all fun x => isK .local (kLook x sc.names)) (.asn (.tTup (tNs cs)) (f v))) .bad))
  cases z : swS sc ts v with
  | none => exact gs_bad
  | some o =>
   cases o with
   | none => exact pl rfl h2 (fun env e => swS_ok z hsc env e)
   | some ns =>
    refine orX_ok (fun cs hcs => bX_ok gs_bad fun h => ?_) gs_bad
    obtain ⟨m1, m2⟩ := and2 h
    have e := varsN_of BB hcs
    subst e
    rw [List.all_eq_true] at m2
    exact ex_asnB BB.cy (nodN_of m1) rfl (fun k hk => k_look (m2 _ (List.mem_map.mpr ⟨k, hk, rfl⟩))) (I v).ev h2 (fun env e => swS_ok z hsc env e)
 | _ => exact gs_bad
end
variable (G)
noncomputable def HdOk (sc : Scope) (exh : Loc → St → (Loc → St → B) → (AV → St → B) → (Loc → St → B) → B) (t : Env → Sem Flow) : Prop :=
 ∀ (l : Loc) (σ : St) (kn : Loc → St → B) (kr : AV → St → B) (kc : Loc → St → B), exh l σ kn kr kc = true → ∀ (env : Env) (A : Around) (s : Shared) (ρ : Rh) (m : PySem.Str → Option Value),
  EnvOk G sc A env l ρ s.heap m → SR G ρ σ s.heap → wpAny (model G.prog G.w) A (t env) (QX G sc A env ρ s kn kr kc) (fun V V => False) s
variable {G}
inductive C0 : Const → AV → Prop
 | none : C0 .none .none
 | bool (b : Bool) : C0 (.bool b) (.bool b)
theorem c0X_ok {P : X → Prop} (hb : P .bad) {c : Const} {k : AV → X} (h : ∀ a, C0 c a → P (k a)) : P (c0X c k) := by
 cases c with
 | none => exact h _ .none
 | bool b => exact h _ (.bool b)
 | _ => exact hb
theorem cst_raw {c : Const} {v : AV} (h : C0 c v) {k0 : Nat} {p : Pos} {σ : St} {k : AV → St → B} {env : Env} {A : Around} {s : Shared} {ρ : Rh} {E : Value → Shared → Prop} (hk : k v σ = true) (X : SR G ρ σ s.heap) :
 wpAny (model G.prog G.w) A (eval (.Constant c k0 p) env) (QE (G := G) ρ s k) E s := by
 cases h with
 | none => exact Constant_none (QE.now X .none hk)
 | bool b => exact Constant_bool (QE.now X .bool hk)
section
variable {Hk : Kx → HT'} {E0 : ET} {kx : Kx} {sc : Scope}
noncomputable def GH (G : Gl) (R : Orc) (Hk : Kx → HT') (E0 : ET) (kx : Kx) (sc : Scope) (hb : List Stmt) (x : X) : Prop := HdOk G sc (exc G.T R E0 Hk x kx) (fun env => execs hb env)
theorem gh_bad {hb : List Stmt} : GH G R Hk E0 kx sc hb .bad := fun l σ kn kr kc hk => ff hk
theorem cH_ok (BB : Bun G F R N) {hb : List Stmt} : GH G R Hk E0 kx sc hb (cH N sc hb) := by
 refine oneX_ok gh_bad fun st e => ?_
 subst e
 cases st with
 | Return o q =>
  cases o with
  | none => exact gh_bad
  | some v =>
   refine conX_ok gh_bad fun c i p e => c0X_ok gh_bad fun a ha => ?_
   subst e
   intro l σ kn kr kc hk env A s ρ m E X
   refine wpAny_execs_cons (wpAny_Return_some (wpAny_mono (cst_raw ha (k := kr) hk X) (fun w s₁ q => ?_) fun V V e => e))
   obtain ⟨a, σ₁, ρ₁, P, hw, hk₁⟩ := q
   exact ⟨σ₁, ρ₁, P.any, a, hw, hk₁⟩
 | Assign ts v q =>
  refine oneX_ok gh_bad fun t e => nameX_ok (fun x np e1 => conX_ok gh_bad fun c i p e2 => c0X_ok gh_bad fun a ha => ?_) gh_bad
  subst e; subst e1; subst e2
  refine bX_ok (P := fun y => GH G R Hk E0 kx sc _ (.cons (.asn y (.cst a)) .nil)) (fun l σ kn kr kc hk => ff hk) fun h => orX_ok (P := fun y => GH G R Hk E0 kx sc _ (.cons (.asn y (.cst a)) .nil)) (fun k hk => ?_) (fun l σ kn kr kc hk => ff hk)
  obtain ⟨rfl, _⟩ := BB.v x k hk
  intro l σ kn kr kc hk env A s ρ m E X
  have hk' : env.kindOf (G.nmV k) = some .local := by unfold Env.kindOf; rw [E.scope]; exact k_look h
  refine wpAny_execs_cons ?_
  rw [exec_Assign]
  refine wpAny_bind (wpAny_standAt (wpAny_bind (wpAny_of_eq (a := false) rfl ?_)))
  rw [if_neg (by decide)]
  refine wpAny_bind (wpAny_mono (cst_raw ha (k := fun v s => l.setK k v fun l => kn l s) hk X) (fun w s₁ q => ?_) fun V V e => e)
  obtain ⟨a, σ₁, ρ₁, P, hw, hk₁⟩ := q
  refine wpAny_bind (wpAny_of_eq (a := none) rfl ?_)
  have e1 : (assignEach [.Name (G.nmV k) np] env).map (·.2) = [assign (.Name (G.nmV k) np) env] := by rw [assignEach_cons rfl]; rfl
  show wpAny _ _ (do assignAll w ((assignEach [.Name (G.nmV k) np] env).map (·.2)); pure Flow.next) _ _ _
  rw [e1]
  have E₁ := E.after P
  obtain ⟨l', k1, k2, k3⟩ := Loc.setK_some hk₁
  refine wpAny_bind (assign_Name (storeName_C hk' E₁.ns (fun h' hn hs hcl => ?_) (by rw [E.kind]; rfl)))
  obtain ⟨P₂, E₂⟩ := E₁.store BB.cy P.sr hw hk' k2 k3 hn hs hcl (s₁.toks + 1)
  exact wpAny_pure (wpAny_execs_nil ⟨σ₁, ρ₁, (P.any (own' := ownOf env)).trans P₂, l', _, E₂, k1⟩)
 | _ => exact gh_bad
end
structure BunX (ex : PySem.Str → Option Nat) (Ze Zs : Kx → ER) : Prop where
 raise : ∀ (c : Nat) (x : PySem.Str) (sc : Scope) (kx : Kx) (n : Nat) (np cp : Pos) (a : PySem.Str) (k : Nat) (p1 p2 : Pos), ex x = some c → sc.names.lookup x = some .globalImplicit → sc.kind = .function →
  ExOk G (Zs kx) sc (fun V s V V V => kx c s) n (fun env => exec (.Raise (some (.Call (.Name x np) [.Constant (.str a) k cp] [] p1)) none p2) env)
 try' : ∀ (c : Nat) (x : PySem.Str) (sc : Scope) (kx : Kx) (n : Nat) (np hp p : Pos) (s : Stmt) (hb : List Stmt) (exb : Kx → Loc → St → (Loc → St → B) → (AV → St → B) → (Loc → St → B) → B) (exh : Loc → St → (Loc → St → B) → (AV → St → B) → (Loc → St → B) → B),
  ex x = some c → sc.names.lookup x = some .globalImplicit → sc.kind = .function → hb ≠ [] → (∀ kx', ExOk G (Ze kx') sc (exb kx') n (fun env => execs [s] env)) → HdOk G sc exh (fun env => execs hb env) →
  ExOk G (Zs kx) sc (fun l s kn kr kc => exb (fun c' s => ifB (Nat.beq c' c) (exh l s kn kr kc) false) l s kn kr kc) n (fun env => exec (.Try [s] [.ExceptHandler (some (.Name x np)) none hb hp] [] [] p) env)
theorem HOk.mono {Z Z' : ER} {H : HT'} {n : Nat} (h : HOk G Z F H n) (q : ∀ env A ρ s e s', Z env A ρ s e s' → Z' env A ρ s e s') : HOk G Z' F H n := by
 intro f as ks σ k hk env A s ρ vs kws st X hv hkw fine Rh
 refine codeAny_mono (h f as ks σ k hk env A s ρ vs kws st X hv hkw fine Rh) fun r s' => ?_
 cases r with
 | ok fl => cases fl <;> exact id
 | error e => exact q _ _ _ _ _ _
section
variable {Ze Zs : Kx → ER} [EFam G Ze Zs] {Hk : Kx → HT'} {E0 : ET} {n : Nat} {sc : Scope} {kx : Kx}
theorem cRaise_ok (XX : BunX (G := G) N.ex Ze Zs) (hsc : fnKind sc.kind = true) {e c : Option PySem.Expr} {p : Pos} : GS G R (Zs kx) Hk E0 kx n sc (.Raise e c p) (cRaise N sc e c) := by
 haveI := EFam.okS (G := G) (Ze := Ze) (Zs := Zs) kx
 cases c with
 | some _ => exact gs_bad
 | none =>
  cases e with
  | none => exact gs_bad
  | some e =>
   refine calX_ok (fun fn es ks q e1 => nameX_ok (fun x np e2 => oneX_ok gs_bad fun a e3 => conX_ok gs_bad fun c i cp e4 => ?_) gs_bad) gs_bad
   subst e1; subst e2; subst e3; subst e4
   cases c with
   | str a =>
    refine bX_ok gs_bad fun h => orX_ok (fun k hk => ?_) gs_bad
    obtain ⟨h1, h2⟩ := and2 h
    rw [List.isEmpty_iff] at h1; subst h1
    exact XX.raise k x sc kx n np cp a i q p hk (k_look h2) (fnKind_of hsc)
   | _ => exact gs_bad
theorem cTry_ok (BB : Bun G F R N) (XX : BunX (G := G) N.ex Ze Zs) (hsc : fnKind sc.kind = true) {f : PySem.Expr → X} (I : ∀ kx e, G1 G R (Ze kx) (Hk kx) E0 n sc e (f e)) {b : List Stmt} {hs : List ExceptHandler} {els fin : List Stmt} {p : Pos} : GS G R (Zs kx) Hk E0 kx n sc (.Try b hs els fin p) (cTry N f sc b hs els fin) := by
 haveI := EFam.okS (G := G) (Ze := Ze) (Zs := Zs) kx
 refine bX_ok gs_bad fun g => oneX_ok gs_bad fun s e1 => oneX_ok gs_bad fun h e2 => ?_
 obtain ⟨h1, h2⟩ := and2 g
 have e3 := List.isEmpty_iff.mp h1
 have e4 := List.isEmpty_iff.mp h2
 clear h1 h2 g
 subst e1; subst e2; subst e3; subst e4
 obtain ⟨ty, nm, hb, hp⟩ := h
 cases nm with
 | some _ => exact gs_bad
 | none =>
  cases ty with
  | none => exact gs_bad
  | some e =>
   refine nameX_ok (fun x np e => bX_ok gs_bad fun h => orX_ok (fun c hc => ?_) gs_bad) gs_bad
   subst e
   obtain ⟨h1, h2⟩ := and2 h
   exact XX.try' c x sc kx n np hp p s hb (exc G.T R E0 Hk (.cons (cS0 N f sc s .bad) .nil)) (exc G.T R E0 Hk (cH N sc hb) kx) hc (k_look h1) (fnKind_of hsc) (fun q => by rw [q] at h2; cases h2)
    (fun kx' => haveI := EFam.ok0 (G := G) (Ze := Ze) (Zs := Zs) kx'; ex_one (cS0_ok BB hsc (I kx') gs_bad)) (cH_ok BB)
theorem cS_ok (BB : Bun G F R N) (XX : BunX (G := G) N.ex Ze Zs) (hsc : fnKind sc.kind = true) (hHe : ∀ kx, HOk G (Ze kx) F (Hk kx) n) (hc : ∃ Hn, HOk G noE F Hn n ∧ E0 = ev G.T R Hn (fun V V V V => false)) :
 ∀ (d : Nat) (kx : Kx) (st : Stmt), GS G R (Zs kx) Hk E0 kx n sc st (cS N sc d st) := by
 have hH : ∀ kx, HOk G (Zs kx) F (Hk kx) n := fun kx => (hHe kx).mono fun V V V V V V z => EFam.up (G := G) (Ze := Ze) z
 have I0 : ∀ kx e, G1 G R (Ze kx) (Hk kx) E0 n sc e (cE N 40 true sc e) := fun kx e => haveI := EFam.ok0 (G := G) (Ze := Ze) (Zs := Zs) kx; cE_ok BB 40 true sc e (Ze kx) (Hk kx) E0 n (hHe kx) (fun V => hc)
 intro d
 induction d with
 | zero => exact fun kx st l σ kn kr kc hk => ff hk
 | succ d ih =>
  intro kx st
  haveI := EFam.okS (G := G) (Ze := Ze) (Zs := Zs) kx
  have I : ∀ e, G1 G R (Zs kx) (Hk kx) E0 n sc e (cE N 40 true sc e) := fun e => cE_ok BB 40 true sc e (Zs kx) (Hk kx) E0 n (hH kx) (fun V => hc)
  have L : ∀ l, ExOk G (Zs kx) sc (exc G.T R E0 Hk (cLs (cS N sc d) l) kx) n (fun env => execs l env) := by
   intro l
   induction l with
   | nil => exact ex_nil
   | cons s r ih2 => exact ex_cons (exa := exc G.T R E0 Hk (cS N sc d s) kx) (exb := exc G.T R E0 Hk (cLs (cS N sc d) r) kx) (ih kx s) ih2
  refine cS0_ok BB hsc I ?_
  cases st with
  | Assign ts v p => exact oneX_ok gs_bad fun t e => by subst e; exact cAs_ok BB hsc I
  | If e a b p => exact ex_iff (I e).tr (L a) (L b)
  | For t it b els p =>
   refine bX_ok gs_bad fun h => ?_
   obtain ⟨h1, h2⟩ := and2 h
   rw [List.isEmpty_iff] at h1; subst h1
   have ht := gT_ok BB (Z := Zs kx) (n := n) (sc := sc) 9 t []
   rw [remT_nil] at ht
   exact ex_for BB.cy rfl (src_ok I) (folded h2) ht (L b)
  | Continue p => exact ex_cont
  | Pass p => exact ex_pass
  | Raise e c p => exact cRaise_ok XX hsc
  | Try b hs els fin p => exact cTry_ok BB XX hsc I0
  | _ => exact gs_bad
theorem cSs_ok (BB : Bun G F R N) (XX : BunX (G := G) N.ex Ze Zs) (hsc : fnKind sc.kind = true) (hHe : ∀ kx, HOk G (Ze kx) F (Hk kx) n) (hc : ∃ Hn, HOk G noE F Hn n ∧ E0 = ev G.T R Hn (fun V V V V => false)) (d : Nat) (kx : Kx) (l : List Stmt) :
 ExOk G (Zs kx) sc (exc G.T R E0 Hk (cLs (cS N sc d) l) kx) n (fun env => execs l env) := by
 haveI := EFam.okS (G := G) (Ze := Ze) (Zs := Zs) kx
 induction l with
 | nil => exact ex_nil
 | cons s r ih2 => exact ex_cons (exa := exc G.T R E0 Hk (cS N sc d s) kx) (exb := exc G.T R E0 Hk (cLs (cS N sc d) r) kx) (cS_ok BB XX hsc hHe hc d kx s) ih2
end
end Mst
end
section
namespace Mst
open PySem
noncomputable def tilde (n : Nat) : PySem.Str := ⟨(List.replicate (n + 1) 126).toArray⟩
noncomputable def dig : Nat → Nat → List Nat → List Nat := Nat.rec (fun V l => l) fun V f n l => match Nat.ble n 1 with | true => l | false => f (Nat.div n 256) (Nat.mod n 256 :: l)
noncomputable def sOf (k : Nat) : PySem.Str := ⟨(dig 64 k []).toArray⟩
noncomputable def sKey (x : PySem.Str) : Nat := x.cps.toList.foldl (fun a c => Nat.add (Nat.mul a 256) c) 1
noncomputable def nmVK : List Nat := [0x1706f7274, 0x173656c66, 0x1627269646765, 0x174726565, 0x16e756d626572, 0x162706475, 0x173696465, 0x1726f77, 0x1746f6c64, 0x16f6374657473, 0x1766563746f72, 0x1666f756e64, 0x17461696c, 0x1736f75726365, 
 0x1636f7374, 0x1666c616773, 0x174696d6573, 0x1726f6c65, 0x16c656e, 0x16e616d65, 0x1726f7773, 0x16f74686572, 0x16e756d6265725f6f6374657473, 0x16d6178, 0x15f6c61775f626574746572, 0x1706c616365, 
 0x17072696f72697479, 0x168656164, 0x16279746573, 0x1726567696f6e616c, 0x1706f72745f6964, 0x16b696e64, 0x169735f696e7465726e616c, 0x16f63746574735f6e756d626572, 0x154696d6573, 0x1696e7374616e6365, 
 0x169735f6f776e, 0x16f6e65, 0x1776f727468, 0x1726567696f6e, 0x1726f6f74, 0x16f776e, 0x1696e74, 0x1647565, 0x16d616465, 0x1616765, 0x16d616e79, 0x1736f72746564, 0x15f6c61775f726567696f6e, 0x172616e6765, 
 0x16174, 0x152415049445f53495a45, 0x15f6c61775f74616b65, 0x173697a65, 0x1696e7374616e636573, 0x168656c6c6f, 0x142706475, 0x1696e6e6572, 0x169735f6d6f766564, 0x16d696e, 0x1736372697074, 
 0x169735f7269676874, 0x1626974, 0x1626967, 0x176657273696f6e, 0x154726565526f77, 0x1547265655461696c, 0x162657374, 0x1746f70, 0x15f6c61775f627269646765, 0x1776179, 0x1726561645f627269646765, 
 0x1484541445f53495a45, 0x16272696467655f6f6374657473, 0x14b494e4453, 0x1766c616e, 0x174656c6c6572, 0x169735f646f6e65, 0x169735f73687574, 0x1726f6f746564, 0x163656c6c, 0x17475726e, 0x16d657373616765, 
 0x16d61785f616765, 0x164656c6179, 0x16b6570745f646967657374, 0x17265766973696f6e, 0x1706f72745f7072696f72697479, 0x1686f7073, 0x1545245455f524f4c4553, 0x1524f575f53495a45, 0x1466f726d4572726f72, 
 0x17461696c5f6f6374657473, 0x1524f4c4553, 0x1464c41475f42495453, 0x168656c64, 0x15f6c61775f74656c6c696e67, 0x14d4f53545f434f5354, 0x15f6c61775f6f6e65, 0x16f63746574, 0x162697473, 0x16e756d62657273, 
 0x1524547494f4e5f53495a45, 0x169735f6672657368, 0x169735f6865617264, 0x169735f696e6e6572, 0x169735f66726565, 0x16d7573745f73687574, 0x16d61795f6f70656e, 0x169735f6c696b65, 0x1626567696e73, 0x1656e6473, 
 0x16e756d6265725f6f665f74726565, 0x16d69786564, 0x172657374, 0x169735f746f6c64, 0x15472656554656c6c696e67, 0x169735f68656c64, 0x1686561725f74726565, 0x16f70656e6564, 0x169735f6265796f6e64, 
 0x16d6f73745f686f7073, 0x169735f6f6c64, 0x1647261776e, 0x17468696e6773, 0x14d7374427269646765, 0x16d6164655f62706475, 0x16c61737473, 0x153657474696e674572726f72, 0x14e414d455f53495a45, 
 0x1726561645f747265655f7461696c, 0x14348414e47455f524f4c4553, 0x1746f6c645f666c616773, 0x1636865636b5f7072696f72697479, 0x17072696f726974696573, 0x1506f7274526f77, 0x16e6f5f666c616773, 
 0x15f6c61775f746f70, 0x15f6c61775f636f7374735f7269676874, 0x14d4f53545f494e5354414e43455f6d73745f766563746f7273, 0x169735f74616b656e, 0x15472656553696465, 0x169735f6368616e6765, 
 0x169735f6368616e67655f61636b, 0x169735f70726f706f73616c, 0x169735f61677265656d656e74, 0x169735f6c6561726e696e67, 0x169735f666f7277617264696e67, 0x1636865636b5f62706475, 0x17075745f6e756d626572, 
 0x14d4f53545f544f4c445f726567696f6e73, 0x16272696467655f7072696f72697479, 0x1636865636b5f726f77, 0x16469766d6f64, 0x1776974685f74656c6c6572, 0x163686f6f73655f726f6f74, 0x1636973745f746f6c64, 
 0x16c6966655f6f66, 0x1686561725f61677265656d656e74, 0x16b6565705f746f6c64, 0x16c6f73655f65646765, 0x16e6f74655f736f7274, 0x17461696c5f6865617264, 0x169735f6f776e5f7461696c, 0x1636973745f74656c6c696e67, 
 0x16167726565645f6f6e77617264, 0x1686f6c64, 0x169735f65646765, 0x169735f7374726169676874, 0x1526567696f6e, 0x1747265655f636f7374, 0x16f75746572, 0x15f6c61775f706f6f6c, 0x1706f72745f6f6374657473, 
 0x15041434b4544, 0x174696d65735f6f6374657473, 0x1726561645f706f7274, 0x1636f6465, 0x14348414e47455f53495a45, 0x16b696e645f6f66, 0x14b4e4f574e, 0x1434f4e4649475f53495a45, 0x1726561645f766563746f72, 
 0x1726561645f74696d6573, 0x1726561645f7461696c, 0x1636865636b5f726567696f6e, 0x164696374, 0x16d6163, 0x173756d, 0x1726561645f726f77, 0x14d4f53545f524f5753, 0x1636973745f626568696e64, 
 0x169735f63616e646964617465, 0x164657369676e617465645f766563746f72, 0x1726f6c655f62795f766563746f7273, 0x148454c4c4f535f4b455054, 0x173616d655f726567696f6e, 0x1636973745f666c616773, 
 0x16d61795f6167726565, 0x174616b65735f6f766572, 0x17475726e5f696e7465726e616c, 0x16172655f73796e636564, 0x16f70656e65645f62795f74696d65, 0x16d6f7665645f64697361626c6564, 0x16d6f7665645f6265796f6e64, 
 0x16d6f7665645f726f6f74, 0x16d6f7665645f64657369676e61746564, 0x16d6f7665645f626c6f636b6564, 0x1747265655f726f77, 0x1544f4c445f524f4c4553, 0x1747265655f7461696c, 0x1636865636b5f706f727473, 
 0x14d4f53545f5455524e53, 0x16c61636b, 0x1457863657074696f6e, 0x15377697463684572726f72, 0x1766563746f725f6f6374657473, 0x14449474553545f53495a45, 0x169735f66726f6d5f73616d655f706f7274, 
 0x1747265655f626568696e64, 0x16f776e5f747265655f766563746f72, 0x1626568696e645f706f7274, 0x1726f6c655f626573696465, 0x1686561725f626574746572, 0x154726565506f7274, 0x1706f727473, 
 0x14d4f53545f5052494f52495459, 0x14d4f53545f544f4c445f6d7374, 0x1506f727453696465, 0x1686561725f62706475, 0x163686f6f73655f726f6c6573, 0x15f6c61775f69735f72656675736564, 0x17075743136, 
 0x14d4f53545f494e5354414e43455f726567696f6e73, 0x1726f775f6f6374657473, 0x173656e64735f616c77617973, 0x173656e645f77616974696e67, 0x174616b655f6f776e, 0x1535052454144494e475f524f4c4553, 
 0x1756e7061636b5f62706475, 0x15f6c61775f68656c645f7269676874, 0x1726f775f74656c6c696e67, 0x16d6f7665645f706f7274, 0x17061636b5f62706475, 0x15f6c61775f6f6c645f7269676874, 
 0x15f6c61775f7461696c735f7269676874]
noncomputable def nmAK : List Nat := [0x16e756d626572, 0x1726f6c65, 0x1766563746f72, 0x1706f727473, 0x174696d6573, 0x1686f7073, 0x1616765, 0x163697374, 0x173796e636564, 0x1666f727761726473, 0x1696e666f, 0x16b696e64, 0x1627269646765, 
 0x17472656573, 0x169735f696e7465726e616c, 0x173696465, 0x172655f726f6f74, 0x169735f65646765, 0x16c6561726e73, 0x17369646573, 0x1616772656564, 0x164656c6179, 0x173796e63, 0x1726f6f745f6c656674, 
 0x164657369676e61746564, 0x1696e7374616e6365, 0x1636f7374, 0x1666c616773, 0x1666f72776172645f6c656674, 0x1726f77, 0x169735f7570, 0x16167726565, 0x16d61785f616765, 0x176657273696f6e, 0x173656e6473, 
 0x177616e74735f746f5f73656e64, 0x16d616e795f73656e74, 0x16368616e67655f6c656674, 0x170726f706f73696e67, 0x16c6966655f6c656674, 0x168656c6c6f, 0x17461696c, 0x1726f6f745f706f7274, 
 0x1746f6c645f696e73696465, 0x168656c6c6f5f6c656674, 0x16e756d62657273, 0x170726f706f736564, 0x1736574746c655f6c656674, 0x172656365697665, 0x177616e745f746f5f73656e64, 0x16f7468657273, 0x1726f6f74, 
 0x169735f6368616e6765, 0x1746f6c64, 0x1726567696f6e616c, 0x16272696467655f7072696f72697479, 0x1706f72745f7072696f72697479, 0x1726567696f6e, 0x1726f7773, 0x1696e7374616e63655f7472656573, 
 0x16f7765735f61636b, 0x16261636b75705f6c656674, 0x173656e74, 0x17072696f72697479, 0x1736574746c65, 0x1616c6c5f7472656573, 0x1746f6c645f61676573, 0x169735f6368616e67655f61636b, 
 0x169735f70726f706f73616c, 0x169735f61677265656d656e74, 0x169735f6c6561726e696e67, 0x169735f666f7277617264696e67, 0x16b6570745f646967657374, 0x16d6f73745f686f7073, 0x1726567696f6e5f6f6374657473, 
 0x1706f72745f6964, 0x1636c656172, 0x16f6374657473, 0x16e616d65, 0x17265766973696f6e, 0x1696e7374616e636573, 0x161676573, 0x1666c7573686573, 0x1686f6c64, 0x15f5f696e69745f5f, 0x174656c6c5f6368616e6765, 
 0x174656c6c5f6174, 0x16d657373616765, 0x169735f7374726169676874, 0x174616b655f73656e74, 0x16172655f696e7374616e6365735f73796e636564, 0x1626567696e, 0x16c696e6b5f7570, 0x17365636f6e64, 0x1646967657374, 
 0x1706f72745f696e, 0x17365636f6e645f696e, 0x17370726561645f6368616e6765, 0x1726567696f6e616c5f726f6f74, 0x17365636f6e645f6f66, 0x173746570]
noncomputable def nmSK : List Nat := [0x16e6f6e65, 0x17261706964, 0x1616c7465726e617465, 0x1726f6f74, 0x164657369676e61746564, 0x16368616e6765, 0x1636f6e666967, 0x16173636969, 0x100, 0x170726f706f73616c, 0x16c6561726e696e67, 
 0x1666f7277617264696e67, 0x161677265656d656e74, 0x16d6173746572, 0x17265636569766564, 0x16f6c64, 0x164697361626c6564, 0x16d696e65, 0x161676564, 0x16d7374, 0x16261636b7570, 0x172, 0x173, 0x1626967]
noncomputable def nmVL : List PySem.Str := nmVK.map sOf
noncomputable def nmAL : List PySem.Str := nmAK.map sOf
noncomputable def nmSL : List PySem.Str := nmSK.map sOf
noncomputable def nth : List PySem.Str → Nat → Nat → PySem.Str
 | [], _, m => tilde m
 | x :: r, n, m => match n with | 0 => x | n + 1 => nth r n m
noncomputable def nmVf (n : Nat) : PySem.Str := nth nmVL n n
noncomputable def nmAf (n : Nat) : PySem.Str := nth nmAL n n
noncomputable def nmSf (n : Nat) : PySem.Str := nth nmSL n n
noncomputable def lkG {α : Type} (x : PySem.Str) (k : Nat) : List (Nat × α) → Option α
 | [] => none
 | p :: r => match Nat.beq p.1 k with | true => (match strEq x (sOf p.1) with | true => some p.2 | false => none) | false => lkG x k r
noncomputable def lk {α : Type} (l : List (Nat × α)) (x : PySem.Str) : Option α := lkG x (sKey x) l
noncomputable def ixG (k : Nat) : List Nat → Nat → Option Nat
 | [], _ => none
 | a :: r, n => match Nat.beq a k with | true => some n | false => ixG k r (Nat.succ n)
noncomputable def ixOf (l : List Nat) (nm : Nat → PySem.Str) (x : PySem.Str) : Option Nat := match ixG (sKey x) l 0 with
 | some n => (match strEq x (nm n) with | true => some n | false => none)
 | none => none
noncomputable def pOf : Nat → Nat → Pth := Nat.rec (fun V => .e) fun V f n => match n with | 0 => .e | m + 1 => (match Nat.mod m 2 with | 0 => .l (f (Nat.div m 2)) | _ => .r (f (Nat.div m 2)))
noncomputable def aPth (x : PySem.Str) : Option Pth := match ixG (sKey x) nmAK 0 with
 | some n => (match strEq x (nmAf (pIdx (pOf 9 n))) with | true => some (pOf 9 n) | false => none)
 | none => none
noncomputable def gloL : List (Nat × AV) := [(0x15f6c61775f626574746572, (.tup (.cons (.int (.lit 4096)) (.cons (.int (.lit 50)) .nil)))), (0x152415049445f53495a45, (.int (.lit 36))), (0x1484541445f53495a45, (.int (.lit 64))), 
 (0x14b494e4453, (.kd 0)), (0x1545245455f524f4c4553, (.tup (.cons (.str 13) (.cons (.str 2) (.cons (.str 3) (.cons (.str 4) .nil)))))), (0x1524f575f53495a45, (.int (.lit 16))), 
 (0x1524f4c4553, (.tup (.cons (.str 0) (.cons (.str 2) (.cons (.str 3) (.cons (.str 4) .nil)))))), 
 (0x1464c41475f42495453, (.tup (.cons (.tup (.cons (.str 5) (.cons (.int (.lit 1)) .nil))) (.cons (.tup (.cons (.str 9) (.cons (.int (.lit 2)) .nil))) (.cons (.tup (.cons (.str 10) (.cons (.int (.lit 16)) .nil))) (.cons (.tup (.cons (.str 11) (.cons (.int (.lit 32)) .nil))) (.cons (.tup (.cons (.str 12) (.cons (.int (.lit 64)) .nil))) .nil))))))), 
 (0x14d4f53545f434f5354, (.int (.lit 4294967295))), (0x1524547494f4e5f53495a45, (.int (.lit 51))), (0x14e414d455f53495a45, (.int (.lit 32))), 
 (0x14348414e47455f524f4c4553, (.tup (.cons (.str 3) (.cons (.str 4) (.cons (.str 13) .nil))))), (0x14d4f53545f494e5354414e43455f6d73745f766563746f7273, (.int (.lit 4094))), 
 (0x14d4f53545f544f4c445f726567696f6e73, (.int (.lit 64))), 
 (0x15041434b4544, (.tup (.cons (.tup (.cons (.int (.lit 0)) (.cons (.str 6) .nil))) (.cons (.tup (.cons (.int (.lit 0)) (.cons (.str 5) .nil))) (.cons (.tup (.cons (.int (.lit 2)) (.cons (.str 1) .nil))) (.cons (.tup (.cons (.int (.lit 3)) (.cons (.str 1) .nil))) .nil)))))), 
 (0x14348414e47455f53495a45, (.int (.lit 4))), (0x14b4e4f574e, (.int (.lit 3))), (0x1434f4e4649475f53495a45, (.int (.lit 35))), (0x14d4f53545f524f5753, (.int (.lit 64))), 
 (0x148454c4c4f535f4b455054, (.int (.lit 3))), (0x1544f4c445f524f4c4553, (.kd 1)), (0x14d4f53545f5455524e53, (.int (.lit 400))), (0x14449474553545f53495a45, (.int (.lit 16))), 
 (0x14d4f53545f5052494f52495459, (.int (.lit 61440))), (0x14d4f53545f544f4c445f6d7374, (.int (.lit 255))), (0x14d4f53545f494e5354414e43455f726567696f6e73, (.int (.lit 4094))), 
 (0x1535052454144494e475f524f4c4553, (.tup (.cons (.str 3) (.cons (.str 4) (.cons (.str 13) .nil))))), (0x14d4f53545f484f5053, (.int (.lit 20)))]
noncomputable def fnL : List (Nat × Nat) := [(0x15f77616c6c, 0), (0x16368616e6765645f6e6f74696365, 9), (0x16e756d6265725f6f6374657473, 10), (0x16f63746574735f6e756d626572, 11), (0x16272696467655f6f6374657473, 12), (0x1706f72745f6f6374657473, 13), 
 (0x1766563746f725f6f6374657473, 14), (0x174696d65735f6f6374657473, 15), (0x1636865636b5f62706475, 16), (0x17061636b5f62706475, 17), (0x1726561645f627269646765, 18), (0x1726561645f706f7274, 19), 
 (0x1726561645f766563746f72, 20), (0x1726561645f74696d6573, 21), (0x1726561645f7461696c, 22), (0x16b696e645f6f66, 23), (0x1756e7061636b5f62706475, 24), (0x17475726e65645f6c656674, 25), 
 (0x166696c6c65645f6f6374657473, 26), (0x1626c6f636b5f776f726473, 27), (0x1737465705f7061727473, 28), (0x1626c6f636b5f646967657374, 29), (0x16d64355f646967657374, 30), (0x16d64355f776974685f6b6579, 31), 
 (0x17075745f6e756d626572, 32), (0x17075743136, 33), (0x1636865636b5f726567696f6e, 40), (0x173616d655f726567696f6e, 41), (0x16e6f5f666c616773, 47), (0x1636865636b5f726f77, 48), 
 (0x1726f775f6f6374657473, 49), (0x17461696c5f6f6374657473, 50), (0x1726561645f726f77, 51), (0x1726561645f747265655f7461696c, 52), (0x1636973745f746f6c64, 53), (0x1636973745f626568696e64, 54), 
 (0x1747265655f626568696e64, 55), (0x1776974685f74656c6c6572, 56), (0x169735f66726f6d5f73616d655f706f7274, 57), (0x174616b65735f6f766572, 58), (0x1626568696e645f706f7274, 59), 
 (0x169735f63616e646964617465, 60), (0x16f776e5f747265655f766563746f72, 61), (0x163686f6f73655f726f6f74, 62), (0x164657369676e617465645f766563746f72, 63), (0x1726f6c655f62795f766563746f7273, 64), 
 (0x1726f6c655f626573696465, 65), (0x169735f6265796f6e64, 66), (0x163686f6f73655f726f6c6573, 67), (0x174616b655f6f776e, 68), (0x16c6966655f6f66, 69), (0x17461696c5f6865617264, 71), 
 (0x169735f6f776e5f7461696c, 72), (0x1636973745f666c616773, 73), (0x1636973745f74656c6c696e67, 74), (0x1726f775f74656c6c696e67, 75), (0x16d61795f6167726565, 76), (0x1686561725f61677265656d656e74, 77), 
 (0x16b6565705f746f6c64, 78), (0x1686561725f626574746572, 79), (0x1686561725f616761696e, 80), (0x1686561725f776f727365, 81), (0x169735f74616b656e, 82), (0x1686561725f74726565, 83), 
 (0x17475726e5f696e7465726e616c, 84), (0x16c6f73655f65646765, 85), (0x16e6f74655f736f7274, 86), (0x1686561725f6e6f74696365, 87), (0x1686561725f62706475, 88), (0x16d6f7665645f64697361626c6564, 89), 
 (0x173796e635f616c6c, 90), (0x16172655f73796e636564, 91), (0x16167726565645f6f6e77617264, 92), (0x16d6f7665645f726f6f74, 93), (0x16f70656e6564, 94), (0x16f70656e65645f62795f74696d65, 95), 
 (0x16d6f7665645f64657369676e61746564, 96), (0x16d6f7665645f626c6f636b6564, 97), (0x16d6f7665645f6265796f6e64, 98), (0x16d6f7665645f706f7274, 99), (0x1746f6c645f666c616773, 111), 
 (0x1747265655f726f77, 112), (0x1747265655f7461696c, 113), (0x16d6164655f62706475, 114), (0x173656e64735f616c77617973, 115), (0x173656e645f77616974696e67, 116), (0x1636865636b5f7072696f72697479, 117), 
 (0x1636865636b5f706f727473, 118), (0x15f6c61775f746f70, 151), (0x15f6c61775f706f6f6c, 152), (0x15f6c61775f74616b65, 153), (0x15f6c61775f6f6e65, 154), (0x15f6c61775f726567696f6e, 155), 
 (0x15f6c61775f627269646765, 156), (0x15f6c61775f74656c6c696e67, 157), (0x15f6c61775f636f7374735f7269676874, 158), (0x15f6c61775f68656c645f7269676874, 159), (0x15f6c61775f6f6c645f7269676874, 160), 
 (0x15f6c61775f7461696c735f7269676874, 161), (0x15f6c61775f69735f72656675736564, 162), (0x16c6177, 163)]
noncomputable def clL : List (Nat × Nat) := [(0x154696d6573, 0), (0x142706475, 1), (0x1526567696f6e, 2), (0x154726565526f77, 3), (0x1547265655461696c, 4), (0x15472656554656c6c696e67, 5), (0x1506f727453696465, 6), (0x154726565506f7274, 7), 
 (0x15472656553696465, 8), (0x14d7374427269646765, 9), (0x1506f7274526f77, 10)]
noncomputable def exL : List (Nat × Nat) := [(0x1466f726d4572726f72, 12), (0x153657474696e674572726f72, 15)]
noncomputable def blL : List (Nat × Nat) := [(0x16c656e, 0), (0x16d696e, 1), (0x16d6178, 2), (0x1736f72746564, 3), (0x173756d, 4), (0x16469766d6f64, 5), (0x1696e74, 6), (0x16279746573, 7), (0x172616e6765, 8), (0x17475706c65, 9), 
 (0x164696374, 10)]
noncomputable def msL : List (Nat × Nat) := [(0x1617070656e64, 0), (0x1706f70, 1), (0x1676574, 2), (0x1656e636f6465, 3), (0x169736173636969, 4), (0x16a6f696e, 5), (0x1746f5f6279746573, 6), (0x1696e646578, 7)]
noncomputable def pthL : List Nat := [0, 0, 0, 2600, 2601, 0, 2700, 2701, 2702, 0, 19, 20, 21, 22, 23, 24, 25, 26, 27, 28, 29, 30, 31, 32, 33, 0, 0, 0, 0, 0, 0, 0, 48, 49, 6700, 0, 6702, 0, 6704, 6705, 58, 59, 7700, 7701, 0, 7800, 0, 70, 
 71, 72, 73, 74, 75, 76, 77, 78, 79, 0, 81, 84, 85, 86, 87, 88, 89, 90, 91, 92, 93, 94, 10700, 98, 99, 100, 101, 102, 0, 104, 105, 106, 0, 0, 109, 110, 111, 112, 113, 0, 115, 117, 0, 119, 120, 121, 122, 
 123, 124, 0, 126, 127, 13900, 13901, 13902, 14000, 14001, 0, 0, 0, 14100, 14101, 14102, 134, 135, 136, 137, 138, 139, 146, 147, 15800, 15801, 15802, 15803, 15804, 15805, 15806, 15807, 15808, 0, 0, 0, 
 15812, 15813, 15814, 15815, 0, 15817, 15818, 15819, 15820, 15821, 15822, 0, 15824, 15825, 15826, 15827, 0, 15829, 16000, 0, 152, 154, 155, 156, 157, 158, 159, 160, 161, 162, 163, 164, 165]
noncomputable def nthN : List Nat → Nat → Nat
 | [], _ => 0
 | x :: r, n => match n with | 0 => x | n + 1 => nthN r n
noncomputable def stOf (p : Nat) : Stmt := match Nat.blt p 1000 with | true => sA (Nat.pred p) | false => sM (Nat.pred (Nat.div (Nat.sub p 1000) 100)) (Nat.mod p 100)
noncomputable def fBad : FDef := ⟨[], .nil, .bad⟩
noncomputable def nV (x : PySem.Str) : Nat := match ixOf nmVK nmVf x with | some n => n | none => 9999
noncomputable def psF (st : Stmt) : List Nat := (sParams st).args.map fun a => nV a.arg
noncomputable def look2 (p : Nat) : List (Nat × Nat) → Nat
 | [] => 9999
 | x :: r => match Nat.beq p x.1 with | true => x.2 | false => look2 p r
noncomputable def methT : List (List (Nat × Nat)) := [[(84, 3), (53, 4)], [(84, 6), (27, 7), (53, 8)], [(84, 34), (45, 36), (94, 38), (77, 39)], [(84, 42), (2, 43), (53, 44)], [(84, 45), (53, 46)], [(84, 70)], [(84, 100), (75, 101), (91, 102)], [(84, 103), (76, 104), (53, 107)], [(84, 108), (81, 109), (50, 110)], [(84, 119), (45, 120), (15, 121), (95, 122), (21, 123), (59, 124), (65, 125), (49, 126), (1, 127), (51, 131), (98, 132), (42, 133), (92, 134), (48, 136), (93, 137), (99, 138), (96, 139), (64, 140), (100, 141), (90, 143), (85, 144), (86, 145), (97, 146), (89, 148)], [(84, 149), (75, 150)]]
noncomputable def nthL : List (List (Nat × Nat)) → Nat → List (Nat × Nat)
 | [], _ => []
 | x :: r, n => match n with | 0 => x | n + 1 => nthL r n
noncomputable def methN (c p : Nat) : Nat := look2 p (nthL methT c)
noncomputable def initL : List (Nat × Nat) := [(0, 3), (1, 6), (2, 34), (3, 42), (4, 45), (5, 70), (6, 100), (7, 103), (8, 108), (9, 119), (10, 149)]
noncomputable def initN (c : Nat) : Nat := look2 c initL
noncomputable def kdT (n : Nat) : AV := (match Nat.beq n 0 with | true => (.cons (.cons (.str 6) (.int (.lit 0))) (.cons (.cons (.str 1) (.int (.lit 2))) (.cons (.cons (.str 5) (.int (.lit 128))) .nil))) | false => (match Nat.beq n 1 with | true => (.cons (.cons (.str 3) (.str 3)) (.cons (.cons (.str 2) (.str 2)) (.cons (.cons (.str 20) (.str 2)) (.cons (.cons (.str 4) (.str 4)) .nil)))) | false => .nil))
noncomputable def sLenT (n : Nat) : Nat := (match Nat.beq n 22 with | true => 1 | false => (match Nat.beq n 21 with | true => 1 | false => 0))
noncomputable def sBytT (n : Nat) : AV := (match Nat.beq n 22 with | true => (.cons (.int (.lit 115)) .nil) | false => (match Nat.beq n 21 with | true => (.cons (.int (.lit 114)) .nil) | false => .nil))
noncomputable def tabs : Tabs := ⟨kdT, sLenT, sBytT, fun c p => methN c (pIdx p), initN, fun c p => match Nat.blt (pIdx p) 101 with | true => Nat.beq (methN c (pIdx p)) 9999 | false => false⟩
noncomputable def nms : Nms := ⟨ixOf nmVK nmVf, aPth, ixOf nmSK nmSf, lk gloL, lk fnL, lk clL, lk blL, lk msL, lk exL, fun c => psF (stOf (nthN pthL (initN c)))⟩
noncomputable def cV (e : PySem.Expr) : AV := match e with | .Constant c _ _ => (match cC nms c with | .cst v => v | _ => .none) | .Name x _ => (match nms.glo x with | some v => v | none => .none) | _ => .none
noncomputable def dsF : List Nat → List PySem.Expr → AV
 | [], _ => .nil
 | n :: ns, l => match l with | e :: r => .cons (.cons (.int (.lit (.ofNat n))) (cV e)) (dsF ns r) | [] => .nil
noncomputable def cF (st : Stmt) : FDef := ⟨psF st, dsF ((psF st).drop ((psF st).length - (sParams st).defaults.length)) (sParams st).defaults, cLs (cS nms (sScope st) 30) (sBody st)⟩
noncomputable def funT (f : Nat) : FDef := match nthN pthL f with | 0 => fBad | p + 1 => cF (stOf (p + 1))
end Mst
end
section
namespace Mst
open PySem PySem.W PyProof.Rows PySem.Calls PySem.SeqAt
variable {G : Gl} {F : Nat → FDef} {R : Orc} {N : Nms}
noncomputable def FunsOk (G : Gl) (F : Nat → FDef) (N : Nms) : Prop := ∀ f, F f = fBad ∨ ∃ fd body, FnS G f (F f) fd body ∧ fnKind fd.scope.kind = true ∧ (F f).body = cLs (cS N fd.scope 30) body
theorem callN_ok (BB : Bun G F R N) {Ze Zs : Kx → ER} [EFam G Ze Zs] (XX : BunX (G := G) N.ex Ze Zs) (hno : ∀ env A ρ s e s', ¬ Ze noK env A ρ s e s') (hlim : G.H0.NoLimit) (FF : FunsOk G F N) : ∀ (d : Nat) (kx : Kx), HOk G (Ze kx) F (callN G.T R F d kx) d := by
 intro d
 induction d with
 | zero => exact fun kx f as ks σ k hk => ff hk
 | succ d ih =>
  intro kx f as ks σ k hk env A s ρ vs kws st X hv hkw fine Rh
  have hk' : bindK (F f).ps as ks (F f).ds (fun l => exc G.T R (ev G.T R (callN G.T R F d noK) fun V V V V => false) (callN G.T R F d) (F f).body kx l σ (fun V s => k .none s) k (fun V V => false)) = true := hk
  rcases FF f with e | ⟨fd, body, S, hkd, hfit⟩
  · rw [e] at hk'
    cases as <;> exact ff hk'
  · refine call_ok (Ze := Ze) (Zs := Zs) BB.cy hlim S ?_ hk' st X hv hkw fine Rh
    rw [hfit]
    exact cSs_ok (Ze := Ze) (Zs := Zs) BB XX hkd ih ⟨callN G.T R F d noK, (ih noK).mono fun V V V V V V z => absurd z (hno _ _ _ _ _ _), rfl⟩ 30 kx body
end Mst
end
section
namespace Mst
open PySem PySem.W PyProof.Rows PySem.Calls PySem.SeqAt
variable {G : Gl}
theorem mth_ok {R : Orc} {m : Nat} {x : PySem.Str} {T id : String} (pa : PlainAttrs T) (slot : Slot T x id) (hty : typeOf (.builtin id) = pure (.type "method_descriptor"))
 (hT : ∀ {ρ : Rh} {σ : St} {s : Shared} {e : AV} {v : Value} {k : B}, preK σ m e k = true → SR G ρ σ s.heap → V1 G ρ s.heap e v → k = true ∧ s.TypeIs v T ∧ ∀ a, v = .ref a → ∃ o, s.heap.get? a = some o ∧ o.dict = none)
 (hC : ∀ {σ : St} {e as : AV} {k : AV → St → B}, mthK G.T R σ m e as k = true → ∀ {A : Around} {s : Shared} {ρ : Rh} {v : Value} {vs : List Value} {n : Nat}, SR G ρ σ s.heap → V1 G ρ s.heap e v → V2 G ρ s.heap as vs → Rm A n → wpAny (model G.prog G.w) A (call (.builtin id) (v :: vs)) (QE (G := G) ρ s k) (fun V V => False) s) : MthOk G R m x := by
 intro Z _ sc ev ev2 n o ap pos es hn hs hz hline h h2 l σ k hk env A s ρ mm E X Rr
 refine Call_method_gen hn hs hz hline (wpAny_mono (h l σ _ hk env A s ρ mm E X Rr) (fun v s₁ q => ?_) fun V V e => e)
 obtain ⟨av, σ₁, ρ₁, P, hv, hk₁⟩ := q
 intro pl
 obtain ⟨hk₂, t1, t2⟩ := hT hk₁ P.sr hv
 refine getMethod_builtin t1 pa slot hty t2 ?_
 refine call_plain (P := fun V => True) hs (fun h V => keeps_blt h trivial) (wpAny_mono (h2 pos l σ₁ _ hk₂ env A s₁ ρ₁ mm (E.after P) P.sr Rr) (fun vs s₂ q => ⟨trivial, ?_⟩) fun V V e => aft P e)
 obtain ⟨_, a, σ₂, ρ₂, P₂, hvs, hk₃⟩ := q
 exact wpAny_mono (hC hk₃ P₂.sr (hv.mono P₂.le P₂.tups) hvs Rr) (fun r s₃ q => (q.after P₂).after P) fun V V e => e.elim
theorem pre_list {ρ : Rh} {σ : St} {s : Shared} {e : AV} {v : Value} {k : B} (hk : lsP σ.h e (fun V V => k) = true) (X : SR G ρ σ s.heap) (hv : V1 G ρ s.heap e v) : k = true ∧ s.TypeIs v "list" ∧ ∀ a, v = .ref a → ∃ o, s.heap.get? a = some o ∧ o.dict = none := by
 obtain ⟨p, a, l, vs, n, rfl, _, _, g, _, _, hk2⟩ := hv.lsP X hk
 exact ⟨hk2, ⟨_, g, rfl⟩, fun b e => by cases e; exact ⟨_, g, rfl⟩⟩
theorem mth_append {R : Orc} : MthOk G R 0 "append" := by
 refine mth_ok PySem.F.plainAttrs_list slot_list_append type_list_append (fun hk X hv => pre_list hk X hv) ?_
 intro σ e as k hk A s ρ v vs n X hv hvs Rr
 obtain ⟨a, w, rfl, hw, hk⟩ := hvs.oneK hk
 obtain ⟨p, d, l, its, c, rfl, hr, ho, g, hl, hz, hk⟩ := hv.lsP X hk
 obtain ⟨r', hr', hk⟩ := appV_some hl (.cons hw .nil) hk
 obtain ⟨hz', hk⟩ := capK_some hr' hk
 obtain ⟨t', hk, t1, t2⟩ := HT.setK_some p hk
 refine wpAny_list_append_plain (hsz := by rw [List.size_toArray, sizeLine_eq]; exact Nat.le_trans hz (by decide)) ⟨c, g⟩ fun h' hpl hs => ?_
 obtain ⟨c', g'⟩ := hpl
 exact ⟨.none, ⟨σ.n, t'⟩, ρ, Pst.mut s.toks X hr g Apart.list t1 t2 (fun c o hc e => (hs.2 c hc).trans e) ⟨_, g'⟩ (fun o es ep e1 e2 => by rw [g] at e1; cases e1; cases e2)
  (fun tp => .list rfl (by rw [g']; rw [List.push_toArray]) (hr'.mono (Rle.refl _) tp) hz'), .none, hk⟩
theorem rsK_some {n : Nat} {k : B} (h : rsK n k = true) : (n = 21 ∨ n = 22) ∧ k = true := by
 rcases beq_e h with ⟨e, h⟩ | ⟨_, h⟩
 · exact ⟨.inl e, h⟩
 · rcases beq_e h with ⟨e, h⟩ | ⟨_, h⟩
   · exact ⟨.inr e, h⟩
   · exact ff h
theorem pre_str {ρ : Rh} {σ : St} {s : Shared} {e : AV} {v : Value} {k : B} (hk : strK e (fun n => rsK n k) = true) (hv : V1 G ρ s.heap e v) : k = true ∧ s.TypeIs v "str" ∧ ∀ a, v = .ref a → ∃ o, s.heap.get? a = some o ∧ o.dict = none := by
 obtain ⟨n, u, rfl, hk⟩ := hv.strK hk
 exact ⟨(rsK_some hk).2, rfl, fun a e => by cases e⟩
theorem mth_isascii {R : Orc} (h21 : G.nmS 21 = "r") (h22 : G.nmS 22 = "s") : MthOk G R 4 "isascii" := by
 refine mth_ok PySem.F.plainAttrs_str PySem.F.slot_str_isascii PySem.F.type_str_isascii (fun {_ σ} _ _ _ _ hk _ hv => pre_str (σ := σ) hk hv) ?_
 intro σ e as k hk A s ρ v vs n X hv hvs Rr
 obtain ⟨rfl, hk⟩ := hvs.nilK hk
 obtain ⟨c, u, rfl, hk⟩ := hv.strK hk
 obtain ⟨h1, hk⟩ := rsK_some hk
 refine SC.isascii ?_
 have e : Txt.isascii (G.nmS c) = true := by
  rcases h1 with rfl | rfl
  · rw [h21]; decide +kernel
  · rw [h22]; decide +kernel
 rw [e]
 exact QE.now X .bool hk
theorem mth_get {R : Orc} (hR : OrcOk G.ν R) (Y : Cy G) : MthOk G R 2 "get" := by
 refine mth_ok PySem.F.plainAttrs_dict PySem.F.slot_dict_get PySem.F.type_dict_get ?_ ?_
 · intro ρ σ s e v k hk X hv
   obtain ⟨p, a, d, l, rfl, hr, ho, ob, hk⟩ := hv.dcP X hk
   refine ⟨hk, ?_⟩
   rcases ob.inv with ⟨o, kvs, rfl, g, ⟨es, ep, h1, _⟩, _⟩ | ⟨o, kvs, rfl, g, ⟨es, ep, h1, _⟩, _⟩
   · exact ⟨⟨_, g, h1.1⟩, fun b e => by cases e; exact ⟨_, g, h1.2.1⟩⟩
   · exact ⟨⟨_, g, h1.1⟩, fun b e => by cases e; exact ⟨_, g, h1.2.1⟩⟩
 · intro σ e as k hk A s ρ v vs n X hv hvs Rr
   obtain ⟨a, dv, w, wd, rfl, hw, hwd, hk⟩ := hvs.twoK hk
   obtain ⟨p, d, _, l, rfl, hr, ho, ob, hk⟩ := hv.dcP X hk
   have fin : ∀ {K : Type} [DecidableEq K] {knd : PySem.KeyKind G.prog G.w K} {o : Obj} {kvs : List (K × Value)} {key : K}, knd.is key w = true → (d == sysModules) = false → s.heap.get? d = some o → o.IsDictOf knd kvs →
    QE (G := G) ρ s k ((valueAt kvs key).getD wd) { s with toks := s.toks + 1 } → wpAny (model G.prog G.w) A (call (.builtin "dict.get") [.ref d, w, wd]) (QE (G := G) ρ s k) (fun V V => False) s := fun hkey g3 g id q =>
    have D := Heap.dictOf_iff.mpr ⟨_, g, id⟩
    call_meetsIn (T := "dict") PySem.F.slot_dict_get D.typeIs PySem.F.entry_dict_get (PySem.F.args_dict_get_3 _ _ _) (meets_dict_get_default _ d hkey g3 wd) ⟨_, D.mapOf, q⟩
   have nil : ∀ {o : Obj}, (d == sysModules) = false → s.heap.get? d = some o → (∀ {K : Type} [DecidableEq K] {knd : PySem.KeyKind G.prog G.w K}, o.IsDictOf knd []) → keyish a (k dv σ) = true → wpAny (model G.prog G.w) A (call (.builtin "dict.get") [.ref d, w, wd]) (QE (G := G) ρ s k) (fun V V => False) s := fun g3 g id h => by
    rcases keyish_some h with ⟨⟨i, rfl⟩ | ⟨m, rfl⟩, h⟩
    · obtain ⟨u, rfl⟩ := hw.int_inv
      exact fin isInt_val g3 g id (QE.tok _ X hwd h)
    · obtain ⟨u, rfl⟩ := hw.str_inv
      exact fin isStr_val g3 g id (QE.tok _ X hwd h)
   rcases ob.inv with ⟨o, kvs, _, g, id, dg, _, g3⟩ | ⟨o, kvs, _, g, id, dg, _, g3⟩
   · rcases dGet_int hR dg hk with ⟨j, ⟨i, rfl, rfl⟩, e, h⟩ | ⟨j, v, w', ⟨i, rfl, rfl⟩, e, hv', h⟩ | ⟨rfl, h⟩
     · obtain ⟨u, rfl⟩ := hw.int_inv
       exact fin isInt_val g3 g id (by rw [e]; exact QE.tok _ X hwd h)
     · obtain ⟨u, rfl⟩ := hw.int_inv
       exact fin isInt_val g3 g id (by rw [e]; exact QE.tok _ X hv' h)
     · exact nil g3 g (empty_kind id) h
   · rcases dGet_str Y.injS dg hk with ⟨j, ⟨i, rfl, rfl⟩, e, h⟩ | ⟨j, v, w', ⟨i, rfl, rfl⟩, e, hv', h⟩ | ⟨rfl, h⟩
     · obtain ⟨u, rfl⟩ := hw.str_inv
       exact fin isStr_val g3 g id (by rw [e]; exact QE.tok _ X hwd h)
     · obtain ⟨u, rfl⟩ := hw.str_inv
       exact fin isStr_val g3 g id (by rw [e]; exact QE.tok _ X hv' h)
     · exact nil g3 g (empty_kind id) h
end Mst
end
section
namespace Mst
open PySem PySem.W PyProof.Rows PySem.Calls PySem.SeqAt
variable {G : Gl}
theorem land255 (x : Nat) : Nat.land x 255 = x % 256 := Nat.and_two_pow_sub_one_eq_mod x 8
theorem blt_c {m n : Nat} {t f : B} (h : ifB (Nat.blt m n) t f = true) : (m < n ∧ t = true) ∨ (n ≤ m ∧ f = true) := blt_e h
theorem two_of {α β : Type} {f : α → β} {L : List α} {a b : β} (h : L.map f = [a, b]) : ∃ p q, L = [p, q] ∧ f p = a ∧ f q = b := by
 cases L with
 | nil => cases h
 | cons p L =>
  cases L with
  | nil => cases h
  | cons q L =>
   cases L with
   | nil => exact ⟨p, q, rfl, (List.cons.inj h).1, (List.cons.inj (List.cons.inj h).2).1⟩
   | cons => cases h
theorem mth_to_bytes {R : Orc} (h23 : G.nmS 23 = "big") : MthOk G R 6 "to_bytes" := by
 refine mth_ok PySem.F.plainAttrs_int KTBy.slot KTBy.type_eq ?_ ?_
 · intro ρ σ s e v k hk X hv
   obtain ⟨i, u, rfl, hk⟩ := hv.intK hk
   exact ⟨hk, typeIs_int s _ u, fun a e => by cases e⟩
 · intro σ e as k hk A s ρ v vs n X hv hvs Rr
   obtain ⟨_, _, wm, wc, rfl, h1, h2, hk⟩ := hvs.twoK hk
   obtain ⟨m, u2, rfl, hk⟩ := h1.natK hk
   obtain ⟨c, u3, rfl, hk⟩ := h2.strK hk
   obtain ⟨x, u, rfl, hk⟩ := hv.natK hk
   rcases beq_e hk with ⟨e1, g⟩ | ⟨_, g⟩
   · rcases beq_e g with ⟨e2, g⟩ | ⟨_, g⟩
     · rcases blt_c g with ⟨hx, g3⟩ | ⟨_, g3⟩
       · subst e1 e2
         rw [h23]
         refine KTBy.to_big (B := 65536) (k := 2) (by decide) (by decide) (Int.natCast_nonneg x) (Int.ofNat_lt.mpr hx) fun b t' k' hb hl => ?_
         obtain ⟨p, q, e, e1, e2⟩ := two_of (show b.toList.map (fun c : UInt8 => ((c.toNat : Nat) : Int)) = [(x : Int) / 256 % 256, (x : Int) % 256] from hb)
         have hk' : k (.byt (.cons (.int (.lit (.ofNat (Nat.land (Nat.shiftRight x 8) 255)))) (.cons (.int (.lit (.ofNat (Nat.land x 255)))) .nil))) σ = true := g3
         refine ⟨_, σ, ρ, Pst.tok _ X, .byt (e ▸ .cons ?_ (.cons ?_ .nil)) (by rw [← Array.length_toList, e]; exact Nat.le_of_ble_eq_true rfl), hk'⟩
         · refine Eq.trans ?_ e1.symm
           show (Int.ofNat (Nat.land (Nat.shiftRight x 8) 255) : Int) = _
           rw [land255, show Nat.shiftRight x 8 = x / 256 from Nat.shiftRight_eq_div_pow x 8]
           rfl
         · refine Eq.trans ?_ e2.symm
           show (Int.ofNat (Nat.land x 255) : Int) = _
           rw [land255]
           rfl
       · exact ff g3
     · exact ff g
   · exact ff g
theorem enc_r (t u : Tok) : Builtin.«str.encode» ⟨[.str "r" t, .str "ascii" u], []⟩ = (do ret (← mkBytes #[114])) := by kernel_rfl
theorem enc_s (t u : Tok) : Builtin.«str.encode» ⟨[.str "s" t, .str "ascii" u], []⟩ = (do ret (← mkBytes #[115])) := by kernel_rfl
theorem mth_encode {R : Orc} (h21 : G.nmS 21 = "r") (h22 : G.nmS 22 = "s") (h7 : G.nmS 7 = "ascii") (b21 : G.T.strByt 21 = .cons (.int (.lit 114)) .nil) (b22 : G.T.strByt 22 = .cons (.int (.lit 115)) .nil) : MthOk G R 3 "encode" := by
 refine mth_ok PySem.F.plainAttrs_str PySem.F.slot_str_encode PySem.F.type_str_encode (fun {_ σ} _ _ _ _ hk _ hv => pre_str (σ := σ) hk hv) ?_
 intro σ e as k hk A s ρ v vs n X hv hvs Rr
 obtain ⟨_, w, rfl, hw, hk⟩ := hvs.oneK hk
 obtain ⟨d, u2, rfl, hk⟩ := hw.strK hk
 obtain ⟨c, u, rfl, hk⟩ := hv.strK hk
 rcases beq_e hk with ⟨rfl, h0⟩ | ⟨_, h0⟩
 · obtain ⟨hc, hk⟩ := rsK_some h0
   rw [h7]
   refine wpAny_call_entry PySem.F.slot_str_encode rfl PySem.F.entry_str_encode ?_ (PySem.F.args_str_encode_2 _ _)
   rcases hc with rfl | rfl
   · rw [h21, enc_r]
     rw [b21] at hk
     exact wpAny_bind (wpAny_mkBytes (wpAny_pure ⟨_, rfl, _, σ, ρ, Pst.tok _ X, .byt (.cons rfl .nil) (by decide), hk⟩) (by decide))
   · rw [h22, enc_s]
     rw [b22] at hk
     exact wpAny_bind (wpAny_mkBytes (wpAny_pure ⟨_, rfl, _, σ, ρ, Pst.tok _ X, .byt (.cons rfl .nil) (by decide), hk⟩) (by decide))
 · exact ff h0
end Mst
end
section
namespace Mst
open PySem PySem.W PyProof.Rows PySem.Calls PySem.SeqAt
variable {G : Gl}
noncomputable def idxF (xs : Array Value) (x : Value) (i : Nat) (_ : Option PySem.Fin × Unit) : Sem (ForInStep (Option PySem.Fin × Unit)) :=
 match xs[i]? with
 | some y => do
  let z ← eqBool y x
  if z = true then do
   let z ← retInt (i : Int)
   pure (ForInStep.done (some z, ()))
   else pure (ForInStep.yield (none, ()))
 | none => pure (ForInStep.yield (none, ()))
theorem idx_loop {R : Orc} (hR : OrcOk G.ν R) (Y : Cy G) {A : Around} {E : Value → Shared → Prop} {s : Shared} {ρ : Rh} {xs : Array Value} {q : AV} {x : Value} {Q : Option PySem.Fin × Unit → Shared → Prop} {k : AV → B} (hx : V1 G ρ s.heap q x) (hA : A.units + 8 < 9900)
 {f : Nat → Option PySem.Fin × Unit → Sem (ForInStep (Option PySem.Fin × Unit))} (hf : ∀ i b, f i b = idxF xs x i b) (hQ : ∀ j : Nat, k (.int (.lit (.ofNat j))) = true → Q (some (.done (.ret (.int (j : Int) s.toks))), ()) { s with toks := s.toks + 1 })
 {ws : List Value} {l : AV} (v : LR (V1 G ρ s.heap) l ws) : ∀ {i : Nat} {b : Option PySem.Fin × Unit}, (∀ j, xs[i + j]? = ws[j]?) → idxV R l q i k = true → wpAny (model G.prog G.w) A (forIn (List.range' i ws.length) b f) Q E s := by
 induction v with
 | nil => exact fun _ hk => ff hk
 | @cons a m w ws h1 h2 ih =>
  intro i b hj hk
  obtain ⟨r, hp, he⟩ := eqV_some hR Y hk h1 hx hA
  rw [List.length_cons, List.range'_succ, List.forIn_cons]
  have h0 := hj 0
  rw [Nat.add_zero] at h0
  refine wpAny_bind ?_
  rw [hf]
  unfold idxF
  rw [h0]
  show wpAny _ _ (do
   let z ← eqBool w x
   if z = true then do
    let z ← retInt (i : Int)
    pure (ForInStep.done (some z, ()))
    else pure (ForInStep.yield (none, ()))) _ _ _
  refine wpAny_bind (he.eq _ _ _ _ ?_)
  cases r with
  | true =>
   rw [if_pos rfl]
   exact wpAny_bind (wpAny_bind (wpAny_mkInt (wpAny_pure (wpAny_pure (wpAny_pure (hQ i hp))))))
  | false =>
   rw [if_neg (by decide)]
   exact wpAny_pure (ih (fun j => (congrArg (fun n => xs[n]?) (Nat.succ_add_eq_add_succ i j)).trans (hj (j + 1))) hp)
theorem mth_index {R : Orc} (hR : OrcOk G.ν R) (Y : Cy G) : MthOk G R 7 "index" := by
 refine mth_ok PySem.F.plainAttrs_tuple PySem.F.slot_tuple_index PySem.F.type_tuple_index ?_ ?_
 · intro ρ σ s e v k hk X hv
   obtain ⟨l, a, vs, rfl, g, _, _, hk⟩ := hv.tupK hk
   exact ⟨hk, ⟨_, g, rfl⟩, fun b e => by cases e; exact ⟨_, g, rfl⟩⟩
 · intro σ e as k hk A s ρ v vs n X hv hvs Rr
   obtain ⟨a, w, rfl, hw, hk⟩ := hvs.oneK hk
   obtain ⟨l, ad, us, rfl, g, hl, hz, hk⟩ := hv.tupK hk
   have hA : A.in1.units + 8 < 9900 := Nat.lt_of_le_of_lt (Nat.le_of_eq (Nat.add_right_comm _ 1 8)) Rr.room
   refine wpAny_call_entry PySem.F.slot_tuple_index ⟨_, g, rfl⟩ PySem.F.entry_tuple_index ?_ (PySem.F.args_tuple_index_2 _ _)
   unfold Builtin.«tuple.index»
   refine wpAny_bind (wpAny_of_eq (a := (.ref ad, [w])) rfl ?_)
   refine wpAny_bind (wpAny_tupleItemsOf g rfl ?_)
   refine wpAny_bind (wpAny_pure ?_)
   refine wpAny_bind (wpAny_pure ?_)
   dsimp only
   rw [Std.Legacy.Range.forIn_eq_forIn_range']
   have hsz : (⟨0, min us.toArray.size us.toArray.size, 1, by decide⟩ : Std.Legacy.Range).size = us.length := by
    simp [Std.Legacy.Range.size]
   refine wpAny_bind ?_
   rw [hsz]
   exact idx_loop hR Y hw hA (fun i b => by unfold idxF; cases us.toArray[i]? <;> rfl) (fun j hkj => wpAny_pure ⟨_, rfl, _, σ, ρ, Pst.tok _ X, .int, hkj⟩) hl.lr (fun j => by simp) hk
end Mst
end
section
namespace Mst
open PySem PySem.W PyProof.Rows PySem.Calls PySem.SeqAt
variable {G : Gl}
open Builtin in
theorem buf_eq {id : String} {full : Bool} {b : Array UInt8} {t : Tok} : Bytes.buffer? id (.bytes b t) full = pure (some b) := by
 unfold Bytes.buffer?
 rw [KBy.special_eq KBy.look_buffer, KBy.own_buffer, KBy.own_release]
 kernel_rfl
open Builtin in
theorem take_eq {id : String} {b : Array UInt8} {t : Tok} : Bytes.takeBufferQuiet? id (.bytes b t) 0 = pure (some (b, none)) := by
 unfold Bytes.takeBufferQuiet? Bytes.takeBuffer?
 rw [KBy.special_eq KBy.look_buffer, KBy.own_buffer, buf_eq]
 kernel_rfl
theorem joinLetGo_ok {M : Model} {A : Around} {E : Value → Shared → Prop} {s : Shared} {keep : List Value} {Q : Unit → Shared → Prop} : ∀ {tk : List (Value × Option Value)}, (∀ x ∈ tk, x.2 = none) → Q () s → wpAny M A (Builtin.Bytes.joinLetGo tk keep) Q E s
 | [], _, h => wpAny_pure h
 | (x, w) :: r, hn, h => by
  have : w = none := hn _ List.mem_cons_self
  subst this
  unfold Builtin.Bytes.joinLetGo
  exact wpAny_bind (wpAny_letGo (joinLetGo_ok (fun y hy => hn y (List.mem_cons_of_mem _ hy)) h))
abbrev bvs (bs : List (Array UInt8 × Tok)) : List Value := bs.map fun x => .bytes x.1 x.2
theorem joined_nil : ∀ (bs : List (Array UInt8)) (n : Nat) (acc : Array UInt8), (bs.zipIdx n).foldl (fun out (x : Array UInt8 × Nat) => (if x.2 > 0 then out ++ #[] else out) ++ x.1) acc = acc ++ (bs.flatMap (·.toList)).toArray
 | [], n, acc => by simp
 | b :: r, n, acc => by
  rw [List.zipIdx_cons, List.foldl_cons, joined_nil r]
  simp [Array.append_assoc]
  apply Array.ext'
  simp
theorem sizes_eq : ∀ (bs : List (Array UInt8)) (n : Nat), bs.foldl (fun a x => a + x.size) n = n + (bs.flatMap (·.toList)).length
 | [], n => by simp
 | b :: r, n => by
  rw [List.foldl_cons, sizes_eq r, List.flatMap_cons, List.length_append]
  simp; omega
theorem match1_one {β : Type} (x : Value) (h1 : Value → β) (h2 : Array Value → β) : Builtin.Bytes.joinM.match_1 (fun V => β) #[x] h1 h2 = h1 x := rfl
theorem match1_other {β : Type} {arr : Array Value} (h : ¬ arr.size = 1) (h1 : Value → β) (h2 : Array Value → β) : Builtin.Bytes.joinM.match_1 (fun V => β) arr h1 h2 = h2 arr := by
 unfold Builtin.Bytes.joinM.match_1
 rw [dif_neg h]
theorem join_many {prog : Program} {w : World} {A : Around} {E : Value → Shared → Prop} {s : Shared} {Q : Value → Shared → Prop} {l : Addr} {bs : List (Array UInt8 × Tok)} {t : Tok} {n : Nat} (h : s.heap.get? l = some (listOf (bvs bs).toArray n)) (hz : (bs.flatMap (·.1.toList)).length ≤ 65536)
 (hQ : ∀ b t' k, b.toList = bs.flatMap (·.1.toList) → Q (.bytes b t') { s with toks := k }) : wpAny (model prog w) A (Builtin.Bytes.joinM .bytes ⟨[.bytes #[] t, .ref l], []⟩) (fun fin s' => ∃ v, fin = .done (.ret v) ∧ Q v s') E s := by
 unfold Builtin.Bytes.joinM
 refine wpAny_bind (wpAny_of_eq (a := (.bytes #[] t, .ref l)) rfl ?_)
 dsimp only
 rw [if_pos (by decide)]
 unfold Builtin.Bytes.joinItems
 refine wpAny_bind (wpAny_bind (wpAny_typeOf (T := "list") ⟨_, h, rfl⟩ ?_))
 refine wpAny_ite ?_
 rw [if_pos (by decide)]
 refine wpAny_pure ?_
 refine wpAny_bind (wpAny_seqItems h rfl ?_)
 dsimp only
 rw [if_pos (by decide)]
 by_cases hone : (bvs bs).toArray.size = 1
 · match bs, hone, hz, hQ with
   | [(b, u)], _, hz, hQ =>
    rw [show (bvs [(b, u)]).toArray = #[Value.bytes b u] from rfl, match1_one]
    refine wpAny_bind (wpAny_typeOf (typeIs_bytes s b u) ?_)
    rw [if_pos (by decide)]
    exact wpAny_bind (wpAny_rule (wpAny_pure ⟨_, rfl, hQ b u s.toks (by simp)⟩))
 · rw [match1_other hone]
   refine wpAny_bind ?_
   rw [Std.Legacy.Range.forIn_eq_forIn_range']
   simp only [Std.Legacy.Range.size, Nat.sub_zero, Nat.add_sub_cancel, Nat.div_one]
   refine wpAny_forIn_list _ (fun rest b s' => ∃ i, s' = s ∧ rest = List.range' i (bs.length - i) ∧ i ≤ bs.length ∧ b.1 = ((bs.take i).map (·.1)).toArray ∧ b.2 = (bvs (bs.take i)).map fun x => (x, none)) _ ?_ ?_ _ _ ⟨0, rfl, by simp, Nat.zero_le _, rfl, rfl⟩
   · rintro x rest ⟨b1, b2⟩ s' ⟨i, rfl, hr, hi, h1, h2⟩
     dsimp only at h1 h2
     have hlt : i < bs.length := by
      rcases Nat.lt_or_ge i bs.length with h | h
      · exact h
      · rw [Nat.sub_eq_zero_of_le h] at hr; simp at hr
     obtain ⟨rfl, hrest⟩ : x = i ∧ rest = List.range' (i + 1) (bs.length - (i + 1)) := by
      have e : bs.length - i = (bs.length - (i + 1)) + 1 := by omega
      rw [e, List.range'_succ] at hr
      injection hr with h1 h2
      exact ⟨h1, h2⟩
     refine wpAny_bind (wpAny_seqItems h rfl ?_)
     dsimp only
     have hany : (Builtin.Bytes.Kind.bytes == Builtin.Bytes.Kind.bytearray || b2.any fun x => x.fst.onHeap) = false := by
      rw [h2, show (Builtin.Bytes.Kind.bytes == Builtin.Bytes.Kind.bytearray) = false from by decide, Bool.false_or, List.any_eq_false]
      intro y hy
      simp only [List.mem_map] at hy
      obtain ⟨_, ⟨z, _, rfl⟩, rfl⟩ := hy
      exact Bool.false_ne_true
     rw [if_neg (by rw [hany]; exact Bool.false_ne_true)]
     have hx : (bvs bs).toArray.getD x Value.none = .bytes (bs[x]).1 (bs[x]).2 := by
      simp [hlt]
     rw [hx]
     refine wpAny_bind (wpAny_holding (wpAny_of_eq take_eq ?_))
     dsimp only
     refine wpAny_bind (wpAny_seqItems h rfl ?_)
     dsimp only
     rw [if_neg (by simp)]
     have et : bs.take (x + 1) = bs.take x ++ [bs[x]] := by rw [List.take_add_one, List.getElem?_eq_getElem hlt]; rfl
     refine wpAny_pure ⟨x + 1, rfl, hrest, hlt, ?_, ?_⟩
     · show b1.push _ = _
       rw [h1, et, List.map_append, List.push_toArray]; rfl
     · show b2 ++ _ = _
       rw [h2, et]
       unfold bvs
       rw [List.map_append, List.map_append]; rfl
   · rintro ⟨b1, b2⟩ s' ⟨i, rfl, hr, hi, h1, h2⟩
     dsimp only at h1 h2
     have hin : i = bs.length := by
      rcases Nat.lt_or_ge i bs.length with h | h
      · have e : bs.length - i = (bs.length - (i + 1)) + 1 := by omega
        rw [e, List.range'_succ] at hr; cases hr
      · omega
     subst hin
     rw [List.take_length] at h1 h2
     subst h1 h2
     have ez : (bs.map (·.1)).flatMap (·.toList) = bs.flatMap (·.1.toList) := by rw [List.flatMap_map]
     refine wpAny_bind (wpAny_of_eq (a := #[]) rfl ?_)
     dsimp only
     have ej : Builtin.Bytes.joined #[] (bs.map (·.1)) = (bs.flatMap (·.1.toList)).toArray := by
      unfold Builtin.Bytes.joined
      rw [← ez]
      have := joined_nil (bs.map (·.1)) 0 #[]
      rw [Array.empty_append] at this
      exact this
     have es : Builtin.Bytes.tooLong (((bs.map (·.1)).toArray).foldl (fun a x => a + x.size) ((#[] : Array UInt8).size * ((bs.map (·.1)).toArray.size - 1))) = false := by
      refine KBy.tooLong_not ?_
      rw [List.foldl_toArray, sizes_eq, ez]
      show 0 * _ + _ ≤ _
      rw [Nat.zero_mul]; omega
     rw [if_neg (by rw [es]; exact Bool.false_ne_true)]
     rw [ej]
     refine wpAny_bind (wpAny_mkBytes ?_ (by rw [List.size_toArray, sizeLine_eq]; omega))
     refine wpAny_bind (wpAny_holding (wpAny_point ?_))
     refine wpAny_bind (joinLetGo_ok (fun y hy => ?_) ?_)
     · simp only [List.mem_map] at hy
       obtain ⟨_, _, rfl⟩ := hy
       rfl
     · exact wpAny_pure ⟨_, rfl, hQ _ _ _ rfl⟩
theorem join_slot : Slot "bytes" "join" "bytes.join" :=
 .of (owner := "bytes") (n := "join") (by rw [typeLookup_type, builtinLookup_eq_fast]; kernel_rfl) (by decide +kernel) (by decide +kernel) (by decide +kernel)
  (by first | exact .inl (by decide +kernel) | exact .inr (by decide +kernel)) (by rw [isSubtype_type]; kernel_rfl)
theorem join_type : typeOf (.builtin "bytes.join") = pure (.type "method_descriptor") := by show builtinType _ = _; rw [builtinType_eq_fast]; kernel_rfl
theorem join_entry : entryFor table "bytes.join" = some Builtin.«bytes.join» := entryFor_of_tree (by kernel_rfl)
theorem join_args (a b : Value) : argsOk "bytes.join" ⟨[a, b], []⟩ := by
 unfold argsOk; rw [signature?_of (id := "bytes.join") (n := ['n', 'i', 'o', 'j']) (o := ['s', 'e', 't', 'y', 'b']) (by kernel_rfl) FB.owner_bytes]; kernel_rfl
inductive JoI (ν : Nat → Int) (vs : List Value) (k : AV → B) : Prop
 | mk (bs : List (Array UInt8 × Tok)) (r : AV) : vs = bvs bs → BRel ν r (bs.flatMap (·.1.toList)) → k r = true → JoI ν vs k
theorem joinV_some {ρ : Rh} {h : Heap} {hh : HT} {vs : List Value} {l : AV} (v : LR (V1 G ρ h) l vs) : ∀ {k : AV → B}, joinV hh l k = true → JoI G.ν vs k := by
 induction v with
 | nil => exact fun e => ⟨[], .nil, rfl, .nil, e⟩
 | cons a b ih =>
  intro k e
  obtain ⟨bl, b, t, rfl, hb, hz, e⟩ := a.bytK e
  obtain ⟨bs, r, rfl, hr, hk⟩ := ih e
  obtain ⟨r', hr', hk'⟩ := appV_byt hb hr hk
  exact ⟨(_, _) :: bs, r', rfl, hr', hk'⟩
theorem BRel.nil_inv {ν : Nat → Int} {b : List UInt8} (x : BRel ν .nil b) : b = [] := x.inv
theorem mth_join {R : Orc} : MthOk G R 5 "join" := by
 refine mth_ok FB.plainAttrs_bytes join_slot join_type ?_ ?_
 · intro ρ σ s e v k hk X hv
   obtain ⟨l, b, t, rfl, hb, hz, hk⟩ := hv.bytK hk
   exact ⟨(nilK_e hk).2, typeIs_bytes _ _ _, fun a e => by cases e⟩
 · intro σ e as k hk A s ρ v vs n X hv hvs Rr
   obtain ⟨_, w, rfl, hw, hk⟩ := hvs.oneK hk
   obtain ⟨l, ⟨b⟩, t, rfl, hb, hz3, hk⟩ := hv.bytK hk
   obtain ⟨rfl, hk⟩ := nilK_e hk
   cases (hb.nil_inv : b = [])
   obtain ⟨p, d, l, its, c, rfl, hr, ho, g, hl, hz, hk⟩ := hw.lsP X hk
   obtain ⟨bs, r, rfl, hbr, hk⟩ := joinV_some hl.lr hk
   obtain ⟨hz2, hk⟩ := capK_byt hbr hk
   refine wpAny_call_entry join_slot (typeIs_bytes _ _ _) join_entry ?_ (join_args _ _)
   exact join_many g hz2 fun b t' k' hb' => ⟨_, σ, ρ, Pst.tok _ X, .byt (hb' ▸ hbr) (by rw [← Array.length_toList, hb']; exact hz2), hk⟩
end Mst
end
section
namespace Mst
open PySem PySem.W PyProof.Rows PySem.Calls PySem.SeqAt
variable {G : Gl}
noncomputable def litL : List Int → AV
 | [] => .nil
 | i :: l => .cons (.int (.lit i)) (litL l)
noncomputable def insI (x : Int) : List Int → List Int
 | [] => [x]
 | a :: m => if x < a then x :: a :: m else a :: insI x m
noncomputable def sortZ : List Int → List Int
 | [] => []
 | a :: m => insI a (sortZ m)
theorem insV_some {R : Orc} {x : Int} {l : List Int} : ∀ {k : AV → B}, insV R (.int (.lit x)) (litL l) k = true → k (litL (insI x l)) = true := by
 induction l with
 | nil => exact fun h => h
 | cons a m ih =>
  intro k h
  show k (litL (if x < a then x :: a :: m else a :: insI x m)) = true
  rcases ltI_e (t := k (.cons (.int (.lit x)) (.cons (.int (.lit a)) (litL m)))) (f := insV R (.int (.lit x)) (litL m) fun r => k (.cons (.int (.lit a)) r)) h with ⟨q, h⟩ | ⟨q, h⟩
  · rw [if_pos q]; exact h
  · rw [if_neg q]; exact ih h
theorem sortV_some {R : Orc} {l : List Int} : ∀ {k : AV → B}, sortV R (litL l) k = true → k (litL (sortZ l)) = true := by
 induction l with
 | nil => exact fun h => h
 | cons a m ih => exact fun h => insV_some (ih h)
theorem insI_perm (x : Int) (l : List Int) : (insI x l).Perm (x :: l) := by
 induction l with
 | nil => exact List.Perm.refl _
 | cons a m ih =>
  show (if x < a then x :: a :: m else a :: insI x m).Perm _
  by_cases q : x < a
  · rw [if_pos q]
  · rw [if_neg q]; exact (ih.cons a).trans (List.Perm.swap x a m)
theorem sortZ_perm (l : List Int) : (sortZ l).Perm l := by
 induction l with
 | nil => exact List.Perm.refl _
 | cons a m ih => exact (insI_perm a (sortZ m)).trans (ih.cons a)
theorem insI_sorted (x : Int) {l : List Int} (h : l.Pairwise (· ≤ ·)) : (insI x l).Pairwise (· ≤ ·) := by
 induction l with
 | nil => exact List.pairwise_singleton _ _
 | cons a m ih =>
  obtain ⟨h1, h2⟩ := List.pairwise_cons.mp h
  show (if x < a then x :: a :: m else a :: insI x m).Pairwise _
  by_cases q : x < a
  · rw [if_pos q]
    refine List.pairwise_cons.mpr ⟨fun b hb => ?_, h⟩
    rcases List.mem_cons.mp hb with rfl | hb
    · exact Int.le_of_lt q
    · exact Int.le_trans (Int.le_of_lt q) (h1 b hb)
  · rw [if_neg q]
    refine List.pairwise_cons.mpr ⟨fun b hb => ?_, ih h2⟩
    rcases List.mem_cons.mp ((insI_perm x m).mem_iff.mp hb) with rfl | hb
    · exact Int.not_lt.mp q
    · exact h1 b hb
theorem sortZ_sorted (l : List Int) : (sortZ l).Pairwise (· ≤ ·) := by
 induction l with
 | nil => exact List.Pairwise.nil
 | cons a m ih => exact insI_sorted a ih
theorem litL_V2 {ρ : Rh} {h : Heap} {vs : List Value} {ns : List Int} (x : IntsAre vs ns) : V2 G ρ h (litL ns) vs := by
 induction x with
 | nil => exact .nil
 | cons n t _ ih => exact .cons (.int (i := .lit n)) ih
theorem keysV_some {ρ : Rh} {h : Heap} {kvs : List (Int × Value)} {l : AV} (d : LR (DP G ρ h PI) l kvs) : ∀ {k : AV → B}, keysV l k = true → k (litL (kvs.map (·.1))) = true := by
 induction d with
 | nil => exact fun h => h
 | cons a _ ih =>
  intro k h
  obtain ⟨p, _⟩ := a
  cases p
  exact ih (k := fun r => k (.cons (.int (.lit _)) r)) h
theorem ints_of_items {kvs : List (Int × Value)} {prog : Program} {w : World} {l : List Value} : ∀ {i : Nat}, l.length + i = kvs.length → (∀ (j : Nat) v, l[j]? = some v → ∃ k x, kvs[i + j]? = some (k, x) ∧ (intKind prog w).is k v = true) → IntsAre l ((kvs.drop i).map (·.1)) := by
 induction l with
 | nil =>
  intro i hl _
  have e : i = kvs.length := (Nat.zero_add i).symm.trans hl
  rw [e, List.drop_length]; exact .nil
 | cons v l ih =>
  intro i hl h
  obtain ⟨k, x, h1, h2⟩ := h 0 v rfl
  obtain ⟨t, rfl⟩ := Value.isInt_shape h2
  rw [Nat.add_zero] at h1
  obtain ⟨hi, e⟩ := List.getElem?_eq_some_iff.mp h1
  rw [List.drop_eq_getElem_cons hi, List.map_cons, e]
  exact .cons k t (ih ((Nat.succ_add_eq_add_succ l.length i).symm.trans hl) fun j v hj => by
   obtain ⟨k, x, h1, h2⟩ := h (j + 1) v hj
   exact ⟨k, x, (congrArg (fun n => kvs[n]?) (Nat.succ_add_eq_add_succ i j)).trans h1, h2⟩)
theorem blt_sorted {R : Orc} : BltOk G R 3 (.builtin "sorted") := by
 intro σ as k hk A s ρ vs n X hv Rr
 obtain ⟨a, v, rfl, h1, hk⟩ := hv.oneK hk
 obtain ⟨p, d, _, l, rfl, hr, ho, ob, hk3⟩ := h1.dcP X hk
 have z63 : ∀ {n : Nat} {t : B}, ifB (Nat.ble n 63) t false = true → n ≤ 63 ∧ t = true := fun h => by
  rcases ble_e h with h | ⟨_, h⟩
  · exact h
  · exact ff h
 · obtain ⟨od, g1, g3, kvs, hD, hI, hk4, h63⟩ : ∃ od, s.heap.get? d = some od ∧ (d == sysModules) = false ∧ ∃ kvs, od.IsDictOf (intKind G.prog G.w) kvs ∧ LR (DP G ρ s.heap PI) l kvs ∧ (keysV l fun r => sortV R r fun r => newL σ r k) = true ∧ kvs.length ≤ 63 := by
    rcases ob.inv with ⟨o, kvs, _, g, q1, q2, _, g3⟩ | ⟨o, kvs, _, g, q1, q2, _, g3⟩
    · obtain ⟨z, h⟩ := z63 (q2.lr.len0 hk3)
      exact ⟨o, g, g3, kvs, q1, q2.lr, h, z⟩
    · obtain ⟨z, h⟩ := z63 (q2.lr.len0 hk3)
      cases q2.lr with
      | nil => exact ⟨o, g, g3, [], empty_kind q1, .nil, h, z⟩
      | cons a _ =>
       obtain ⟨⟨_, rfl, _⟩, _⟩ := a
       exact ff h
   have hsrt := sortV_some (keysV_some (k := fun r => sortV R r fun r => newL σ r k) hI hk4)
   have D : s.heap.DictOf (intKind G.prog G.w) d kvs := Heap.dictOf_iff.mpr ⟨_, g1, hD⟩
   obtain ⟨ep, hat⟩ := D.dictAt
   refine call_function_entry kind_sorted plain_sorted entry_sorted (args_sorted1 _) ?_
   unfold Builtin.«sorted»
   refine wpAny_bind (m := checkCount "sorted" 1 1 _) (wpAny_pure ?_)
   refine wpAny_bind (kdu_collect (A := A.in1) (kdl_dict (knd := intKind G.prog G.w) (kvs := kvs) (ep := ep) g3) Rr.handled hat (by rw [sizeLine_eq]; omega) fun h' tk acc hkp hacc => ?_)
   have hl : acc.toList.length = kvs.length := by rw [Array.length_toList]; exact hacc.1
   refine wpAny_bind (wpAny_newList ?_ (by rw [hl, sizeLine_eq]; omega))
   have hints : IntsAre acc.toList (kvs.map (·.1)) := by
    have := ints_of_items (prog := G.prog) (w := G.w) (kvs := kvs) (l := acc.toList) (i := 0) (by rw [hl]; rfl) fun j v hj => by
     rw [Nat.zero_add]
     exact hacc.2 j v (by rw [← Array.getElem?_toList]; exact hj)
    simpa using this
   have hoL : (h'.push (seqObj "list" acc.toList.toArray 0)).get? h'.objs.size = some (seqObj "list" acc.toList.toArray 0) := Heap.get?_push_size _ rfl
   refine wpAny_bind (wpAny_holding (wpAny_call_entry slot_list_sort ⟨_, hoL, rfl⟩ entry_list_sort (list_sort_tree hoL hints (by rw [hl]; omega) fun out ns' a1 a2 a3 => ⟨_, rfl, ?_⟩) (args_list_sort _)))
   refine wpAny_pure ⟨_, rfl, ?_⟩
   have en : ns' = sortZ (kvs.map (·.1)) := List.Perm.eq_of_pairwise (fun _ _ _ _ => Int.le_antisymm) a3 (sortZ_sorted _) (a2.trans (sortZ_perm _).symm)
   subst en
   obtain ⟨e, he⟩ := sortedHeap_at (vs := acc.toList) (out := out) hoL
   have old : ∀ b o, s.heap.get? b = some o → (sortedHeap (h'.push (seqObj "list" acc.toList.toArray 0)) h'.objs.size acc.toList out).get? b = some o := fun b o q => by
    have q1 := hkp b o q
    have q2 := Heap.lt_size q1
    rw [sortedHeap_old (Nat.ne_of_lt q2) (by rw [size_push']; exact Nat.lt_succ_of_lt q2)]
    exact Heap.get?_push_of_some _ q1
   have zD : s.heap.get? h'.objs.size = none := by
    cases q : s.heap.get? h'.objs.size with
    | none => rfl
    | some o => exact absurd (Heap.lt_size (hkp _ _ q)) (Nat.lt_irrefl _)
   obtain ⟨nx, hh⟩ := σ
   have P : Pst G ρ [] s ρ { s with heap := sortedHeap (h'.push (seqObj "list" acc.toList.toArray 0)) h'.objs.size acc.toList out, toks := tk } ⟨nx, hh⟩ := Pst.grow tk X old
   have hv2 : ∀ {ρ' : Rh} {hp : Heap}, V2 G ρ' hp (litL (sortZ (kvs.map (·.1)))) out.toList := litL_V2 a1
   obtain ⟨hz, hk5⟩ := capK_some (hv2 (ρ' := ρ) (hp := s.heap)) (show capK (litL (sortZ (kvs.map (·.1)))) (allocK ⟨nx, hh⟩ (.list (litL (sortZ (kvs.map (·.1))))) k) = true from hsrt)
   have nM : ¬ Mut ρ h'.objs.size := fun ⟨p, a, q⟩ => by
    obtain ⟨o, ho⟩ := X.live p a _ q
    exact absurd (Heap.lt_size (hkp _ _ ho)) (Nat.lt_irrefl _)
   have nH : G.H0.get? h'.objs.size = none := by
    cases q : G.H0.get? h'.objs.size with
    | none => rfl
    | some o => rw [X.base _ _ q] at zD; cases zD
   have he' : (sortedHeap (h'.push (seqObj "list" acc.toList.toArray 0)) h'.objs.size acc.toList out).get? h'.objs.size = some (listOf out e) := he
   obtain ⟨σ₄, P₄, hv₄, hk₆⟩ := Pst.adopt hk5 P ⟨⟨_, he', Apart.list⟩, nM, nH⟩ zD (.list (vs := out.toList) rfl (by rw [Array.toArray_toList]; exact he') hv2 hz)
   exact ⟨_, σ₄, _, P₄, hv₄, hk₆⟩
end Mst
end
section
namespace Mst
open PySem PySem.W PyProof.Rows PySem.Calls PySem.SeqAt
variable {G : Gl}
inductive SuI (vs : List Value) (n : Int) (k : AV → B) : Prop
 | mk (ns : List Int) : IntsAre vs ns → k (.int (.lit (n + ns.sum))) = true → SuI vs n k
theorem sumV_some {ρ : Rh} {h : Heap} {vs : List Value} {l : AV} (v : LR (V1 G ρ h) l vs) : ∀ {n : Int} {k : AV → B}, sumV l n k = true → SuI vs n k := by
 induction v with
 | nil => exact fun {n k} e => ⟨[], .nil, by rw [List.sum_nil, Int.add_zero]; exact e⟩
 | cons a _ ih =>
  intro n k e
  obtain ⟨i, t, rfl, e⟩ := a.litK e
  obtain ⟨ns, h1, h2⟩ := ih (sm2_some (sm2_some e).2.2).2.2
  exact ⟨i :: ns, .cons i t h1, by rw [List.sum_cons, ← Int.add_assoc]; exact h2⟩
theorem blt_sum {R : Orc} : BltOk G R 4 (.builtin "sum") := by
 intro σ as k hk A s ρ vs n X hv Rr
 obtain ⟨a, v, rfl, h1, hk⟩ := hv.oneK hk
 obtain ⟨p, d, l, its, c, rfl, hr, ho, g, hl, hz, hk⟩ := h1.lsP X hk
 obtain ⟨ns, hi, hk⟩ := sumV_some hl.lr hk
 rw [Int.zero_add] at hk
 obtain ⟨xs, hx⟩ := hi.allInts.items
 have hl' : s.heap.IsList d (intItems xs) := hx ▸ ⟨_, g, rfl, c, rfl⟩
 refine sum_intListG Rr.handled hl' fun h' tk t' hkp => ?_
 have e1 : ns = xs.toList.map (·.1) := by
  rw [← nums_intItems, ← hx]
  exact (show numsOf its.toArray.toList = ns from hi.numsOf).symm
 have e2 : preSum (numAt xs) xs.size = ns.sum := by
  rw [preSum_eq, List.take_of_length_le (by simp), e1]
 rw [e2]
 exact QE.grow X hkp (.int (i := .lit ns.sum)) hk
section
variable {prog : Program} {w : World} {A : Around} {E : Value → Shared → Prop} {s : Shared}
theorem nb_bytes : typeLookup (.type "bytes") "__bytes__" = pure (some (.builtin "bytes.__bytes__")) := by rw [typeLookup_type, builtinLookup_eq_fast]; kernel_rfl
theorem nb_int : typeLookup (.type "int") "__bytes__" = pure none := by rw [typeLookup_type, builtinLookup_eq_fast]; kernel_rfl
theorem new_bytes {b : Array UInt8} {t : Tok} {Q : Value → Shared → Prop} (hQ : Q (.bytes b t) s) : codeAny (model prog w) A (.call (.builtin "bytes.__new__") ⟨[.type "bytes", .bytes b t], []⟩) (wants Q E) s := by
 refine codeAny_of_tree ?_
 show wpAny _ A.in1 (do checkBuiltinCall "bytes.__new__" ⟨[.type "bytes", .bytes b t], []⟩; again (.builtin "bytes.__new__" ⟨[.type "bytes", .bytes b t], []⟩)) _ _ s
 refine wpAny_bind (wpAny_of_eq (F.bm_newCall _) (wpAny_pure ⟨plainId_quiet F.bm_plain _, codeAny_builtin F.bm_entry ?_⟩))
 rw [Around.under_plainId F.bm_plain _]
 unfold Builtin.«bytes.__new__»
 refine wpAny_bind (wpAny_of_eq (a := true) rfl ?_)
 refine bm_if_false rfl ?_
 refine wpAny_bind (wpAny_of_eq F.bm_sub ?_)
 refine bm_if_false rfl ?_
 refine wpAny_bind (wpAny_of_eq (F.bm_bind _) ?_)
 refine wpAny_bind (wpAny_of_eq (a := ()) rfl ?_)
 refine wpAny_bind (wpAny_of_eq (a := ()) rfl ?_)
 refine bm_if_false rfl ?_
 refine wpAny_bind (wpAny_of_eq (KBy.special_eq nb_bytes) ?_)
 refine wpAny_bind (wpAny_rule ?_)
 refine wpAny_bind (wpAny_typeOf (typeIs_bytes s b t) ?_)
 refine bm_if_true (by decide) ?_
 exact wpAny_pure hQ
theorem call_bytes_bytes {b : Array UInt8} {t : Tok} {Q : Value → Shared → Prop} (hQ : Q (.bytes b t) s) : wpAny (model prog w) A (call (.type "bytes") [.bytes b t]) Q E s := by
 refine callType_codes (Q₁ := fun obj s₁ => s₁.TypeIs obj "bytes" ∧ Q obj s₁) F.bm_called (F.bm_typeCall _) F.entry_object_init (new_bytes ⟨typeIs_bytes _ _ _, hQ⟩) fun obj s₁ h₁ => ?_
 exact ⟨h₁.1, F.args_object_init_2 obj _, object_init_meets F.bm_called.init.lookup F.bm_called.made (by decide) prog w A.in1 _ s₁ ⟨h₁.1, rfl, h₁.2⟩⟩
theorem new_zeros {i : Int} {t : Tok} {Q : Value → Shared → Prop} (h0 : 0 ≤ i) (hn : i ≤ 65536) (hQ : ∀ u k, Q (.bytes (Array.replicate i.toNat 0) u) { s with toks := k }) : codeAny (model prog w) A (.call (.builtin "bytes.__new__") ⟨[.type "bytes", .int i t], []⟩) (wants Q E) s := by
 refine codeAny_of_tree ?_
 show wpAny _ A.in1 (do checkBuiltinCall "bytes.__new__" ⟨[.type "bytes", .int i t], []⟩; again (.builtin "bytes.__new__" ⟨[.type "bytes", .int i t], []⟩)) _ _ s
 refine wpAny_bind (wpAny_of_eq (F.bm_newCall _) (wpAny_pure ⟨plainId_quiet F.bm_plain _, codeAny_builtin F.bm_entry ?_⟩))
 rw [Around.under_plainId F.bm_plain _]
 unfold Builtin.«bytes.__new__»
 refine wpAny_bind (wpAny_of_eq (a := true) rfl ?_)
 refine bm_if_false rfl ?_
 refine wpAny_bind (wpAny_of_eq F.bm_sub ?_)
 refine bm_if_false rfl ?_
 refine wpAny_bind (wpAny_of_eq (F.bm_bind _) ?_)
 refine wpAny_bind (wpAny_of_eq (a := ()) rfl ?_)
 refine wpAny_bind (wpAny_of_eq (a := ()) rfl ?_)
 refine bm_if_false rfl ?_
 refine wpAny_bind (wpAny_specialOf (T := "int") (typeIs_int _ _ _) nb_int ?_)
 refine wpAny_bind (wpAny_of_eq (a := false) rfl ?_)
 refine bm_if_false rfl ?_
 refine wpAny_bind (wpAny_specialOf (T := "int") (typeIs_int _ _ _) F.slot_int_index.lookup ?_)
 refine bm_if_false rfl ?_
 refine wpAny_bind (wpAny_attempt (wpAny_of_eq (a := i) rfl ?_))
 dsimp only
 refine bm_if_false (by show (!(decide (-(2 ^ 63 : Int) ≤ i) && decide (i < 2 ^ 63))) = false; rw [decide_eq_true (show -(2 ^ 63 : Int) ≤ i by omega), decide_eq_true (show i < 2 ^ 63 by omega)]; rfl) ?_
 refine wpAny_ite_false (decide_eq_false (show ¬ (i < 0) by omega)) ?_
 refine wpAny_ite_false (decide_eq_false (show ¬ (i > 2 ^ 63 - 34) by omega)) ?_
 refine bm_if_false (KBy.tooLong_not (by omega)) ?_
 refine wpAny_bind (wpAny_rule ?_)
 refine wpAny_bind (wpAny_mkBytes ?_ (by rw [Array.size_replicate, sizeLine_eq]; omega))
 exact wpAny_pure (hQ _ _)
theorem call_bytes_zeros {i : Int} {t : Tok} {Q : Value → Shared → Prop} (h0 : 0 ≤ i) (hn : i ≤ 65536) (hQ : ∀ u k, Q (.bytes (Array.replicate i.toNat 0) u) { s with toks := k }) : wpAny (model prog w) A (call (.type "bytes") [.int i t]) Q E s := by
 refine callType_codes (Q₁ := fun obj s₁ => s₁.TypeIs obj "bytes" ∧ Q obj s₁) F.bm_called (F.bm_typeCall _) F.entry_object_init (new_zeros h0 hn fun u k => ⟨typeIs_bytes _ _ _, hQ u k⟩) fun obj s₁ h₁ => ?_
 exact ⟨h₁.1, F.args_object_init_2 obj _, object_init_meets F.bm_called.init.lookup F.bm_called.made (by decide) prog w A.in1 _ s₁ ⟨h₁.1, rfl, h₁.2⟩⟩
end
theorem zerosV_some {ν : Nat → Int} {n : Nat} : ∀ {k : AV → B}, zerosV n k = true → Ex (fun l => BRel ν l (List.replicate n 0)) k := by
 induction n with
 | zero => exact fun h => ⟨.nil, .nil, h⟩
 | succ n ih => exact fun {k} h => let ⟨l, h1, h2⟩ := ih (k := fun m => k (.cons (.int (.lit 0)) m)) h; ⟨_, .cons rfl h1, h2⟩
inductive ByI (ν : Nat → Int) (vs : List Value) (l : AV) (b : B) : Prop
 | mk (ns : List Int) : IntsAre vs ns → (∀ n ∈ ns, 0 ≤ n ∧ n < 256) → BRel ν l (byteArr ns).toList → b = true → ByI ν vs l b
theorem leI_e {R : Orc} (hR : OrcOk G.ν R) {i j : AI} {k : AV → B} (h : opI R 11 i j k = true) : Ex (fun v => v = .bool (decide (i.val G.ν ≤ j.val G.ν))) k := let ⟨v, a, b⟩ := opI_some hR h; ⟨v, a, b⟩
theorem tst_dec {c : Prop} [Decidable c] {t : B} (h : tstK (.bool (decide c)) t false = true) : c ∧ t = true := by
 by_cases q : c
 · rw [decide_eq_true q] at h; exact ⟨q, h⟩
 · rw [decide_eq_false q] at h; exact ff h
theorem byte_val {x : Int} (h0 : 0 ≤ x) (h1 : x < 256) : x = ((x.toNat.toUInt8).toNat : Int) := by
 have e : (x.toNat.toUInt8).toNat = x.toNat % 2 ^ 8 := UInt8.toNat_ofNat'
 rw [e, Nat.mod_eq_of_lt ((Int.toNat_lt h0).mpr h1), Int.toNat_of_nonneg h0]
theorem byteK_some {R : Orc} (hR : OrcOk G.ν R) {ρ : Rh} {h : Heap} {vs : List Value} {l : AV} (v : LR (V1 G ρ h) l vs) : ∀ {b : B}, byteK R l b = true → ByI G.ν vs l b := by
 induction v with
 | nil => exact fun e => ⟨[], .nil, (fun _ h => nomatch h), .nil, e⟩
 | @cons av lm x xs a _ ih =>
  intro b e
  obtain ⟨i, e0, g⟩ := intK_e e
  clear e
  subst e0
  obtain ⟨t, rfl⟩ := a.int_inv
  obtain ⟨u, rfl, g⟩ := leI_e hR g
  obtain ⟨v, rfl, g⟩ := leI_e hR g
  obtain ⟨le1, g⟩ := tst_dec g
  obtain ⟨le2, g⟩ := tst_dec g
  obtain ⟨ns, h1, h2, h3, h4⟩ := ih g
  have le1 : (0 : Int) ≤ i.val G.ν := le1
  have le2 : i.val G.ν < 256 := Int.lt_of_le_of_lt (show i.val G.ν ≤ 255 from le2) (by decide)
  refine ⟨i.val G.ν :: ns, .cons _ t h1, fun n hn => ?_, .cons (byte_val le1 le2) h3, h4⟩
  rcases List.mem_cons.mp hn with rfl | hn
  · exact ⟨le1, le2⟩
  · exact h2 n hn
theorem blt_bytes {R : Orc} (hR : OrcOk G.ν R) : BltOk G R 7 (.type "bytes") := by
 intro σ as k hk A s ρ vs n X hv Rr
 obtain ⟨a, v, rfl, h1, hk⟩ := hv.oneK hk
 cases a with
 | int i =>
  obtain ⟨m, t, rfl, hk⟩ := h1.natK hk
  obtain ⟨l, hl, hk⟩ := zerosV_some (ν := G.ν) hk
  obtain ⟨hz, hk⟩ := capK_byt hl hk
  rw [List.length_replicate] at hz
  refine call_bytes_zeros (i := (m : Int)) (Int.natCast_nonneg m) (Int.ofNat_le.mpr hz) fun u kk => ⟨.byt l, σ, ρ, Pst.tok _ X, .byt ?_ (by rw [Array.size_replicate, Int.toNat_natCast]; exact hz), hk⟩
  rw [Array.toList_replicate, Int.toNat_natCast]; exact hl
 | byt l =>
  obtain ⟨b, t, rfl, hb, hz⟩ := h1.byt_inv
  exact call_bytes_bytes (QE.now X (.byt hb hz) hk)
 | ref p =>
  obtain ⟨_, d, l, its, c, rfl, hr, ho, g, hl, hz, hk⟩ := h1.lsP X (k := fun V l => capK l (byteK R l (k (.byt l) σ))) hk
  obtain ⟨_, hk⟩ := capK_some hl hk
  obtain ⟨ns, hi, hr', hbr, hk⟩ := byteK_some hR hl.lr hk
  refine call_bytes_ints ⟨_, g, rfl, c, rfl⟩ hi hr' (by rw [sizeLine_eq]; exact Nat.le_trans hz (by decide)) Rr.handled fun h' t kk hkp => QE.grow X hkp (.byt hbr ?_) hk
  rw [byteArr_size, ← hi.length]; exact hz
 | _ => exact ff hk
end Mst
end
section
namespace Mst
open PySem PySem.W PyProof.Rows PySem.Calls
theorem list_pop0 {prog : Program} {w : World} {A : Around} {E : Value → Shared → Prop} {s : Shared} {l : Addr} {v : Value} {r : List Value} {c : Nat} {t : Tok} {Q : Value → Shared → Prop} (hl : s.heap.get? l = some (listOf (v :: r).toArray c)) (hz : r.length ≤ 65536)
 (hQ : ∀ h', (∃ c', h'.get? l = some (listOf r.toArray c')) → Heap.SameBut l s.heap h' → Q v { s with heap := h' }) :
 wpAny (model prog w) A (call (.builtin "list.pop") [.ref l, .int 0 t]) Q E s := by
 have e1 : sizeLine = 16777216 := sizeLine_eq
 refine wpAny_call_entry F.slot_list_pop ⟨_, hl, rfl⟩ F.entry_list_pop ?_ (F.args_list_pop_2 _ _)
 unfold Builtin.«list.pop»
 wp_walk
 have sz : (v :: r).toArray.size = r.length + 1 := by simp
 have hm : ((seqIndex? 0 (v :: r).toArray.size).bind fun k => Option.map (fun x => (k, x)) (v :: r).toArray[k]?) = some (0, v) := by
  rw [sz, show seqIndex? 0 (r.length + 1) = some 0 from by unfold seqIndex?; simp]
  simp
 have he : ((v :: r).toArray.eraseIdxIfInBounds 0) = r.toArray := by simp [Array.eraseIdxIfInBounds]
 rw [hm]
 refine wpAny_bind ?_
 show wpAny _ _ (updateSeq l fun x => x.eraseIdxIfInBounds 0) _ _ _
 refine wpAny_updateSeq (s := s) (f := fun x => x.eraseIdxIfInBounds 0) hl rfl (wpAny_pure ⟨v, rfl, hQ _ ⟨c + 1, ?_⟩ (Heap.SameBut.update ..)⟩) (by rw [sz]; omega) (by show ((v :: r).toArray.eraseIdxIfInBounds 0).size ≤ _; rw [he, List.size_toArray]; omega)
 rw [Heap.get?_update_self _ hl (by unfold Obj.mapSeq; rfl)]
 show some (Obj.mapSeq _ ⟨_, _, _, _⟩) = _
 unfold Obj.mapSeq
 dsimp only
 rw [he, sz, List.size_toArray, if_neg (by simp)]
theorem mth_pop {G : Gl} {R : Orc} (h0 : ∀ z, AI.eq z (.lit (.ofNat 0)) = true → z.val G.ν = 0) : MthOk G R 1 "pop" := by
 refine mth_ok PySem.F.plainAttrs_list F.slot_list_pop F.type_list_pop (fun hk X hv => pre_list hk X hv) ?_
 intro σ e as k hk A s ρ v vs n X hv hvs Rr
 obtain ⟨_, w, rfl, hw, hk⟩ := hvs.oneK hk
 obtain ⟨z, t, rfl, hk⟩ := hw.intK hk
 cases q : AI.eq z (.lit (.ofNat 0)) with
 | false => rw [q] at hk; exact ff hk
 | true =>
  rw [q] at hk
  obtain ⟨p, d, l, its, c, rfl, hr, ho, g, hl, hz, hk⟩ := hv.lsP X hk
  obtain ⟨a, l, x, xs, rfl, hx, hxs, hk⟩ := hl.consK hk
  obtain ⟨t', hk, t1, t2⟩ := HT.setK_some p hk
  rw [h0 z q]
  have hz := Nat.le_of_succ_le hz
  refine list_pop0 g hz fun h' hpl hs => ?_
  obtain ⟨c', g'⟩ := hpl
  have P₃ : Pst G ρ [] s ρ { s with heap := h', toks := s.toks } ⟨σ.n, t'⟩ := Pst.mut _ X hr g Apart.list t1 t2 (fun c o hc e => (hs.2 c hc).trans e) ⟨_, g'⟩ (fun o es ep e1 e2 => by rw [g] at e1; cases e1; cases e2)
   fun tp => .list rfl g' (hxs.mono (Rle.refl _) tp) hz
  exact ⟨a, _, ρ, P₃, hx.mono (Rle.refl _) P₃.tups, hk⟩
end Mst
end
section
namespace Mst
open PySem PySem.W PyProof.Rows PySem.Calls
variable (G : Gl)
noncomputable def RawX (h : Heap) (a : Addr) (c : Nat) : Prop := ∃ oe vs a0, h.get? a = some oe ∧ oe.cls = .ref (G.clA c) ∧ oe.data = .fields vs ∧ vs[0]? = some a0 ∧ vs[1]? = some .none
noncomputable def TrX (h base : Heap) (a : Addr) (c : Nat) (fl : Value) : Prop := ∃ a0, h.TracedAtW base a (.ref (G.clA c)) a0 fl
structure ErrB (kx : Kx) (own : List Addr) (l : List Env) (ρ : Rh) (s : Shared) (a : Addr) (s' : Shared) (c : Nat) (base : Heap) : Prop where
 past : ∃ σ₁ ρ₁ s₁, kx c σ₁ = true ∧ Pst G ρ own s ρ₁ s₁ σ₁ ∧ s' = ⟨s'.heap, s₁.gens, s₁.drawn, s'.toks, s₁.os⟩ ∧ s₁.heap.get? a = none ∧
  ∀ b o, s₁.heap.get? b = some o → (∃ sl, s'.heap.get? b = some { o with slots := sl }) ∧ (base.get? b = some o ∨ IsFr o)
 stays : base.StaysIn s'.heap
 new : base.get? a = none
 frames : s'.heap.FunFrames base l
 root : G.H0.StaysIn base
noncomputable def ZeX (kx : Kx) : ER := fun V A ρ s e s' => ∃ c a l base, e = .ref a ∧ A.frames = some l ∧ ErrB G kx [] l ρ s a s' c base ∧ TrX G s'.heap base a c .none
noncomputable def ZsX (kx : Kx) : ER := fun env A ρ s e s' => ∃ c a l base, e = .ref a ∧ A.frames = some l ∧ ErrB G kx (ownOf env) l ρ s a s' c base ∧
 (RawX G s'.heap a c ∨ TrX G s'.heap base a c .none ∨ ∃ L outer, l = env :: outer ∧ env.frame = some L ∧ TrX G s'.heap base a c (rawInt L))
variable {G}
theorem ErrB.from {kx : Kx} {own : List Addr} {l : List Env} {ρ ρ' : Rh} {s s₁ s' : Shared} {σ : St} {a : Addr} {c : Nat} {base : Heap} (P : Pst G ρ own s ρ' s₁ σ) (x : ErrB G kx own l ρ' s₁ a s' c base) : ErrB G kx own l ρ s a s' c base := by
 obtain ⟨σ₁, ρ₁, s₂, h1, h2, h3⟩ := x.past
 exact ⟨⟨σ₁, ρ₁, s₂, h1, P.trans h2, h3⟩, x.stays, x.new, x.frames, x.root⟩
theorem ErrB.turn {kx : Kx} {own : List Addr} {l l' : List Env} {ρ : Rh} {s s' : Shared} {a : Addr} {c : Nat} {base h' : Heap} (x : ErrB G kx own l ρ s a s' c base) (h1 : base.StaysIn h') (h2 : h'.FunFrames base l')
 (h3 : ∀ b o, s'.heap.get? b = some o → (∀ vs, o.data ≠ .fields vs) → ∃ sl, h'.get? b = some { o with slots := sl }) : ErrB G kx own l' ρ s a { s' with heap := h' } c base := by
 obtain ⟨σ₁, ρ₁, s₂, k1, k2, k3, k4, k5⟩ := x.past
 refine ⟨⟨σ₁, ρ₁, s₂, k1, k2, by rw [k3], k4, fun b o hb => ?_⟩, h1, x.new, h2, x.root⟩
 obtain ⟨⟨sl, g1⟩, g2⟩ := k5 b o hb
 rcases g2 with g2 | g2
 · exact ⟨⟨o.slots, h1 b o g2⟩, .inl g2⟩
 · obtain ⟨sl', g3⟩ := h3 b _ g1 (fun vs q => by
    obtain ⟨_, es, ep, q2⟩ := g2
    rw [show o.data = .fields vs from q] at q2; cases q2)
   exact ⟨⟨sl', g3⟩, .inr g2⟩
section
variable {M : Model} {A : Around} {E : Value → Shared → Prop} {s : Shared}
theorem setFlight_any {base : Heap} {l : List Env} {e : Addr} {cls a0 fl : Value} {f : Option Addr} {Q : Unit → Shared → Prop} (hkb : base.StaysIn s.heap) (hl : s.heap.FunFrames base l) (ht : s.heap.TracedAtW base e cls a0 fl)
 (h : ∀ h', base.StaysIn h' → h'.FunFrames base l → h'.TracedAtW base e cls a0 (f.elim Value.none fun f => rawInt f) → (∀ b o, s.heap.get? b = some o → (∀ vs, o.data ≠ .fields vs) → h'.get? b = some o) → Q () { s with heap := h' }) :
 wpAny M A (setFlight (.ref e) f) Q E s := by
 obtain ⟨oe, vs, T, oT, ts, he, hcls, hd, h1, hnT, hTe, hT, hdT, h3⟩ := ht
 have hsz3 : 3 < ts.size := (Array.getElem?_eq_some_iff.mp h3).1
 have other : ∀ b, b ≠ T → (s.heap.update T (Obj.mapFields (·.setIfInBounds 3 (f.elim Value.none fun f => rawInt f)))).get? b = s.heap.get? b := fun b hb => Heap.get?_update_other _ _ (Ne.symm hb)
 have noRecord : ∀ b o, s.heap.get? b = some o → (∀ vs, o.data ≠ .fields vs) → b ≠ T := fun b o hb hnf q => by
  rw [q, hT] at hb; injection hb with hb; subst hb; exact hnf ts hdT
 unfold setFlight
 refine wpAny_bind (wpAny_field he hd h1 ?_)
 rw [if_pos (show (Value.ref T != Value.none) = true from by simp)]
 refine wpAny_setField hT hdT hsz3 (h _ (fun b o hbo => (other b fun q => by rw [q, hnT] at hbo; cases hbo).trans (hkb b o hbo))
  (hl.of_keeps fun b o hb hnf => ⟨o, (other b (noRecord b o hb hnf)).trans hb, rfl⟩) ?_ fun b o hb hnf => (other b (noRecord b o hb hnf)).trans hb)
 exact ⟨oe, vs, T, _, _, (other e (Ne.symm hTe)).trans he, hcls, hd, h1, hnT, hTe, Heap.get?_update_self _ hT (Obj.isFreed_of_fields (Obj.data_mapFields hdT _)), Obj.data_mapFields hdT _, by simp [hsz3]⟩
theorem note_any {G : Gl} {base : Heap} {env : Env} {outer : List Env} {L e : Addr} {c : Nat} {Q : Unit → Shared → Prop} (hfr : A.frames = some (env :: outer)) (hf : env.frame = some L) (hkb : base.StaysIn s.heap) (hen : base.get? e = none) (hl : s.heap.FunFrames base (env :: outer))
 (st : RawX G s.heap e c ∨ TrX G s.heap base e c .none ∨ TrX G s.heap base e c (rawInt L))
 (h : ∀ h', base.StaysIn h' → h'.FunFrames base (env :: outer) → TrX G h' base e c (rawInt L) → (∀ b o, s.heap.get? b = some o → (∀ vs, o.data ≠ .fields vs) → ∃ sl, h'.get? b = some { o with slots := sl }) → Q () { s with heap := h' }) :
 wpAny M A (noteFrame (.ref e) env) Q E s := by
 rcases st with ⟨oe, vs, a0, he, hc, hd, h0, h1⟩ | ⟨a0, ht⟩ | ⟨a0, ht⟩
 · unfold noteFrame
   simp only [hf]
   refine wpAny_bind (wpAny_field he hd h1 ?_)
   rw [if_neg (by decide)]
   refine wpAny_entryW hfr hl hf he hkb hen hd (Array.getElem?_eq_some_iff.mp h1).1 h0 fun h' hN => ?_
   obtain ⟨k1, k2, k3, k4⟩ := hN
   exact h h' k1 k2 ⟨a0, hc ▸ k3⟩ k4
 · refine wpAny_noteFrame_onW hfr hl hf ht hkb hen fun h' hN => ?_
   obtain ⟨k1, k2, k3, k4⟩ := hN
   exact h h' k1 k2 ⟨a0, k3⟩ k4
 · exact wpAny_noteFrame_againW hf ht (h s.heap hkb hl ⟨a0, ht⟩ fun b o hb V => ⟨o.slots, hb⟩)
end
instance (kx : Kx) : EOk0 G (ZeX G kx) where
 after := fun P ⟨c, a, l, base, h1, h2, h3, h4⟩ => ⟨c, a, l, base, h1, h2, h3.from P, h4⟩
 frames := fun hA ⟨c, a, l, base, h1, h2, h3, h4⟩ => ⟨c, a, l, base, h1, hA ▸ h2, h3, h4⟩
instance (kx : Kx) : EOk G (ZsX G kx) where
 after := fun P ⟨c, a, l, base, h1, h2, h3, h4⟩ => ⟨c, a, l, base, h1, h2, h3.from P.any, h4⟩
 frames := fun hA ⟨c, a, l, base, h1, h2, h3, h4⟩ => ⟨c, a, l, base, h1, hA ▸ h2, h3, h4⟩
 afterO := fun P ⟨c, a, l, base, h1, h2, h3, h4⟩ => ⟨c, a, l, base, h1, h2, h3.from P, h4⟩
 loop := by
  rintro env A ρ s s' e ⟨hf, outer, hfr⟩ ⟨c, a, l, base, rfl, h2, h3, h4⟩
  rw [hfr] at h2; cases h2
  have st : RawX G s'.heap a c ∨ TrX G s'.heap base a c .none ∨ TrX G s'.heap base a c (rawInt env.locals) := by
   rcases h4 with h | h | ⟨L, o, e1, e2, h⟩
   · exact .inl h
   · exact .inr (.inl h)
   · rw [hf] at e2; cases e2; exact .inr (.inr h)
  refine note_any hfr hf h3.stays h3.new h3.frames st fun h' k1 k2 k3 k4 => ?_
  obtain ⟨a0, ht⟩ := k3
  have X := h3.turn k1 k2 k4
  obtain ⟨oe, vs, T, oT, ts, he, hcls, hd, h1, _⟩ := id ht
  refine wpAny_bind (wpAny_field (s := { s' with heap := h' }) he hd h1 ?_)
  rw [if_neg (by simp)]
  refine setFlight_any (s := { s' with heap := h' }) k1 k2 ht fun h'' q1 q2 q3 q4 => ?_
  rw [hf] at q3
  exact ⟨c, a, _, base, rfl, hfr, X.turn q1 q2 fun b o hb hn => ⟨o.slots, q4 b o hb hn⟩, .inr (.inr ⟨_, outer, rfl, hf, a0, q3⟩)⟩
instance : EFam G (ZeX G) (ZsX G) where
 ok0 := fun kx => inferInstance
 okS := fun kx => inferInstance
 up := fun ⟨c, a, l, base, h1, h2, h3, h4⟩ => ⟨c, a, l, base, h1, h2, ⟨let ⟨σ₁, ρ₁, s₁, k1, k2, k3⟩ := h3.past; ⟨σ₁, ρ₁, s₁, k1, k2.any, k3⟩, h3.stays, h3.new, h3.frames, h3.root⟩, .inr (.inl h4)⟩
 leave := by
  rintro kx env env' A ρ s s₁ s' σ e P free hf hk ⟨fr, hfr, hst⟩ ⟨c, a, l, base, rfl, h2, h3, h4⟩
  have hfr' : (A.deeper env').frames = some (env' :: fr) := by show A.frames.map _ = _; rw [hfr]; rfl
  rw [hfr'] at h2; cases h2
  have st : RawX G s'.heap a c ∨ TrX G s'.heap base a c .none ∨ TrX G s'.heap base a c (rawInt env'.locals) := by
   rcases h4 with h | h | ⟨L, o, e1, e2, h⟩
   · exact .inl h
   · exact .inr (.inl h)
   · rw [hf] at e2; cases e2; exact .inr (.inr h)
  unfold leaving
  refine wpAny_bind (note_any hfr' hf h3.stays h3.new h3.frames st fun h' k1 k2 k3 k4 => ?_)
  obtain ⟨a0, ht⟩ := k3
  have X := h3.turn k1 k2 k4
  refine setFlight_any (s := { s' with heap := h' }) k1 k2 ht fun h'' q1 q2 q3 q4 => ?_
  obtain ⟨_, _, q2'⟩ := q2
  have Y := X.turn (l' := fr) q1 q2' fun b o hb hn => ⟨o.slots, q4 b o hb hn⟩
  obtain ⟨σ₁, ρ₁, s₂, g1, g2, g3⟩ := Y.past
  exact ⟨c, a, fr, base, rfl, hfr, ⟨⟨σ₁, ρ₁, s₂, g1, (P.any.trans g2).drop fun b hb => .inr (free b hb), g3⟩, Y.stays, Y.new, Y.frames, Y.root⟩, a0, q3⟩
end Mst
end
section
namespace Mst
open PySem PySem.W PyProof.Rows PySem.Calls
variable {G : Gl}
theorem OR.notFr {ρ : Rh} {h : Heap} {a d : Addr} {o : AO} (x : OR G ρ h a d o) : (∀ ob, h.get? a = some ob → ¬ IsFr ob) ∧ ∀ ob, h.get? d = some ob → ¬ IsFr ob := by
 have no : ∀ {T : String}, T ≠ "frame" → ∀ {ob : Obj}, ob.cls = .type T → ¬ IsFr ob := fun hT ob hc f => hT (Value.type.inj (hc.symm.trans f.1))
 cases x with
 | list e g v z => subst e; exact ⟨fun ob q => by rw [g] at q; cases q; exact no (by decide) rfl, fun ob q => by rw [g] at q; cases q; exact no (by decide) rfl⟩
 | dictI e g i v z y =>
  subst e
  obtain ⟨es, ep, h1, _⟩ := i
  exact ⟨fun ob q => by rw [g] at q; cases q; exact no (by decide) h1.1, fun ob q => by rw [g] at q; cases q; exact no (by decide) h1.1⟩
 | dictS e g i v z y =>
  subst e
  obtain ⟨es, ep, h1, _⟩ := i
  exact ⟨fun ob q => by rw [g] at q; cases q; exact no (by decide) h1.1, fun ob q => by rw [g] at q; cases q; exact no (by decide) h1.1⟩
 | inst c g1 g2 f z k =>
  exact ⟨fun ob q => by rw [g1] at q; cases q; exact fun f => (by cases f.1), fun ob q => by rw [g2] at q; cases q; exact no (by decide) rfl⟩
 | range e g =>
  subst e
  have key : ∀ ob, h.get? d = some ob → ¬ IsFr ob := fun ob q f => by
   have e := Option.some.inj ((show h.get? d = some _ from g).symm.trans q)
   exact absurd (show (Value.type "range") = .type "frame" from (congrArg Obj.cls e).trans f.1) (by decide)
  exact ⟨key, key⟩
theorem ErrB.pst {kx : Kx} {own : List Addr} {l : List Env} {ρ : Rh} {s s' : Shared} {a : Addr} {c : Nat} {base : Heap} (x : ErrB G kx own l ρ s a s' c base) : ∃ σ₁ ρ₁, kx c σ₁ = true ∧ Pst G ρ own s ρ₁ s' σ₁ := by
 obtain ⟨σ₁, ρ₁, s₁, k1, P, k3, k4, k5⟩ := x.past
 refine ⟨σ₁, ρ₁, k1, ?_⟩
 have ex : ∀ b o, s₁.heap.get? b = some o → ¬ IsFr o → s'.heap.get? b = some o := fun b o hb hn => by
  rcases (k5 b o hb).2 with h | h
  · exact x.stays b o h
  · exact absurd h hn
 have tp : Tups s₁.heap s'.heap := fun b vs e => ex b _ e fun f => absurd (show Value.type "tuple" = .type "frame" from f.1) (by decide)
 have X := P.sr
 refine ⟨?_, ⟨fun b o e => x.stays b o (x.root b o e), fun p o hp => ?_, X.fresh, X.inj, X.apart, fun p b d hp => ?_⟩, P.le, P.new, fun b o hb hm ho => ?_, fun b o hb => ?_, fun b vs e => tp b vs (P.tups b vs e), fun b hb => ?_⟩
 · rw [k3]
   have := P.rest
   obtain ⟨h1, g1, d1, t1, o1⟩ := s₁
   simp only [Shared.mk.injEq, true_and] at this
   obtain ⟨rfl, rfl, rfl⟩ := this
   rfl
 · obtain ⟨b, d, h1, h2⟩ := X.obj p o hp
   have nf := h2.notFr
   exact ⟨b, d, h1, h2.keeps (Rle.refl _) (fun ob e => ex b ob e (nf.1 ob e)) (fun ob e => ex d ob e (nf.2 ob e)) tp⟩
 · obtain ⟨o, ho⟩ := X.live p b d hp
   obtain ⟨⟨sl, h⟩, _⟩ := k5 d o ho
   exact ⟨_, h⟩
 · obtain ⟨sl, h1, h2⟩ := P.keep b o hb hm ho
   obtain ⟨⟨sl', h3⟩, _⟩ := k5 b _ h1
   refine ⟨sl', h3, fun nd => ?_⟩
   have h4 := ex b _ h1 fun f => (by
    obtain ⟨f1, es, ep, f2⟩ := f
    exact nd f1 es ep f2)
   rw [h4] at h3
   have e := congrArg Obj.slots (Option.some.inj h3)
   exact (show sl' = sl from e.symm).trans (h2 nd)
 · obtain ⟨o', h1⟩ := P.live b o hb
   obtain ⟨⟨sl, h⟩, _⟩ := k5 b o' h1
   exact ⟨_, h⟩
 · refine (P.eps b hb).trans fun o es ep ho hd => ?_
   obtain ⟨⟨sl, h⟩, _⟩ := k5 b o ho
   exact ⟨_, es, ep, h, hd, Nat.le_refl _, fun V => rfl⟩
end Mst
end
section
namespace Mst
open PySem PySem.W PyProof.Rows PySem.Calls
variable {G : Gl}
variable (G)
noncomputable def ExcAt (c : Nat) (x : PySem.Str) : Prop := nsIn G.K mainGlobals x = some (some (.ref (G.clA c))) ∧ (x == ("__debug__" : PySem.Str)) = false ∧
 ∃ (nm q : PySem.Str) (N : Addr) (bs bm : List Value) (hdct : Bool) (sn : List PySem.Str) (sub : List Value) (ab : Bool) (col : Option Bool) (dd : Option Addr) (k0 k1 k2 k3 k5 : Option Value) (newId : String),
  G.H0.get? (G.clA c) = some (excClassObj nm q (G.clA c) N bs bm hdct sn sub ab col dd k0 k1 k2 k3 k5 newId) ∧ bm.contains (.type "BaseException") = true
variable {G}
theorem EnvOkT.mark {T : List Nat} {sc : Scope} {A : Around} {env : Env} {l : Loc} {ρ : Rh} {h : Heap} {m : PySem.Str → Option Value} (E : EnvOkT G T sc A env l ρ h m) (v : Option Value) : EnvOkT G T sc (A.mark v) env l ρ h m :=
 ⟨E.scope, E.kind, E.blts, E.globs, E.ns, E.offL, E.offC, E.look, E.baseL, E.ndC, E.hasC, let ⟨l, h1, h2⟩ := E.stk; ⟨l, h1, h2⟩⟩
theorem EnvOkT.unmark {T : List Nat} {sc : Scope} {A : Around} {env : Env} {l : Loc} {ρ : Rh} {h : Heap} {m : PySem.Str → Option Value} {v : Option Value} (E : EnvOkT G T sc (A.mark v) env l ρ h m) : EnvOkT G T sc A env l ρ h m :=
 ⟨E.scope, E.kind, E.blts, E.globs, E.ns, E.offL, E.offC, E.look, E.baseL, E.ndC, E.hasC, let ⟨l, h1, h2⟩ := E.stk; ⟨l, h1, h2⟩⟩
theorem try_ok (C : Cx G) {c : Nat} {x : PySem.Str} (EC : ExcAt G c x) {sc : Scope} {kx : Kx} {n : Nat} {np hp p : Pos} {st : Stmt} {hb : List Stmt} {exb : Kx → Loc → St → (Loc → St → B) → (AV → St → B) → (Loc → St → B) → B} {exh : Loc → St → (Loc → St → B) → (AV → St → B) → (Loc → St → B) → B}
 (hx : sc.names.lookup x = some .globalImplicit) (hne : hb ≠ []) (hbd : ∀ kx', ExOk G (ZeX G kx') sc (exb kx') n (fun env => execs [st] env)) (hhd : HdOk G sc exh (fun env => execs hb env)) :
 ExOk G (ZsX G kx) sc (fun l s kn kr kc => exb (fun c' s => ifB (Nat.beq c' c) (exh l s kn kr kc) false) l s kn kr kc) n (fun env => exec (.Try [st] [.ExceptHandler (some (.Name x np)) none hb hp] [] [] p) env) := by
 obtain ⟨e1, e2, nm, q, N, bs, bm, hdct, sn, sub, ab, col, dd, k0, k1, k2, k3, k5, newId, hC, hbase⟩ := EC
 intro l σ kn kr kc hk env A s ρ m hf E X R
 obtain ⟨hfL, outer, hfr⟩ := id hf
 refine wpAny_Try_except (wpAny_mono (hbd _ l σ kn kr kc hk env A s ρ m hf E X R) (fun fl s₁ q => ?_) fun e s₁ q => ?_)
 · cases fl with
   | next => exact wpAny_execs_nil q
   | ret v => exact q
   | cont => exact q
   | brk => exact q
 · obtain ⟨c', a, l', base, rfl, hA, eb, tr⟩ := q
   rw [hfr] at hA; cases hA
   refine note_any hfr hfL eb.stays eb.new eb.frames (.inr (.inl tr)) fun h' t1 t2 t3 t4 => ?_
   have X1 := eb.turn t1 t2 t4
   obtain ⟨a0, ht⟩ := t3
   refine setFlight_any (s := { s₁ with heap := h' }) t1 t2 ht fun h'' u1 u2 u3 u4 => ?_
   have X2 := X1.turn u1 u2 fun b o hb hn => ⟨o.slots, u4 b o hb hn⟩
   obtain ⟨σ₁, ρ₁, hkc, P⟩ := X2.pst
   have hcc : c' = c ∧ exh l σ₁ kn kr kc = true := by
    have hkc' : ifB (Nat.beq c' c) (exh l σ₁ kn kr kc) false = true := hkc
    cases z : Nat.beq c' c with
    | true => rw [z] at hkc'; exact ⟨Nat.eq_of_beq_eq_true z, hkc'⟩
    | false => rw [z] at hkc'; cases hkc'
   obtain ⟨rfl, hex⟩ := hcc
   have E₂ := E.after P
   have hCl : h''.get? (G.clA c') = some _ := P.sr.base _ _ hC
   obtain ⟨oe, vs, T, oT, ts, he, hcls, hd, h1, _⟩ := id u3
   refine wpAny_handleBy_cons (codeAny_handlers_test ?_) (by intro q; cases q)
   refine name_glob C (E₂.mark _) P.sr hx e1 e2 ?_
   refine wpAny_excMatches_sub_self (h := h'') hCl he hcls.1 hbase ?_
   cases hb with
   | nil => exact absurd rfl hne
   | cons b₀ body =>
    refine codeAny_handlers_suite ?_
    refine setFlight_any (M := model G.prog G.w) (s := ⟨h'', s₁.gens, s₁.drawn, s₁.toks, s₁.os⟩) u1 u2 u3 fun h3 w1 w2 w3 w4 => ?_
    have X3 := X2.turn w1 w2 fun b o hb hn => ⟨o.slots, w4 b o hb hn⟩
    obtain ⟨σ₂, ρ₂, hkc2, P₂⟩ := X3.pst
    have hex2 : exh l σ₂ kn kr kc = true := by
     have hkc' : ifB (Nat.beq c' c') (exh l σ₂ kn kr kc) false = true := hkc2
     rw [Nat.beq_refl] at hkc'; exact hkc'
    refine wpAny_mono (hhd l σ₂ kn kr kc hex2 env (A.mark (some (.ref a))) _ ρ₂ m ((E.after P₂).mark _) P₂.sr) (fun fl s₂ q => ?_) fun V V z => z.elim
    obtain ⟨σ₃, ρ₃, P₃, q⟩ := q
    refine ⟨σ₃, ρ₃, P₂.any.trans P₃, ?_⟩
    cases fl with
    | next => obtain ⟨l₂, m₂, E₃, hk₃⟩ := q; exact ⟨l₂, m₂, E₃.unmark, hk₃⟩
    | ret v => exact q
    | cont => obtain ⟨l₂, m₂, E₃, hk₃⟩ := q; exact ⟨l₂, m₂, E₃.unmark, hk₃⟩
    | brk => exact q
theorem ZeX_no {env : Env} {A : Around} {ρ : Rh} {s s' : Shared} {e : Value} : ¬ ZeX G noK env A ρ s e s' := fun ⟨_, _, _, _, _, _, h, _⟩ => by
 obtain ⟨_, _, _, k, _⟩ := h.past
 exact absurd (show false = true from k) Bool.false_ne_true
end Mst
end
section
namespace Mst
open PySem PySem.W PyProof.Rows PySem.Calls
section
variable {M : Model} {A : Around} {E : Value → Shared → Prop} {env : Env}
variable {nm q : PySem.Str} {C N : Addr} {bs bm : List Value} {hdct : Bool} {sn : List PySem.Str} {sub : List Value} {ab : Bool} {col : Option Bool} {dd : Option Addr} {k0 k1 k2 k3 k5 : Option Value} {newId : String}
theorem raiseStmt_any {s : Shared} {x : Sem Value} {Q : Flow → Shared → Prop} (hbase : bm.contains (.type "BaseException") = true) (hh : A.handled = none)
 (h : wpAny M A x (fun v s₁ => ∃ e de vs, v = .ref e ∧ s₁.heap.get? C = some (excClassObj nm q C N bs bm hdct sn sub ab col dd k0 k1 k2 k3 k5 newId) ∧
  s₁.heap.get? e = some { cls := .ref C, dict := de, data := .fields vs } ∧ vs[1]? = some .none ∧ E (.ref e) s₁) E s) :
 wpAny M A (raiseStmt env (some x) none) Q E s := by
 have hcB : (Value.ref C :: bm).contains (.type "BaseException") = true := by rw [List.contains_cons, hbase, Bool.or_true]
 unfold raiseStmt
 refine wpAny_bind (wpAny_mono h (fun v s₁ h₁ => ?_) fun V V x => x)
 obtain ⟨e, de, vs, rfl, hC, he, h1, hE⟩ := h₁
 obtain ⟨hp, g, d, tk, os⟩ := s₁
 repeat (first | with_reducible refine wpAny_loadPart_at he ?_ | with_reducible refine wpAny_loadPart_at hC ?_ | (with_reducible refine wpAny_isSubtype_exc hC ?_; rw [hcB]) | wp_step)
 rw [h1]
 refine wpAny_pure ?_
 rw [if_neg (by decide)]
 exact wpAny_pure (wpAny_raiseNew_none hh hE)
end
section
variable {prog : Program} {w : World} {A : Around} {R : Result → Shared → Prop} {h : Heap} {g : Array GenState} {d : Drawn} {t : Nat} {os : OsState}
variable {nm q : PySem.Str} {C N : Addr} {bs bm bmB : List Value} {hdct : Bool} {sn : List PySem.Str} {sub : List Value} {ab : Bool} {col : Option Bool} {dd : Option Addr} {k0 k1 k2 k3 k5 : Option Value} {B newId initId : String}
structure TailB (B : String) (bm : List Value) : Prop where
 hasB : bm.contains (.type B) = true
 hasBase : bm.contains (.type "BaseException") = true
 noAttr : bm.contains (.type "AttributeError") = false
 noName : bm.contains (.type "NameError") = false
theorem check_new_B {M : Model} {E : Value → Shared → Prop} (F : ExcBaseFacts B newId initId bmB) (T : TailB B bm) {rest : List Value} {Q : Unit → Shared → Prop} (hC : h.get? C = some (excClassObj nm q C N bs bm hdct sn sub ab col dd k0 k1 k2 k3 k5 newId))
 (hq : Q () ⟨h, g, d, t, os⟩) : wpAny M A (checkBuiltinCall newId ⟨.ref C :: rest, []⟩) Q E ⟨h, g, d, t, os⟩ := by
 have hcont : (Value.ref C :: bm).contains (.type B) = true := by rw [List.contains_cons, T.hasB, Bool.or_true]
 have hstar := F.noStar
 simp only [checkBuiltinCall, F.newKind, F.newSplit, F.newRow]
 repeat (first | refine wpAny_loadPart_at hC ?_ | (refine wpAny_isSubtype_exc hC ?_; rw [hcont]) | refine wpAny_staticBase_exc hC ?_ | refine wpAny_madeBy_exc hC ?_ | simp only [bne_self_eq_false, Bool.false_eq_true, if_false] | wp_step)
 exact hq
theorem exc_new_B (F : ExcBaseFacts B newId initId bmB) (T : TailB B bm) {rest : List Value} (hC : h.get? C = some (excClassObj nm q C N bs bm hdct sn sub ab col dd k0 k1 k2 k3 k5 newId))
 (hq : R (.ok (.ret (.ref (h.objs.size + 1)))) ⟨(h.push { cls := .type "tuple", data := .seq rest.toArray }).push
  { cls := .ref C, data := .fields #[.ref h.objs.size, .none, .none, .none, .bool false, .none] }, g, d, t, os⟩) (hrest : rest.length ≤ sizeLine := by size_fits) :
 codeAny (model prog w) A (.builtin newId ⟨.ref C :: rest, []⟩) R ⟨h, g, d, t, os⟩ := by
 have hends := F.ends
 have hcB : (Value.ref C :: bm).contains (.type B) = true := by rw [List.contains_cons, T.hasB, Bool.or_true]
 have hcA : (Value.ref C :: bm).contains (.type "AttributeError") = false := by rw [List.contains_cons, T.noAttr]; rfl
 have hcN : (Value.ref C :: bm).contains (.type "NameError") = false := by rw [List.contains_cons, T.noName]; rfl
 refine codeAny_builtinAt F.entry ?_
 unfold Builtin.«BaseException.__new__»
 refine PySem.wpAt_bind ?_
 show PySem.wpAt _ _ _ (stack >>= _) _ _ _
 refine PySem.wpAt_bind (PySem.wpAt_stack fun p below => PySem.wpAt_of_wpAny ?_)
 wp_walk
 refine PySem.wpAt_of_wpAny ?_
 rw [F.owner]
 repeat (first | with_reducible refine wpAny_madeHere_exc F.canon hC ?_ | with_reducible refine wpAny_loadPart_at hC ?_ | (with_reducible refine wpAny_isSubtype_exc hC ?_; first | rw [hcB] | rw [hcA] | rw [hcN]) | wp_step)
 show R _ _
 rw [Heap.size_push]
 exact hq
end
section
variable {prog : Program} {w : World} {A : Around} {E : Value → Shared → Prop} {h : Heap} {g : Array GenState} {d : Drawn} {t : Nat} {os : OsState}
variable {nm q : PySem.Str} {C N : Addr} {bs bm bmB : List Value} {hdct : Bool} {sn : List PySem.Str} {sub : List Value} {ab : Bool} {col : Option Bool} {dd : Option Addr} {k0 k1 k2 k3 k5 : Option Value} {B newId initId : String}
noncomputable def FindsInit (C fI : Addr) (h : Heap) : Prop := ∀ h', (∀ b o, h.get? b = some o → h'.get? b = some o) → ∀ {M : Model} {A : Around} {E : Value → Shared → Prop} {Q : Option Value → Shared → Prop} {g : Array GenState} {d : Drawn} {t : Nat} {os : OsState},
 Q (some (.ref fI)) ⟨h', g, d, t, os⟩ → wpAny M A (typeLookup (.ref C) "__init__") Q E ⟨h', g, d, t, os⟩
theorem type_call_B (F : ExcBaseFacts B newId initId bmB) (T : TailB B bm) {rest : List Value} {fI : Addr} {oI : Obj} {Q : PySem.Fin → Shared → Prop}
 (hC : h.get? C = some (excClassObj nm q C N bs bm hdct sn sub ab col dd k0 k1 k2 k3 k5 newId)) (hL : FindsInit C fI h)
 (hfI : h.get? fI = some oI) (hfc : oI.cls = .type "function")
 (hq : ∀ h' e, Heap.MadeExcOf h h' e (.ref C) rest →
  wpAny (model prog w) A (call (.ref fI) (.ref e :: rest)) (fun r s' => r = .none ∧ Q (.done (.ret (.ref e))) s') E ⟨h', g, d, t, os⟩) (hrest : rest.length ≤ sizeLine := by size_fits) :
 wpAny (model prog w) A (Builtin.«type.__call__» ⟨.ref C :: rest, []⟩) Q E ⟨h, g, d, t, os⟩ := by
 repeat (first | with_reducible refine wpAny_loadPart_at hC ?_ | with_reducible refine wpAny_madeBy_exc hC ?_ | wp_step)
 refine codeAny_call_builtin_code (Code.quiet_builtin _ F.quiet) (check_new_B F T hC ?_)
 refine exc_new_B F T hC ?_ hrest
 show wpAny _ _ _ _ _ _
 have kp : ∀ b o, h.get? b = some o → ((h.push { cls := .type "tuple", data := .seq rest.toArray }).push { cls := .ref C, data := .fields #[.ref h.objs.size, .none, .none, .none, .bool false, .none] }).get? b = some o := fun b o e => Heap.get?_push_of_some _ (Heap.get?_push_of_some _ e)
 have hC₁ := kp _ _ hC
 have hfI₁ := kp _ _ hfI
 have hget : ((h.push { cls := .type "tuple", data := .seq rest.toArray }).push
  { cls := .ref C, data := .fields #[.ref h.objs.size, .none, .none, .none, .bool false, .none] }).get? (h.objs.size + 1) = some
  { cls := .ref C, data := .fields #[.ref h.objs.size, .none, .none, .none, .bool false, .none] } := by heap_get
 have hcC : (Value.ref C :: bm).contains (.ref C) = true := by simp
 unfold isInstance
 repeat (first | with_reducible refine wpAny_loadPart_at hget ?_ | (with_reducible refine wpAny_isSubtype_exc hC₁ ?_; rw [hcC]) | wp_step)
 show wpAny _ _ (typeLookup (.ref C) _) _ _ _
 refine hL _ kp ?_
 refine wpAny_holding (wpAny_bind ?_)
 unfold bindSpecial
 refine wpAny_bind (wpAny_typeOf (T := "function") ⟨_, hfI₁, hfc⟩ ?_)
 rw [if_pos (by decide)]
 refine wpAny_pure (wpAny_bind (wpAny_mono (hq _ (h.objs.size + 1) ⟨kp, Heap.get?_none_of_le (Nat.le_succ _), h.objs.size, hget, Heap.get?_none_of_le (Nat.le_refl _), ?_⟩) (fun r s' hr => ?_) fun V V x => x))
 · exact Heap.get?_push_of_some _ (Heap.get?_push_at rfl rfl)
 · obtain ⟨rfl, hQ⟩ := hr
   wp_walk
   exact hQ
theorem call_exc_B (F : ExcBaseFacts B newId initId bmB) (T : TailB B bm) {rest : List Value} {fI : Addr} {oI : Obj} {Q : Value → Shared → Prop}
 (hC : h.get? C = some (excClassObj nm q C N bs bm hdct sn sub ab col dd k0 k1 k2 k3 k5 newId)) (hL : FindsInit C fI h)
 (hfI : h.get? fI = some oI) (hfc : oI.cls = .type "function")
 (hq : ∀ h' e, Heap.MadeExcOf h h' e (.ref C) rest →
  wpAny (model prog w) (A.under (.builtin "type.__call__" ⟨.ref C :: rest, []⟩)) (call (.ref fI) (.ref e :: rest)) (fun r s' => r = .none ∧ Q (.ref e) s') E ⟨h', g, d, t, os⟩) (hrest : rest.length ≤ sizeLine := by size_fits) :
 wpAny (model prog w) A (call (.ref C) rest) Q E ⟨h, g, d, t, os⟩ := by
 have f1 := tc_lookup
 have f2 := tc_bind (.ref C)
 have hT : (⟨h, g, d, t, os⟩ : Shared).TypeIs (.ref C) "type" := ⟨_, hC, rfl⟩
 refine wpAny_call (codeAny_of_tree ?_)
 show wpAny _ _ (callAny (.ref C) _) _ _ _
 repeat (any_goals (first | assumption | with_reducible refine wpAny_loadPart_at hC ?_ | wp_step))
 refine ⟨rfl, ?_⟩
 refine codeAny_call_builtin_at (Code.quiet_builtin _ (by decide +kernel)) entry_typeCall (wpAny_check_type_call_sub hC (type_call_B (hrest := hrest) F T hC hL hfI hfc fun h' e hm => ?_))
 exact hq h' e hm
end
end Mst
end
section
namespace Mst
open PySem PySem.W PyProof.Rows PySem.Calls Builtin Builtin.ObjectAttr
section
variable {prog : Program} {w : World} {A : Around} {E : Value → Shared → Prop} {h : Heap} {g : Array GenState} {d : Drawn} {t : Nat} {os : OsState} {K : Frag}
variable {nm q : PySem.Str} {C N e : Addr} {bs bm : List Value} {sn : List PySem.Str} {sub : List Value} {ab : Bool} {col : Option Bool} {dd : Option Addr} {k0 k1 k2 k3 k5 : Option Value} {newId : String}
set_option tactic.hygienic true in
theorem exc_store {o : Obj} {vs : Array Value} {m : PySem.Str → Option Value} {ns : List PySem.Str} {name : PySem.Str} {tk : Tok} {v : Value} {Q : PySem.Fin → Shared → Prop} (X : K.In h)
 (hC : h.get? C = some (excClassObj nm q C N bs bm true sn sub ab col dd k0 k1 k2 k3 k5 newId)) (pass : refuseLoop (.ref e) "__setattr__" bm = pure ()) (no : findIn K (.ref C) name = some none)
 (he : h.get? e = some o) (hc : o.cls = .ref C) (hd : o.data = .fields vs) (dc : (o.dict = none ∧ ∀ n, m n = none) ∨ ∃ dx, o.dict = some dx ∧ dx ≠ e ∧ h.Ns1 dx m) (hw : Within m ns) (hsz : ns.length ≤ 9)
 (hq : ∀ h' tk' dx, h'.get? e = some { o with dict := some dx } → dx ≠ e → h'.Ns1 dx (fun y => if y = name then some v else m y) → (o.dict = some dx ∨ h.get? dx = none) → (∀ b ob, b ≠ e → o.dict ≠ some b → h.get? b = some ob → h'.get? b = some ob) →
  Q (.done (.ret .none)) ⟨h', g, d, tk', os⟩) :
 wpAny (model prog w) A (Builtin.«object.__setattr__» ⟨[.ref e, .str name tk, v], []⟩) Q E ⟨h, g, d, t, os⟩ := by
 have hnc : ∀ c, o.data ≠ .cls c := fun c z => by rw [hd] at z; cases z
 have e1 : sizeLine = 16777216 := sizeLine_eq
 unfold Builtin.«object.__setattr__»
 repeat (first | rw [refuse_eq] | (rw [refuseLoop_ref, pass]) | (with_reducible refine wpAny_loadPart_at he ?_; rw [hc]) | with_reducible refine wpAny_mroOf_exc hC ?_ | with_reducible refine (looks_findIn (M := model prog w) (h := h) X no).here ?_ | wp_step)
 rcases dc with ⟨hdn, hm⟩ | ⟨dx, hdx, hne, hns⟩
 · rw [hdn, if_neg (by simp [typeHasDict])]
   split
   · rename_i hcd; cases hcd
   split
   · rename_i c hcd; exact absurd hcd (hnc c)
   · have x1 : (h.push { cls := .type "dict", data := .dict #[] }).get? e = some o := Heap.get?_push_of_some _ he
     have ne : e ≠ h.objs.size := Nat.ne_of_lt (Heap.lt_size he)
     refine wpAny_bind (wpAny_alloc' ?_)
     refine wpAny_bind (wpAny_update' x1 ?_)
     refine wpAny_pure ?_
     have fr : o.isFreed = false := Obj.isFreed_of_fields hd
     have gd : ((h.push { cls := .type "dict", data := .dict #[] }).update e fun o => { cls := o.cls, dict := some h.objs.size, data := o.data, slots := o.slots }).get? h.objs.size = some { cls := .type "dict", data := .dict #[] } :=
      (Heap.get?_update_ne _ _ _ _ ne.symm).trans (Heap.get?_push_at rfl rfl)
     show wpAny _ _ (storeInDict h.objs.size (.str name tk) name v) _ _ _
     unfold storeInDict newKeyGuard
     refine wpAny_bind (wpAny_pure (wpAny_bind (wpAny_nsSet1 (Heap.Ns1.of_empty ⟨_, #[], _, gd, rfl, fun e he => absurd he (by simp), fun V => rfl⟩) fun h' hn' hs => ?_)))
     obtain ⟨oD, esD, epD, hoD, hdD, hcD⟩ := hn'.count (Within.cons name v Within.nil)
     refine wpAny_bind (wpAny_lookBehind hoD (by rw [hdD]; exact pastItsLine_dict (Nat.le_trans hcD (by rw [List.length_cons, List.length_nil]; omega))) ?_)
     wp_walk
     have hx' : h'.get? e = some { o with dict := some h.objs.size } := by
      refine (hs.2 e ne).trans (Heap.get?_update_self _ x1 ?_)
      exact Obj.isFreed_of_fields (vs := vs) hd
     refine hq h' _ h.objs.size hx' ne.symm ?_ (.inr (none_at _)) fun b ob hbe V hb => (hs.2 b (Nat.ne_of_lt (Heap.lt_size hb))).trans ((Heap.get?_update_ne _ _ _ _ hbe).trans (Heap.get?_push_of_some _ hb))
     obtain ⟨o', es, ep, e1, e2, e3, eu, e4⟩ := hn'
     exact ⟨o', es, ep, e1, e2, e3, eu, fun y => by rw [e4 y]; by_cases hy : y = name <;> simp [hy, hm]⟩
 · rw [hdx]
   refine wpAny_pure ?_
   show wpAny _ _ (storeInDict dx (.str name tk) name v) _ _ _
   unfold storeInDict newKeyGuard
   refine wpAny_bind (wpAny_pure (wpAny_bind (wpAny_nsSet1 hns fun h' hn' hs => ?_)))
   obtain ⟨oD, esD, epD, hoD, hdD, hcD⟩ := hn'.count (Within.cons name v hw)
   refine wpAny_bind (wpAny_lookBehind hoD (by rw [hdD]; exact pastItsLine_dict (Nat.le_trans hcD (by rw [List.length_cons]; omega))) ?_)
   wp_walk
   refine hq h' _ dx ((hs.2 e hne.symm).trans (by rw [he, ← hdx])) hne hn' (.inl hdx) fun b ob hbe hbd hb => (hs.2 b fun z => hbd (by rw [z]; exact hdx)).trans hb
theorem exc_set {o : Obj} {vs : Array Value} {m : PySem.Str → Option Value} {ns : List PySem.Str} {name : PySem.Str} {v : Value} {Q : Unit → Shared → Prop} (X : K.In h)
 (hC : h.get? C = some (excClassObj nm q C N bs bm true sn sub ab col dd k0 k1 k2 k3 k5 newId)) (pass : refuseLoop (.ref e) "__setattr__" bm = pure ()) (no : findIn K (.ref C) name = some none)
 (sa : findIn K (.ref C) "__setattr__" = some (some (.builtin "object.__setattr__"))) (so : subIn K (.ref C) (.type "object") = some true)
 (he : h.get? e = some o) (hc : o.cls = .ref C) (hd : o.data = .fields vs) (dc : (o.dict = none ∧ ∀ n, m n = none) ∨ ∃ dx, o.dict = some dx ∧ dx ≠ e ∧ h.Ns1 dx m) (hw : Within m ns) (hsz : ns.length ≤ 9)
 (hq : ∀ h' tk' dx, h'.get? e = some { o with dict := some dx } → dx ≠ e → h'.Ns1 dx (fun y => if y = name then some v else m y) → (o.dict = some dx ∨ h.get? dx = none) → (∀ b ob, b ≠ e → o.dict ≠ some b → h.get? b = some ob → h'.get? b = some ob) →
  Q () ⟨h', g, d, tk', os⟩) :
 wpAny (model prog w) A (setAttr (.ref e) name v) Q E ⟨h, g, d, t, os⟩ := by
 have SF := PySem.F.store_object
 have tp : Looks (model prog w) h (typeOf (.ref e)) (.ref C) := hc ▸ (Looks.ld he).andThen .now
 refine wpAny_bind (wpAny_mkText (wpAny_bind (wpAny_bind (wpAny_bind (tp _ _ _ _ (fun V V e => e) (looks_findIn X sa _ _ _ _ (fun V V e => e) (wpAny_holding ?_)))))))
 rw [SF.slot.bind]
 refine wpAny_bind (wpAny_pure (wpAny_bind (wpAny_call ?_)))
 refine codeAny_call_builtin SF.slot.plain SF.entry (@check_slot (model prog w) _ _ ⟨h, g, d, t + 1, os⟩ "object.__setattr__" "object" "__setattr__" (.ref e) _ [] _ SF.kind SF.split ?_ (SF.args _ _ _) (exc_store X hC pass no he hc hd dc hw hsz fun h' tk' dx q1 q2 q3 q4 q5 => wpAny_pure (wpAny_pure (hq h' tk' dx q1 q2 q3 q4 q5))))
 exact tp.andThen (looks_subIn X so)
end
end Mst
end
section
namespace Mst
open PySem PySem.W PyProof.Rows PySem.Calls Builtin
section
variable {prog : Program} {w : World} {A : Around} {E : Value → Shared → Prop} {h : Heap} {g : Array GenState} {d : Drawn} {t : Nat} {os : OsState} {K : Frag}
variable {nm q : PySem.Str} {C N e : Addr} {bs bm bmB : List Value} {hdct : Bool} {sn : List PySem.Str} {sub : List Value} {ab : Bool} {col : Option Bool} {dd : Option Addr} {k0 k1 k2 k3 k5 : Option Value} {B newId initId nId : String}
theorem init_B (F : ExcBaseFacts B newId initId bmB) (hB : bm.contains (.type B) = true) {o : Obj} {vs : Array Value} {rest : List Value} {R : Result → Shared → Prop} (hC : h.get? C = some (excClassObj nm q C N bs bm hdct sn sub ab col dd k0 k1 k2 k3 k5 nId)) (he : h.get? e = some o) (hc : o.cls = .ref C) (hd : o.data = .fields vs)
 {t0 : Addr} (h0 : vs[0]? = some (.ref t0)) (hq : ∀ h' o', h'.get? e = some o' → o'.cls = .ref C → o'.dict = o.dict → o'.slots = o.slots → o'.data = .fields (vs.setIfInBounds 0 (.ref h.objs.size)) → (∀ b ob, b ≠ e → h.get? b = some ob → h'.get? b = some ob) → R (.ok (.ret .none)) ⟨h', g, d, t, os⟩) (hrest : rest.length ≤ sizeLine := by size_fits) :
 codeAny (model prog w) A (.call (.builtin initId) ⟨.ref e :: rest, []⟩) R ⟨h, g, d, t, os⟩ := by
 have hcB : (Value.ref C :: bm).contains (.type B) = true := by rw [List.contains_cons, hB, Bool.or_true]
 have hshort := F.noStar
 refine codeAny_call_builtin F.init.plain F.initEntry ?_
 simp only [checkBuiltinCall, F.initKind, F.initSplit, F.initRow]
 repeat (first | (with_reducible refine wpAny_loadPart_at he ?_; rw [hc]) | with_reducible refine wpAny_loadPart_at hC ?_ | (with_reducible refine wpAny_isSubtype_exc hC ?_; rw [hcB]) | wp_step)
 refine wpAny_onRaise ?_
 rw [show ∀ (a b : String) (n : Nat), Bind.check ⟨.positional, "*", B, .self, [⟨"args", .varPos, false⟩]⟩ a b n (List.map (fun x => x.fst) ({ pos := Value.ref e :: rest } : Args).kw) = pure () from
  fun a b n => check_star_args _ _ _ _ _ _]
 refine wpAny_pure ?_
 have x1 : (h.push { cls := .type "tuple", data := .seq rest.toArray }).get? e = some o := Heap.get?_push_of_some _ he
 show wpAny _ _ _ _ _ _
 wp_walk
 rw [hd]
 refine wpAny_pure ?_
 show wpAny _ _ (match vs[0]? with | some x => pure x | none => _) _ _ _
 rw [h0]
 refine wpAny_pure ?_
 refine wpAny_bind (wpAny_setField x1 hd (Array.getElem?_eq_some_iff.mp h0).1 ?_)
 wp_walk
 show R (.ok (.ret .none)) ⟨(h.push { cls := .type "tuple", data := .seq rest.toArray }).update e (Obj.mapFields (·.setIfInBounds 0 (.ref h.objs.size))), g, d, t, os⟩
 have hu := Heap.get?_update_self (Obj.mapFields (·.setIfInBounds 0 (.ref h.objs.size))) x1 (Obj.isFreed_of_fields (Obj.data_mapFields hd _))
 have dm : (o.mapFields (·.setIfInBounds 0 (.ref h.objs.size))).dict = o.dict ∧ (o.mapFields (·.setIfInBounds 0 (.ref h.objs.size))).cls = o.cls ∧ (o.mapFields (·.setIfInBounds 0 (.ref h.objs.size))).slots = o.slots := by
  obtain ⟨a, b, c, dl⟩ := o; subst hd; exact ⟨rfl, rfl, rfl⟩
 refine hq _ _ hu (dm.2.1.trans hc) dm.1 dm.2.2 (Obj.data_mapFields hd _) fun b ob hbe hb => ?_
 rw [Heap.get?_update_other _ _ (Ne.symm hbe)]
 exact Heap.get?_push_of_some _ hb
theorem method_ty {T i : String} {name : PySem.Str} {s : Shared} {pl : Sem Bool} {Q : Value × List Value → Shared → Prop} (X : K.In s.heap) (ht : kitMeta T = true) (hs : Manifest.isStub T = false)
 (e : findCls K (.type T) (.type "type") name = some (.val (.builtin i))) (hh : handedIn (.builtin i) = true) (h : Q (.builtin i, []) { s with toks := s.toks + 1 }) : wpAny (model prog w) A (getMethod (.type T) name pl) Q E s := by
 have hstub : opaqueClassAbove (.type T) = pure none := by unfold opaqueClassAbove; dsimp only; rw [hs]; rfl
 have L0 : Looks (model prog w) s.heap (typeOf (.type T)) (.type "type") := Looks.of_pure (kitMeta_of ht)
 have hg : findIn K (.type "type") "__getattribute__" = some (some (.builtin "type.__getattribute__")) := type_tga
 unfold getMethod specialOf
 refine wpAny_bind (wpAny_bind (L0.here ((looks_findIn X hg).here ?_)))
 dsimp only
 rw [if_pos canon_tga]
 refine wpAny_bind (cls_open X (Looks.of_pure hstub) L0 hg (looks_hook X (r := none) (by rfl)) (by show subIn K _ _ = _; rfl) e ?_)
 show wpAny _ _ (ret (.builtin i)) _ _ _
 exact wpAny_pure (by show wpAny _ _ (handedOut (.builtin i)) _ _ _; rw [handedOut_of hh]; exact wpAny_pure (wpAny_pure h))
end
end Mst
end
section
namespace Mst
open PySem PySem.W PyProof.Rows PySem.Calls
variable (G : Gl)
abbrev xInit : PySem.Str := ("__init__" : PySem.Str)
structure ExcC (C : Addr) : Prop where
 obj : ∃ (nm q : PySem.Str) (N : Addr) (bs bm : List Value) (sn : List PySem.Str) (sub : List Value) (ab : Bool) (col : Option Bool) (dd : Option Addr) (k0 k1 k2 k3 k5 : Option Value),
  G.H0.get? C = some (excClassObj nm q C N bs bm true sn sub ab col dd k0 k1 k2 k3 k5 "Exception.__new__") ∧ TailB "Exception" bm ∧ ∀ e, refuseLoop (.ref e) "__setattr__" bm = pure ()
 sa : findIn G.K (.ref C) "__setattr__" = some (some (.builtin "object.__setattr__"))
 so : subIn G.K (.ref C) (.type "object") = some true
structure ExO (h : Heap) (e C : Addr) (dd : Option Addr) : Prop where
 obj : ∃ o vs t0, h.get? e = some o ∧ o.cls = .ref C ∧ o.data = .fields vs ∧ vs[0]? = some (.ref t0) ∧ vs[1]? = some .none ∧ o.slots = #[] ∧ o.dict = dd
variable {G}
theorem EnvOkT.but1 {sc : Scope} {A : Around} {env : Env} {ρ : Rh} {h h' : Heap} {m : PySem.Str → Option Value} {e C : Addr} {dd : Option Addr} (E : EnvOk G sc A env .nil ρ h m) (x : ExO h e C dd) (k : ∀ b o, b ≠ e → h.get? b = some o → h'.get? b = some o) : EnvOk G sc A env .nil ρ h' m := by
 obtain ⟨oe, vs, t0, he, hc, hd, _⟩ := x
 obtain ⟨oL, es, ep, hL, hLd, hr⟩ := E.ns
 exact E.chg he (fun q => by rw [q, he] at hL; cases hL; rw [hd] at hLd; cases hLd) (fun v q => by rw [hd] at q; cases q) (fun ⟨_, _, _, q⟩ => by rw [hd] at q; cases q) k fun b ws g => k b _ (fun q => by rw [q, he] at g; cases g; cases hd) g
theorem name_loc {sc : Scope} {A : Around} {env : Env} {ρ : Rh} {s : Shared} {m : PySem.Str → Option Value} {x : PySem.Str} {p : Pos} {v : Value} {Q E : Value → Shared → Prop} (En : EnvOk G sc A env .nil ρ s.heap m) (hx : env.kindOf x = some .local) (hm : m x = some v) (hd : (x == ("__debug__" : PySem.Str)) = false) (h : Q v s) :
 wpAny (model G.prog G.w) A (eval (.Name x p) env) Q E s := wpAny_Name (wpAny_loadName_local En.kind hx En.ns hm h) hd
abbrev xSelf : PySem.Str := ("self" : PySem.Str)
abbrev xMsg : PySem.Str := ("message" : PySem.Str)
abbrev xRow : PySem.Str := ("row" : PySem.Str)
noncomputable def InitSt (x : PySem.Str) (st : Stmt) : Prop := ∃ p1 p2 p3 p4 p5 p6, st = .Expr (.Call (.Attribute (.Name x p1) xInit p2) [.Name xSelf p3, .Name xMsg p4] [] p5) p6 ∧ (p2.endLine == p5.line) = true
noncomputable def KeepSt (y : PySem.Str) (st : Stmt) : Prop := ∃ p1 p2 p3 p4, st = .Assign [.Attribute (.Name xSelf p1) y p2] (.Name y p3) p4
section
variable {A : Around} {s : Shared} {ρ : Rh} {σ : St} {sc : Scope} {env : Env} {m : PySem.Str → Option Value} {E : Value → Shared → Prop} {e C : Addr} {msg : Value} {dd : Option Addr}
theorem init_st {x : PySem.Str} {st : Stmt} {f : Value} {Q : Flow → Shared → Prop} {P : Heap → Prop} (hst : InitSt x st) (En : EnvOk G sc A env .nil ρ s.heap m) (self : env.kindOf xSelf = some .local ∧ m xSelf = some (.ref e)) (mes : env.kindOf xMsg = some .local ∧ m xMsg = some msg)
 (hf : ∀ h, P h → ∃ k, (k = Keeper.frame ∨ k = Keeper.machine ∨ k = Keeper.boundFrame) ∧ Looks (model G.prog G.w) h (keeperOf f) k) (hp : P s.heap)
 (hn : ∀ (Q : Value × List Value → Shared → Prop) (p : Pos), (∀ tk, Q (f, []) { s with toks := tk }) → wpAny (model G.prog G.w) A (eval (.Name x p) env) (fun ov s₁ => ∀ pl : Sem Bool, wpAny (model G.prog G.w) A (getMethod ov xInit pl) Q E s₁) E s)
 (h : ∀ tk, wpAny (model G.prog G.w) A (call f [.ref e, msg]) (fun V s' => Q .next s') E { s with toks := tk }) : wpAny (model G.prog G.w) A (exec st env) Q E s := by
 obtain ⟨p1, p2, p3, p4, p5, p6, rfl, hl⟩ := hst
 refine wpAny_Expr_any (Call_method_gen rfl (by rfl) (show 2 < 29 by decide) hl (hn _ p1 fun tk => ?_)) (by unfold interactive; rw [En.kind]; rfl) (sw_none rfl _ _ _)
 refine call_plain (P := P) (by rfl) hf ?_
 show wpAny _ _ (spliced (backTo p5 (starEach (.Name xSelf p3 :: .Name xMsg p4 :: []) env))) _ _ _
 have En' : EnvOk G sc A env .nil ρ ({ s with toks := tk } : Shared).heap m := En
 rw [starEach_cons (by rfl)]
 refine spliced_cons (name_loc En' self.1 self.2 (by decide) ?_)
 rw [starEach_cons (by rfl)]
 refine spliced_cons (name_loc En' mes.1 mes.2 (by decide) ?_)
 exact spliced_nil ⟨hp, h tk⟩
theorem keep_st {y : PySem.Str} {st : Stmt} {v : Value} {m2 : PySem.Str → Option Value} {ns : List PySem.Str} {Q : Flow → Shared → Prop} (hst : KeepSt y st) (En : EnvOk G sc A env .nil ρ s.heap m) (self : env.kindOf xSelf = some .local ∧ m xSelf = some (.ref e)) (val : env.kindOf y = some .local ∧ m y = some v)
 (X : G.K.In s.heap) (kp : ∀ b o, G.H0.get? b = some o → s.heap.get? b = some o) (EC : ExcC G C) (no : findIn G.K (.ref C) y = some none) (x : ExO s.heap e C dd)
 (dc : (dd = none ∧ ∀ n, m2 n = none) ∨ ∃ dx, dd = some dx ∧ dx ≠ e ∧ s.heap.Ns1 dx m2) (hw : Within m2 ns) (hsz : ns.length ≤ 9) (hd : (y == ("__debug__" : PySem.Str)) = false)
 (h : ∀ h' tk' dx, ExO h' e C (some dx) → dx ≠ e → h'.Ns1 dx (fun z => if z = y then some v else m2 z) → (dd = some dx ∨ s.heap.get? dx = none) → (∀ b ob, b ≠ e → dd ≠ some b → s.heap.get? b = some ob → h'.get? b = some ob) → Q .next ⟨h', s.gens, s.drawn, tk', s.os⟩) :
 wpAny (model G.prog G.w) A (exec st env) Q E s := by
 obtain ⟨p1, p2, p3, p4, rfl⟩ := hst
 obtain ⟨nm, q, N, bs, bm, sn, sub, ab, col, dd', k0, k1, k2, k3, k5, hC, T, pass⟩ := EC.obj
 obtain ⟨o, vs, t0, he, hc, hdt, h0, h1, hsl, hdd⟩ := x
 subst hdd
 rw [exec_Assign]
 refine wpAny_bind (wpAny_standAt ?_)
 have e1 : swapsWithSole [PySem.Expr.Attribute (.Name xSelf p1) y p2] (.Name y p3) p4.line env = pure false := by rfl
 have e2 : swappedStores [PySem.Expr.Attribute (.Name xSelf p1) y p2] (.Name y p3) env = pure none := by rfl
 rw [e1]
 refine wpAny_bind (wpAny_pure ?_)
 rw [if_neg (by decide)]
 refine wpAny_bind (name_loc En val.1 val.2 hd ?_)
 rw [e2]
 refine wpAny_bind (wpAny_pure ?_)
 have e3 : (assignEach [PySem.Expr.Attribute (.Name xSelf p1) y p2] env).map (·.2) = [assign (.Attribute (.Name xSelf p1) y p2) env] := by rw [assignEach_cons rfl]; rfl
 show wpAny _ _ (do assignAll v ((assignEach [PySem.Expr.Attribute (.Name xSelf p1) y p2] env).map (·.2)); pure Flow.next) _ _ _
 rw [e3]
 refine wpAny_bind ?_
 refine wpAny_bind (wpAny_holding (name_loc En self.1 self.2 (by decide) ?_))
 refine wpAny_bind (wpAny_standAt (wpAny_bind (wpAny_holding ?_)))
 obtain ⟨hh, g, d, t, os⟩ := s
 refine exc_set X (kp _ _ hC) (pass e) no EC.sa EC.so he hc hdt dc hw hsz fun h' tk' dx q1 q2 q3 q4 q5 => ?_
 exact wpAny_release (wpAny_pure (h h' tk' dx ⟨_, vs, t0, q1, hc, hdt, h0, h1, hsl, rfl⟩ q2 q3 q4 q5))
end
end Mst
end
section
namespace Mst
open PySem PySem.W PyProof.Rows PySem.Calls
variable (G : Gl)
structure Init1 (f : Nat) (D : FDef) (fd : FuncData) (body : List Stmt) : Prop where
 S : FnS G f D fd body
 ps : D.ps.map G.nmV = [xSelf, xMsg]
 ls : fd.scope.names.lookup xSelf = some .local ∧ fd.scope.names.lookup xMsg = some .local
 lx : fd.scope.names.lookup ("Exception" : PySem.Str) = some .globalImplicit
 df : fd.defaults = .none
 bd : ∃ st1 st2, body = [st1, st2] ∧ InitSt ("Exception" : PySem.Str) st1 ∧ KeepSt xMsg st2
 gx : nsIn G.K mainGlobals ("Exception" : PySem.Str) = some none ∧ nsIn G.K builtinsNs ("Exception" : PySem.Str) = some (some (.type "Exception"))
structure Init2 (f1 f : Nat) (D : FDef) (fd : FuncData) (body : List Stmt) (C1 : Addr) : Prop where
 S : FnS G f D fd body
 ps : D.ps.map G.nmV = [xSelf, xMsg, xRow]
 ls : fd.scope.names.lookup xSelf = some .local ∧ fd.scope.names.lookup xMsg = some .local ∧ fd.scope.names.lookup xRow = some .local
 lx : fd.scope.names.lookup ("SwitchError" : PySem.Str) = some .globalImplicit
 df : ∃ T o n t0, fd.defaults = .ref T ∧ G.H0.get? T = some o ∧ o.data = .seq #[.int 0 t0] n
 bd : ∃ st1 st2, body = [st1, st2] ∧ InitSt ("SwitchError" : PySem.Str) st1 ∧ KeepSt xRow st2
 gx : nsIn G.K mainGlobals ("SwitchError" : PySem.Str) = some (some (.ref C1))
 at1 : specialIn G.K (.ref C1) "__getattribute__" = some (some (.builtin "type.__getattribute__")) ∧ readsIn G.K C1 (.type "type") = true ∧ findCls G.K (.ref C1) (.type "type") xInit = some (.val (.ref (G.fnA f1))) ∧ keepIn G.K (.ref (G.fnA f1)) = true
variable {G}
theorem exc_type : kitMeta "Exception" = true ∧ Manifest.isStub "Exception" = false ∧ handedIn (.builtin "Exception.__init__") = true := ⟨by decide +kernel, by decide +kernel, by decide +kernel⟩
theorem exc_find (K : Frag) : findCls K (.type "Exception") (.type "type") xInit = some (.val (.builtin "Exception.__init__")) := by kernel_rfl
theorem ExO.keep {h h' : Heap} {e C : Addr} {dd : Option Addr} (x : ExO h e C dd) (k : ∀ b o, h.get? b = some o → h'.get? b = some o) : ExO h' e C dd := let ⟨o, vs, t0, he, r⟩ := x.obj; ⟨o, vs, t0, k _ _ he, r⟩
theorem init1_ok (C : Cx G) (hlim : G.H0.NoLimit) {f : Nat} {D : FDef} {fd : FuncData} {body : List Stmt} (I : Init1 G f D fd body) {A : Around} {s : Shared} {ρ : Rh} {σ : St} {e Cc : Addr} {msg : Value} {R : Result → Shared → Prop} (X : SR G ρ σ s.heap) (st : Stk G A ρ s.heap) (hroom : A.depth < recursionLimit)
 (EC : ExcC G Cc) (no : findIn G.K (.ref Cc) xMsg = some none) (nH : G.H0.get? e = none) (x : ExO s.heap e Cc none)
 (h : ∀ h' tk' dx, ExO h' e Cc (some dx) → dx ≠ e → h'.Ns1 dx (fun z => if z = xMsg then some msg else none) → s.heap.get? dx = none → (∀ b ob, b ≠ e → s.heap.get? b = some ob → h'.get? b = some ob) → R (.ok (.ret .none)) ⟨h', s.gens, s.drawn, tk', s.os⟩) :
 codeAny (model G.prog G.w) A (.call (.ref (G.fnA f)) ⟨[.ref e, msg], []⟩) R s := by
 obtain ⟨st1, st2, rfl, g1, g2⟩ := I.bd
 have nd : (D.ps.map G.nmV).Nodup := by rw [I.ps]; decide
 have hb : BindsTo s fd ⟨[.ref e, msg], []⟩ [(xSelf, .ref e), (xMsg, msg)] := binds_gen (ps := [xSelf, xMsg]) (dl := []) I.S.po (I.S.names.trans I.ps) I.S.va I.S.ko I.S.kw (fun M A E Q hQ => by rw [I.df]; exact wpAny_pure (hQ _ rfl)) (show 2 ≤ 2 by decide) (show 0 ≤ 2 by decide) List.nodup_nil (fun x hx => (by cases hx)) (fun n hn => by
  rcases List.mem_cons.mp hn with rfl | hn
  · rfl
  · rcases List.mem_cons.mp hn with rfl | hn
    · rfl
    · cases hn)
 refine call_enter hlim I.S hb I.ps.symm nd st X hroom fun env' h₁ tk top hkf free keep E₀ V => ?_
 have ko : ∀ y, env'.kindOf y = fd.scope.names.lookup y := fun y => by unfold Env.kindOf; rw [E₀.scope]
 have bd : ∀ y v, fd.scope.names.lookup y = some .local → [(xSelf, Value.ref e), (xMsg, msg)].lookup y = some v → bindL env'.kindOf [(xSelf, .ref e), (xMsg, msg)] (fun V => none) y = some v := fun y v hy hv => bindL_get (show [xSelf, xMsg].Nodup by decide) ((ko y).trans hy) hv
 have X₁ : SR G ρ σ h₁ := X.keeps keep
 have x₁ := x.keep keep
 have self := And.intro ((ko xSelf).trans I.ls.1) (bd xSelf (.ref e) I.ls.1 rfl)
 refine wpAny_execs_cons (init_st (f := .builtin "Exception.__init__") (P := fun V => True) g1 E₀ self ⟨(ko _).trans I.ls.2, bd xMsg msg I.ls.2 rfl⟩ (fun h z => keeps_blt h z) trivial (fun Q p hQ => name_blt C E₀ X₁ I.lx I.gx.1 I.gx.2 (by decide) fun pl => method_ty (X₁.kin C) exc_type.1 exc_type.2.1 (exc_find _) exc_type.2.2 (hQ _)) fun tk2 => wpAny_call ?_)
 obtain ⟨o, vs, t0, he, hc, hd, h0, h1, hsl, hdd⟩ := x₁.obj
 obtain ⟨nm, q, N, bs, bm, sn, sub, ab, col, dd', k0, k1, k2, k3, k5, hC, T, pass⟩ := EC.obj
 refine init_B F.excBase_Exception T.hasB (X₁.base _ _ hC) he hc hd h0 (fun h₂ o' q1 q2 q3 q4 q5 q6 => ?_) (show 1 ≤ sizeLine by rw [sizeLine_eq]; decide)
 have x₂ : ExO h₂ e Cc none := ⟨o', _, h₁.objs.size, q1, q2, q5, by simp [(Array.getElem?_eq_some_iff.mp h0).1], by rw [Array.getElem?_setIfInBounds_ne (by decide)]; exact h1, q4.trans hsl, q3.trans hdd⟩
 have E₂ : EnvOk G fd.scope (A.deeper env') env' .nil ρ h₂ _ := E₀.but1 x₁ q6
 have kb : ∀ b o, G.H0.get? b = some o → h₂.get? b = some o := fun b o hb => q6 b o (fun z => by rw [z, nH] at hb; cases hb) (X₁.base b o hb)
 refine wpAny_execs_cons (keep_st (m2 := fun V => none) (ns := []) g2 E₂ self ⟨(ko _).trans I.ls.2, bd xMsg msg I.ls.2 rfl⟩ (C.kin.keeps kb) kb EC no x₂ (.inl ⟨rfl, fun V => rfl⟩) Within.nil (by decide) (by decide) fun h' tk' dx r1 r2 r3 r4 r5 => wpAny_execs_nil (h h' tk' dx r1 r2 r3 ?_ fun b ob hbe hb => r5 b ob hbe (by simp) (q6 b ob hbe (keep b ob hb))))
 rcases r4 with r4 | r4
 · cases r4
 · cases z : s.heap.get? dx with
   | none => rfl
   | some ob => rw [q6 dx ob r2 (keep dx ob z)] at r4; cases r4
theorem init2_ok (C : Cx G) (hlim : G.H0.NoLimit) {f1 f : Nat} {D1 D : FDef} {fd1 fd : FuncData} {body1 body : List Stmt} {C1 : Addr} (I1 : Init1 G f1 D1 fd1 body1) (I : Init2 G f1 f D fd body C1) {A : Around} {s : Shared} {ρ : Rh} {σ : St} {e Cc : Addr} {msg : Value} {R : Result → Shared → Prop} (X : SR G ρ σ s.heap) (st : Stk G A ρ s.heap) (hroom : A.depth + 1 < recursionLimit)
 (EC : ExcC G Cc) (no : findIn G.K (.ref Cc) xMsg = some none) (no2 : findIn G.K (.ref Cc) xRow = some none) (nH : G.H0.get? e = none) (x : ExO s.heap e Cc none)
 (h : ∀ h' tk' dx, ExO h' e Cc (some dx) → (∀ b ob, b ≠ e → s.heap.get? b = some ob → h'.get? b = some ob) → R (.ok (.ret .none)) ⟨h', s.gens, s.drawn, tk', s.os⟩) :
 codeAny (model G.prog G.w) A (.call (.ref (G.fnA f)) ⟨[.ref e, msg], []⟩) R s := by
 obtain ⟨st1, st2, rfl, g1, g2⟩ := I.bd
 obtain ⟨T, oT, n, t0, df, hT, hTd⟩ := I.df
 have nd : (D.ps.map G.nmV).Nodup := by rw [I.ps]; decide
 have hb : BindsTo s fd ⟨[.ref e, msg], []⟩ [(xSelf, .ref e), (xMsg, msg), (xRow, .int 0 t0)] := binds_gen (ps := [xSelf, xMsg, xRow]) (dl := [.int 0 t0]) I.S.po (I.S.names.trans I.ps) I.S.va I.S.ko I.S.kw (fun M A E Q hQ => by rw [df]; exact wpAny_seqItems (X.base _ _ hT) hTd (hQ _ rfl)) (show 2 ≤ 3 by decide) (show 1 ≤ 3 by decide) List.nodup_nil (fun x hx => (by cases hx)) (fun n hn => by
  rcases List.mem_cons.mp hn with rfl | hn
  · rfl
  · rcases List.mem_cons.mp hn with rfl | hn
    · rfl
    · cases hn)
 refine call_enter hlim I.S hb I.ps.symm nd st X (by omega) fun env' h₁ tk top hkf free keep E₀ V => ?_
 have ko : ∀ y, env'.kindOf y = fd.scope.names.lookup y := fun y => by unfold Env.kindOf; rw [E₀.scope]
 have bd : ∀ y v, fd.scope.names.lookup y = some .local → [(xSelf, Value.ref e), (xMsg, msg), (xRow, .int 0 t0)].lookup y = some v → bindL env'.kindOf [(xSelf, .ref e), (xMsg, msg), (xRow, .int 0 t0)] (fun V => none) y = some v := fun y v hy hv => bindL_get (show [xSelf, xMsg, xRow].Nodup by decide) ((ko y).trans hy) hv
 have X₁ : SR G ρ σ h₁ := X.keeps keep
 have x₁ := x.keep keep
 have self := And.intro ((ko xSelf).trans I.ls.1) (bd xSelf (.ref e) I.ls.1 rfl)
 refine wpAny_execs_cons (init_st (f := .ref (G.fnA f1)) (P := fun h => G.K.In h) g1 E₀ self ⟨(ko _).trans I.ls.2.1, bd xMsg msg I.ls.2.1 rfl⟩ (keeps_K I.at1.2.2.2) (X₁.kin C) (fun Q p hQ => name_glob C E₀ X₁ I.lx I.gx (by decide) fun pl => method_cls (X₁.kin C) I.at1.1 (cls_value (X₁.kin C) I.at1.2.1 I.at1.2.2.1 rfl (hQ _))) fun tk2 => wpAny_call ?_)
 refine init1_ok C hlim I1 (s := { s with heap := h₁, toks := tk2 }) X₁ E₀.stk hroom EC no nH x₁ fun h₂ tk3 dx q1 q2 q3 q4 q5 => ?_
 have E₂ : EnvOk G fd.scope (A.deeper env') env' .nil ρ h₂ _ := E₀.but1 x₁ q5
 have kb : ∀ b o, G.H0.get? b = some o → h₂.get? b = some o := fun b o hb => q5 b o (fun z => by rw [z, nH] at hb; cases hb) (X₁.base b o hb)
 refine wpAny_execs_cons (keep_st (m2 := fun z => if z = xMsg then some msg else none) (ns := [xMsg]) g2 E₂ self ⟨(ko _).trans I.ls.2.2, bd xRow (.int 0 t0) I.ls.2.2 rfl⟩ (C.kin.keeps kb) kb EC no2 q1 (.inr ⟨dx, rfl, q2, q3⟩) (Within.cons xMsg msg Within.nil) (by decide) (by decide) fun h' tk' dx' r1 r2 r3 r4 r5 => wpAny_execs_nil (h h' tk' dx' r1 fun b ob hbe hb => ?_))
 have hb1 := keep b ob hb
 exact r5 b ob hbe (fun z => by cases z; rw [show h₁.get? dx = none from q4] at hb1; cases hb1) (q5 b ob hbe hb1)
end Mst
end
section
namespace Mst
open PySem PySem.W PyProof.Rows PySem.Calls
variable (G : Gl)
noncomputable def CallI (f : Nat) (Cc : Addr) : Prop := ∀ {A : Around} {s : Shared} {ρ : Rh} {σ : St} {e : Addr} {msg : Value} {R : Result → Shared → Prop}, SR G ρ σ s.heap → Stk G A ρ s.heap → A.depth + 1 < recursionLimit → G.H0.get? e = none → ExO s.heap e Cc none →
 (∀ h' tk' dx, ExO h' e Cc (some dx) → (∀ b ob, b ≠ e → s.heap.get? b = some ob → h'.get? b = some ob) → R (.ok (.ret .none)) ⟨h', s.gens, s.drawn, tk', s.os⟩) → codeAny (model G.prog G.w) A (.call (.ref (G.fnA f)) ⟨[.ref e, msg], []⟩) R s
structure RaiseAt (c : Nat) (x : PySem.Str) (f : Nat) : Prop where
 gx : nsIn G.K mainGlobals x = some (some (.ref (G.clA c)))
 dbg : (x == ("__debug__" : PySem.Str)) = false
 EC : ExcC G (G.clA c)
 keep : keepIn G.K (.ref (G.clA c)) = true
 init : findIn G.K (.ref (G.clA c)) "__init__" = some (some (.ref (G.fnA f)))
 fn : ∃ o, G.H0.get? (G.fnA f) = some o ∧ o.cls = .type "function"
 run : CallI G f (G.clA c)
variable {G}
theorem funFrames_of {h s' base : Heap} : ∀ {l : List Env}, (∀ e ∈ l, e.scope.kind ≠ .module ∧ ∃ L o, e.frame = some L ∧ h.get? L = some o ∧ IsFr o ∧ base.get? L = none) → (∀ b o, h.get? b = some o → s'.get? b = some o) → s'.FunFrames base l
 | [], _, _ => trivial
 | e :: r, q, k => by
  obtain ⟨h1, L, o, h2, h3, h4, h5⟩ := q e List.mem_cons_self
  refine ⟨h1, ⟨L, o, h2, h5, k _ _ h3, fun vs z => ?_⟩, funFrames_of (fun e he => q e (List.mem_cons_of_mem _ he)) k⟩
  obtain ⟨_, es, ep, y⟩ := h4
  rw [z] at y; cases y
theorem weight_tc (x : Args) : Code.weight (.builtin "type.__call__" x) ≤ 1 := by
 have h1 : Code.frames (.builtin "type.__call__" x) = 0 := by first | rfl | simp [Code.frames, Code.isFrame]
 have h2 : Code.isGuard (.builtin "type.__call__" x) = false := by first | rfl | simp [Code.isGuard]
 have h3 : Code.isCaller (.builtin "type.__call__" x) = false := by first | rfl | simp [Code.isCaller]
 unfold Code.weight
 rw [h1, h2, h3]
 split <;> simp
theorem raise_ok (C : Cx G) {c : Nat} {x : PySem.Str} {f : Nat} (RA : RaiseAt G c x f) {sc : Scope} {kx : Kx} {n : Nat} {np cp : Pos} {a : PySem.Str} {k : Nat} {p1 p2 : Pos} (hx : sc.names.lookup x = some .globalImplicit) :
 ExOk G (ZsX G kx) sc (fun V s V V V => kx c s) n (fun env => exec (.Raise (some (.Call (.Name x np) [.Constant (.str a) k cp] [] p1)) none p2) env) := by
 intro l σ kn kr kc hk env A s ρ m hf E X R
 obtain ⟨nm, q, N, bs, bm, sn, sub, ab, col, dd', k0, k1, k2, k3, k5, hC, T, pass⟩ := RA.EC.obj
 obtain ⟨oI, hI, hIc⟩ := RA.fn
 show wpAny _ _ (exec (.Raise (some (.Call (.Name x np) [.Constant (.str a) k cp] [] p1)) none p2) env) _ _ _
 rw [arm_exec_Raise]
 simp only [evalOpt, Option.map]
 refine wpAny_bind (wpAny_standAt (raiseStmt_any (C := G.clA c) (nm := nm) (q := q) (N := N) (bs := bs) (bm := bm) (hdct := true) (sn := sn) (sub := sub) (ab := ab) (col := col) (dd := dd') (k0 := k0) (k1 := k1) (k2 := k2) (k3 := k3) (k5 := k5) (newId := "Exception.__new__") T.hasBase R.handled ?_))
 have fin : ∀ h' tk' dx e, G.H0.get? e = none → s.heap.get? e = none → ExO h' e (G.clA c) (some dx) → (∀ b ob, b ≠ e → s.heap.get? b = some ob → h'.get? b = some ob) → ∃ e' de vs, Value.ref e = .ref e' ∧ h'.get? (G.clA c) = some (excClassObj nm q (G.clA c) N bs bm true sn sub ab col dd' k0 k1 k2 k3 k5 "Exception.__new__") ∧
  h'.get? e' = some { cls := .ref (G.clA c), dict := de, data := .fields vs } ∧ vs[1]? = some .none ∧ ZsX G kx env A ρ s (.ref e') ⟨h', s.gens, s.drawn, tk', s.os⟩ := by
  intro h' tk' dx e nH new x kp
  obtain ⟨o, vs, t0, he, hc, hd, h0, h1, hsl, hdd⟩ := x.obj
  have kk : ∀ b o, s.heap.get? b = some o → h'.get? b = some o := fun b o hb => kp b o (fun z => by rw [z, new] at hb; cases hb) hb
  have eo : o = { cls := .ref (G.clA c), dict := some dx, data := .fields vs } := by
   obtain ⟨a1, a2, a3, a4⟩ := o; subst hc hd hdd hsl; rfl
  refine ⟨e, some dx, vs, rfl, kk _ _ (X.base _ _ hC), by rw [he, eo], h1, c, e, ?_⟩
  obtain ⟨l, hl, hh⟩ := E.stk
  refine ⟨l, hideAll s.heap (l.filterMap (·.frame)), rfl, hl, ⟨⟨σ, ρ, s, hk, Pst.refl X, rfl, new, fun b ob hb => ⟨⟨ob.slots, kk b ob hb⟩, ?_⟩⟩, fun b ob hb => kk b ob (of_hideAll _ hb), ?_, funFrames_of (h := s.heap) (fun e2 he2 => ?_) kk, fun b ob hb => ?_⟩, .inl ⟨o, vs, _, he, hc, hd, h0, h1⟩⟩
  · by_cases z : b ∈ l.filterMap (·.frame)
    · obtain ⟨e2, he2, hf2⟩ := List.mem_filterMap.mp z
      obtain ⟨_, L, oL, g1, g2, g3, _⟩ := hh e2 he2
      rw [g1] at hf2; cases hf2
      rw [hb] at g2; cases g2
      exact .inr g3
    · exact .inl (hideAll_get _ hb z)
  · cases z : (hideAll s.heap (l.filterMap (·.frame))).get? e with
    | none => rfl
    | some ob => have := of_hideAll _ z; rw [new] at this; cases this
  · obtain ⟨g0, L, oL, g1, g2, g3, g4, g5⟩ := hh e2 he2
    exact ⟨g0, L, oL, g1, g2, g3, hideAll_none _ (List.mem_filterMap.mpr ⟨e2, he2, g1⟩)⟩
  · refine hideAll_get _ (X.base b ob hb) fun z => ?_
    obtain ⟨e2, he2, hf2⟩ := List.mem_filterMap.mp z
    obtain ⟨_, L, oL, g1, g2, g3, g4, g5⟩ := hh e2 he2
    rw [g1] at hf2; cases hf2
    rw [g5] at hb; cases hb
 refine wpAny_bind (wpAny_mono (wpAny_Call_ofName (name_glob C E X hx RA.gx RA.dbg ?_)) (fun v s₃ h₃ => wpAny_bind (wpAny_standAt (wpAny_pure h₃))) fun V V z => z)
 refine call_plain (P := fun h => G.K.In h) (by rfl) (keeps_K RA.keep) ?_
 rw [starEach_cons (by rfl)]
 refine spliced_cons (wpAny_Constant_str ?_)
 refine spliced_nil ⟨X.kin C, ?_⟩
 obtain ⟨hp, g, d, t, os⟩ := s
 refine call_exc_B F.excBase_Exception T (X.base _ _ hC) (fun h' k2 {_ _ _ _ _ _ _ _} hq => (looks_findIn ((X.kin C).keeps k2) RA.init).here hq) (X.base _ _ hI) hIc (fun h' e hm => ?_) (show 1 ≤ sizeLine by rw [sizeLine_eq]; decide)
 have nH : G.H0.get? e = none := by
  cases z : G.H0.get? e with
  | none => rfl
  | some o => have := X.base _ _ z; rw [show hp.get? e = none from hm.new] at this; cases this
 obtain ⟨t1, he, _⟩ := hm.there
 have st : Stk G A ρ h' := by
  obtain ⟨l, hl, hh⟩ := E.stk
  exact ⟨l, hl, fun e2 he2 => let ⟨g0, L, oL, g1, g2, g3, g4, g5⟩ := hh e2 he2; ⟨g0, L, oL, g1, hm.keeps _ _ g2, g3, g4, g5⟩⟩
 refine wpAny_call (RA.run (s := ⟨h', g, d, t + 1, os⟩) (X.keeps hm.keeps) (let ⟨l, a, b⟩ := st; ⟨l, a, b⟩) ?_ nH ⟨_, _, t1, he, rfl, rfl, rfl, rfl, rfl, rfl⟩ fun h₂ tk' dx x₂ kp => ⟨rfl, fin h₂ tk' dx e nH hm.new x₂ fun b ob hbe hb => kp b ob hbe (hm.keeps _ _ hb)⟩)
 have := R.depth
 have e1 : recursionLimit = 1000 := rfl
 exact Nat.lt_of_le_of_lt (Nat.add_le_add_right (Nat.add_le_add_left (weight_tc _) A.depth) 1) (by omega)
end Mst
end
section
namespace Mst
open PySem PySem.W PyProof.Rows PySem.Calls
noncomputable def obF (P : Params) (a : Nat) : Option Obj := match Nat.blt a 1365 with | true => (match (t13 P).get a with | some o => alive o | none => none) | false => none
theorem obF_get {P : Params} {a : Nat} {o : Obj} (h : obF P a = some o) : (hF P).get? a = some o := by
 have h : (match Nat.blt a 1365 with | true => (match (t13 P).get a with | some o => alive o | none => none) | false => none) = some o := h
 cases z : Nat.blt a 1365 with
 | false => rw [z] at h; exact nomatch h
 | true =>
  rw [z] at h; dsimp only at h
  cases y : (t13 P).get a with
  | none => rw [y] at h; exact nomatch h
  | some o' => rw [y] at h; exact (abs_get (Nat.ble_eq.mp z) y).trans h
noncomputable def allN : Nat → (Nat → Bool) → Bool
 | 0, _ => true
 | n + 1, p => p n && allN n p
theorem allN_of {p : Nat → Bool} : ∀ {n : Nat}, allN n p = true → ∀ i, i < n → p i = true
 | 0, _, i, h => absurd h (Nat.not_lt_zero i)
 | n + 1, h, i, hi => by
  obtain ⟨h1, h2⟩ := Bool.and_eq_true_iff.mp h
  rcases Nat.lt_succ_iff_lt_or_eq.mp hi with q | q
  · exact allN_of h2 i q
  · rw [q]; exact h1
noncomputable def strsEq : List PySem.Str → List PySem.Str → Bool
 | [], m => m.isEmpty
 | a :: l, m => (match m with | b :: m => strEq a b && strsEq l m | [] => false)
theorem strsEq_of {l : List PySem.Str} : ∀ {m : List PySem.Str}, strsEq l m = true → l = m := by
 induction l with
 | nil => intro m h; exact (List.isEmpty_iff.mp h).symm
 | cons a l ih =>
  intro m h
  cases m with
  | nil => exact ff h
  | cons b m =>
   obtain ⟨h1, h2⟩ := and2 h
   rw [strEq_iff.mp h1, ih h2]
theorem lk_mem {α : Type} {x : PySem.Str} {a : α} {l : List (Nat × α)} (h : lk l x = some a) : ∃ k, (k, a) ∈ l ∧ x = sOf k := by
 unfold lk at h
 generalize sKey x = k at h
 induction l with
 | nil => cases h
 | cons p r ih =>
  have h' : (match Nat.beq p.1 k with | true => (match strEq x (sOf p.1) with | true => some p.2 | false => none) | false => lkG x k r) = some a := h
  cases z : Nat.beq p.1 k with
  | true =>
   rw [z] at h'
   dsimp only at h'
   cases y : strEq x (sOf p.1) with
   | true => rw [y] at h'; cases h'; exact ⟨p.1, List.mem_cons_self, strEq_iff.mp y⟩
   | false => rw [y] at h'; cases h'
  | false => rw [z] at h'; obtain ⟨q, h1, h2⟩ := ih h'; exact ⟨q, List.mem_cons_of_mem _ h1, h2⟩
theorem ixOf_of {l : List Nat} {nm : Nat → PySem.Str} {x : PySem.Str} {n : Nat} (h : ixOf l nm x = some n) : x = nm n := by
 unfold ixOf at h
 cases z : ixG (sKey x) l 0 with
 | none => rw [z] at h; cases h
 | some m =>
  rw [z] at h
  dsimp only at h
  cases y : strEq x (nm m) with
  | true => rw [y] at h; cases h; exact strEq_iff.mp y
  | false => rw [y] at h; cases h
theorem aPth_of {x : PySem.Str} {p : Pth} (h : aPth x = some p) : x = nmAf (pIdx p) := by
 unfold aPth at h
 cases z : ixG (sKey x) nmAK 0 with
 | none => rw [z] at h; cases h
 | some m =>
  rw [z] at h
  dsimp only at h
  cases y : strEq x (nmAf (pIdx (pOf 9 m))) with
  | true => rw [y] at h; cases h; exact strEq_iff.mp y
  | false => rw [y] at h; cases h
theorem look2_of {q : Nat × Nat → Bool} {p : Nat} {l : List (Nat × Nat)} (h : l.all q = true) (n : look2 p l ≠ 9999) : q (p, look2 p l) = true := by
 induction l with
 | nil => exact absurd rfl n
 | cons x r ih =>
  rw [List.all_cons] at h
  obtain ⟨h1, h2⟩ := and2 h
  have e : look2 p (x :: r) = (match Nat.beq p x.1 with | true => x.2 | false => look2 p r) := rfl
  rw [e] at n ⊢
  cases z : Nat.beq p x.1 with
  | true => rw [Nat.eq_of_beq_eq_true z]; exact h1
  | false => rw [z] at n; exact ih h2 n
noncomputable def tupOf (o : Obj) : Option (List Value) := match o.cls with
 | .type s => (match o.dict with
  | none => (match o.data with | .seq vs n => cond (decide (s = "tuple") && (Nat.beq n 0 && Nat.beq o.slots.size 0)) (some vs.toList) none | _ => none)
  | some _ => none)
 | _ => none
theorem tupOf_some {o : Obj} {l : List Value} (h : tupOf o = some l) : o = tupO l := by
 obtain ⟨cls, dd, data, ⟨sl⟩⟩ := o
 cases cls with
 | type s =>
  cases dd with
  | none =>
   cases data with
   | seq vs n =>
    have h : cond (decide (s = "tuple") && (Nat.beq n 0 && Nat.beq sl.length 0)) (some vs.toList) none = some l := h
    cases q : decide (s = "tuple") && (Nat.beq n 0 && Nat.beq sl.length 0) with
    | false => rw [q] at h; exact nomatch (show none = some l from h)
    | true =>
     rw [q] at h
     obtain ⟨h1, h2⟩ := Bool.and_eq_true_iff.mp q
     obtain ⟨h2, h3⟩ := Bool.and_eq_true_iff.mp h2
     cases of_decide_eq_true h1
     cases Nat.eq_of_beq_eq_true h2
     cases List.eq_nil_of_length_eq_zero (Nat.eq_of_beq_eq_true h3)
     cases Option.some.inj (show some vs.toList = some l from h)
     rfl
   | _ => exact nomatch (show none = some l from h)
  | some _ => exact nomatch (show none = some l from h)
 | _ => exact nomatch (show none = some l from h)
noncomputable def fstV : Value ⊕ List Value → Value | .inl v => v | .inr _ => .ellipsis
noncomputable def isIntV : Value → Option Int | .int i _ => some i | _ => none
noncomputable def isStrV : Value → Option PySem.Str | .str i _ => some i | _ => none
noncomputable def isBytV : Value → Option (Array UInt8) | .bytes i _ => some i | _ => none
noncomputable def isBoolV : Value → Option Bool | .bool i => some i | _ => none
noncomputable def isRefV : Value → Option Nat | .ref i => some i | _ => none
noncomputable def isNoV : Value → Bool | .none => true | _ => false
noncomputable def bytL : AV → List UInt8 → Bool
 | .nil, l => l.isEmpty
 | .cons a r, l => (match l with | u :: l => (match a with | .int i => (match i with | .lit i => decide (i = (u.toNat : Int)) && bytL r l | .sym _ => false) | _ => false) | [] => false)
 | _, _ => false
set_option tactic.hygienic true in
theorem bytL_of {ν : Nat → Int} {a : AV} : ∀ {l : List UInt8}, bytL a l = true → BRel ν a l := by
 induction a with
 | nil => intro l h; cases l with
  | nil => exact .nil
  | cons => cases h
 | cons a r iha ih =>
  intro l h
  clear iha
  cases l with
  | nil => exact ff h
  | cons u l =>
   cases a <;> try exact ff h
   rename_i i
   cases i with
   | sym => exact ff h
   | lit i =>
    obtain ⟨h1, h2⟩ := Bool.and_eq_true_iff.mp h
    exact .cons (of_decide_eq_true h1) (ih h2)
 | _ => intro l h; exact ff h
section
variable (kdf : Nat → Nat) (P : Params)
noncomputable def vB : AV → Value ⊕ List Value → Bool
 | .none, x => isNoV (fstV x)
 | .bool b, x => (match isBoolV (fstV x) with | some c => b == c | none => false)
 | .int i, x => (match isIntV (fstV x) with | some j => (match i with | .lit i => decide (i = j) | .sym _ => false) | none => false)
 | .str n, x => (match isStrV (fstV x) with | some y => strEq (nmSf n) y | none => false)
 | .byt l, x => (match isBytV (fstV x) with | some b => bytL l b.toList && Nat.ble b.size 65536 | none => false)
 | .kd k, x => (match isRefV (fstV x) with | some a => Nat.beq (kdf k) a | none => false)
 | .tup l, x => (match isRefV (fstV x) with
  | some a => (match obF P a with | some o => (match tupOf o with | some vs => vB l (.inr vs) && Nat.ble vs.length 65536 | none => false) | none => false)
  | none => false)
 | .nil, x => (match x with | .inr l => l.isEmpty | .inl _ => false)
 | .cons a l, x => (match x with | .inr vs => (match vs with | v :: vs => vB a (.inl v) && vB l (.inr vs) | [] => false) | .inl _ => false)
 | .ref _, _ => false
 | .frl _, _ => false
noncomputable def kwRB : AV → List PySem.Str → List Value → Bool
 | .nil, _, vs => vs.isEmpty
 | .cons p l, ns, vs => (match vs with
  | v :: vs => (match ns with
   | x :: ns => (match p with
    | .cons n a => (match n with
     | .int i => (match i with | .lit i => (match i with | .ofNat n => strEq x (nmVf n) && (vB kdf P a (.inl v) && kwRB l ns vs) | _ => false) | .sym _ => false)
     | _ => false)
    | _ => false)
   | [] => false)
  | [] => false)
 | _, _, _ => false
noncomputable def dfB (ds : AV) (ns : List PySem.Str) (dV : Value) : Bool := match dV with
 | .none => (match ds with | .nil => true | _ => false)
 | .ref T => (match obF P T with
  | some o => (match o.data with | .seq vs _ => Nat.ble vs.toList.length ns.length && kwRB kdf P ds (ns.drop (ns.length - vs.toList.length)) vs.toList | _ => false)
  | none => false)
 | _ => false
noncomputable def cdB (cdv : Value) (q : PySem.Str) : Bool := match cdv with
 | .ref c => (match obF P c with
  | some o => (match o.data with | .fields vs => (match vs[1]? with | some v => (match isStrV v with | some y => strEq y q | none => false) | none => false) | _ => false)
  | none => false)
 | _ => false
end
noncomputable def nodStr : List PySem.Str → Bool
 | [] => true
 | x :: r => r.all (fun y => !(strEq x y)) && nodStr r
theorem nodStr_of : ∀ {l : List PySem.Str}, nodStr l = true → l.Nodup
 | [], _ => List.nodup_nil
 | x :: r, h => by
  obtain ⟨h1, h2⟩ := Bool.and_eq_true_iff.mp h
  refine List.nodup_cons.mpr ⟨fun hm => ?_, nodStr_of h2⟩
  have := List.all_eq_true.mp h1 x hm
  rw [strEq_iff.mpr rfl] at this; cases this
noncomputable def hdB (ps : List Nat) (p : Arguments) (sc : Scope) : Bool :=
 fnKind sc.kind && (!sc.isCoroutine && (!sc.isGenerator && (nodStr ((cellsFrom 0 sc.names []).map (·.1)) && (p.posonlyargs.isEmpty && (p.vararg.isNone && (p.kwonlyargs.isEmpty && (p.kwarg.isNone &&
  (strsEq (p.args.map (·.arg)) (ps.map nmVf) && (nodN ps && ps.all fun n => isK .local (kLook (nmVf n) sc.names) || isK .cell (kLook (nmVf n) sc.names))))))))))
end Mst
end
section
namespace Mst
open PySem PySem.W PyProof.Rows PySem.Calls
noncomputable def fnAL : List Nat := [21, 35, 92, 118, 125, 132, 154, 161, 168, 182, 187, 194, 201, 208, 215, 222, 229, 236, 243, 250, 257, 262, 269, 276, 283, 297, 302, 309, 316, 321, 326, 
 331, 336, 343, 363, 370, 375, 382, 387, 394, 406, 413, 428, 435, 440, 461, 466, 484, 491, 496, 501, 506, 511, 518, 525, 532, 539, 546, 553, 560, 567, 
 574, 581, 588, 595, 602, 609, 616, 623, 630, 645, 659, 666, 673, 680, 687, 694, 701, 708, 715, 722, 729, 736, 743, 750, 757, 764, 771, 778, 785, 792, 
 797, 804, 809, 816, 823, 830, 837, 844, 851, 865, 872, 879, 900, 907, 914, 921, 928, 947, 954, 959, 974, 981, 986, 993, 1000, 1007, 1015, 1020, 1033, 
 1040, 1047, 1054, 1061, 1066, 1073, 1080, 1088, 1096, 1103, 1110, 1118, 1125, 1133, 1140, 1147, 1154, 1161, 1168, 1175, 1182, 1189, 1196, 1203, 1210, 
 1217, 1224, 1231, 1238, 1260, 1267, 1281, 1289, 1296, 1303, 1310, 1317, 1324, 1331, 1338, 1345, 1350, 1357, 1364]
noncomputable def clAL : List Nat := [135, 171, 397, 443, 469, 648, 882, 931, 962, 1241, 1270, 38, 51, 63, 75, 95]
noncomputable def kdAL : List Nat := [98, 967]
noncomputable def ksOf (P : Params) (l : List Nat) : Frag := l.foldr (fun a r => match obF P a with | some o => (a, o) :: r | none => r) []
noncomputable def KF (P : Params) : Frag := ksOf P (3 :: 0 :: 2 :: clAL.foldr (fun c r => c :: Nat.pred c :: r) fnAL)
noncomputable def gl (w : World) (ν : Nat → Int) (H : Heap) : Gl := { prog := pw, w := w, H0 := H, K := KF w.params, nC := 11, nmV := nmVf, nmA := nmAf, nmS := nmSf, ν := ν, kdA := nthN kdAL, T := tabs, clA := nthN clAL, fnA := nthN fnAL }
def Ext (w : World) (H : Heap) : Prop := ∀ b o, (hF w.params).get? b = some o → H.get? b = some o
end Mst
end
section
namespace Mst
open PySem PySem.W PyProof.Rows PySem.Calls
section
variable {w : World} {ν : Nat → Int} {H : Heap} (hH : Ext w H)
theorem KF_in (P : Params) : (KF P).In (hF P) := by
 have h : (KF P).map (fun x => obF P x.1) = (KF P).map (fun x => some x.2) := by kernel_rfl
 refine Frag.in_of rfl ?_
 rw [List.map_map]
 generalize KF P = K at h
 induction K with
 | nil => rfl
 | cons x r ih =>
  rw [List.map_cons, List.map_cons, List.cons.injEq] at h
  rw [List.map_cons, List.map_cons, ih h.2]
  show (hF P).get? x.1 :: _ = _
  rw [obF_get h.1]
theorem fstV_some {x : Value ⊕ List Value} {v : Value} (h : fstV x = v) (hv : v ≠ .ellipsis) : x = .inl v := by
 cases x with
 | inl u => exact congrArg _ h
 | inr l => exact absurd h.symm hv
include hH
set_option tactic.hygienic true in
theorem vB_of (a : AV) : ∀ {x : Value ⊕ List Value}, vB (nthN kdAL) w.params a x = true → VR (gl w ν H) (fun V => none) H a x := by
 induction a with
 | none =>
  intro x h
  cases x with
  | inr l => exact ff h
  | inl v => cases v <;> first | exact .none | exact ff h
 | bool b =>
  intro x h
  cases x with
  | inr l => exact ff h
  | inl v =>
   cases v <;> try exact ff h
   rw [eq_of_beq (show (b == _) = true from h)]
   exact .bool
 | int i =>
  intro x h
  cases x with
  | inr l => exact ff h
  | inl v =>
   cases v <;> try exact ff h
   cases i with
   | sym => exact ff h
   | lit i =>
    rw [← of_decide_eq_true h]
    exact .int (i := .lit i)
 | str n =>
  intro x h
  cases x with
  | inr l => exact ff h
  | inl v =>
   cases v <;> try exact ff h
   rw [← strEq_iff.mp h]
   exact .str
 | byt l ih =>
  intro x h
  cases x with
  | inr l => exact ff h
  | inl v =>
   cases v <;> try exact ff h
   obtain ⟨h1, h2⟩ := Bool.and_eq_true_iff.mp h
   exact .byt (bytL_of h1) (Nat.ble_eq.mp h2)
 | kd k =>
  intro x h
  cases x with
  | inr l => exact ff h
  | inl v =>
   cases v <;> try exact ff h
   rw [← Nat.eq_of_beq_eq_true h]
   exact .kd (G := gl w ν H)
 | tup l ih =>
  intro x h
  cases x with
  | inr l => exact ff h
  | inl v =>
   cases v <;> try exact ff h
   rename_i a
   have h' : (match obF w.params a with | some o => (match tupOf o with | some vs => vB (nthN kdAL) w.params l (.inr vs) && Nat.ble vs.length 65536 | none => false) | none => false) = true := h
   cases e1 : obF w.params a with
   | none => rw [e1] at h'; exact ff h'
   | some o =>
    rw [e1] at h'
    dsimp only at h'
    cases e2 : tupOf o with
    | none => rw [e2] at h'; exact ff h'
    | some vs =>
     rw [e2] at h'
     obtain ⟨h1, h2⟩ := Bool.and_eq_true_iff.mp h'
     exact .tup ((hH _ _ (obF_get e1)).trans (congrArg _ (tupOf_some e2))) (ih h1) (Nat.ble_eq.mp h2)
 | nil =>
  intro x h
  cases x with
  | inl v => exact ff h
  | inr l => cases l with
   | nil => exact .nil
   | cons => exact ff h
 | cons a l iha ihl =>
  intro x h
  cases x with
  | inl v => exact ff h
  | inr vs => cases vs with
   | nil => exact ff h
   | cons v vs =>
    obtain ⟨h1, h2⟩ := Bool.and_eq_true_iff.mp h
    exact .cons (iha h1) (ihl h2)
 | ref => intro x h; exact ff h
 | frl => intro x h; exact ff h
set_option tactic.hygienic true in
theorem kwRB_of {ds : AV} : ∀ {ns : List PySem.Str} {vs : List Value}, kwRB (nthN kdAL) w.params ds ns vs = true → KwR (gl w ν H) (fun V => none) H ds (ns.zip vs) := by
 induction ds with
 | nil =>
  intro ns vs h
  cases vs with
  | nil => rw [List.zip_nil_right]; exact .nil
  | cons => exact ff h
 | cons p l ihp ih =>
  intro ns vs h
  clear ihp
  cases vs with
  | nil => exact ff h
  | cons v vs =>
   cases ns with
   | nil => exact ff h
   | cons x ns =>
    cases p <;> try exact ff h
    rename_i n a
    cases n <;> try exact ff h
    rename_i i
    cases i with
    | sym => exact ff h
    | lit i =>
     cases i with
     | negSucc => exact ff h
     | ofNat n =>
      obtain ⟨h1, h2⟩ := Bool.and_eq_true_iff.mp h
      obtain ⟨h2, h3⟩ := Bool.and_eq_true_iff.mp h2
      rw [strEq_iff.mp h1]
      exact .cons (G := gl w ν H) (vB_of hH a h2) (ih h3)
 | _ => intro ns vs h; exact ff h
def FS (w : World) (ν : Nat → Int) (H : Heap) (f : Nat) : Prop := ∃ fd body, FnS (gl w ν H) f (funT f) fd body ∧ fnKind fd.scope.kind = true ∧ (funT f).body = cLs (cS nms fd.scope 30) body
noncomputable def fuB (P : Params) (D : FDef) (fd : FuncData) : Bool := hdB D.ps fd.params fd.scope && (cdB P fd.code fd.qualname && (dfB (nthN kdAL) P D.ds (D.ps.map nmVf) fd.defaults && (Nat.beq fd.globals 3 && (Nat.beq fd.builtins 0 && fd.closure.isEmpty))))
noncomputable def fdOf (P : Params) (f : Nat) : Option (FuncData × List Stmt) := match obF P (nthN fnAL f) with
 | some o => (match o.data with
  | .func fd => (match fd.body with | .stmts b => some (fd, b) | _ => none)
  | _ => none)
 | none => none
noncomputable def fcB (P : Params) (f : Nat) (D : FDef) : Bool := match fdOf P f with
 | some p => fuB P D p.1
 | none => false
noncomputable def fcX (P : Params) (f : Nat) : X := match fdOf P f with
 | some p => cLs (cS nms p.1.scope 30) p.2
 | none => .bad
omit hH in
theorem fdOf_some {P : Params} {f : Nat} {fd : FuncData} {b : List Stmt} (h : fdOf P f = some (fd, b)) : ∃ o, obF P (nthN fnAL f) = some o ∧ o.data = .func fd ∧ fd.body = .stmts b := by
 unfold fdOf at h
 cases z : obF P (nthN fnAL f) with
 | none => rw [z] at h; cases h
 | some o =>
  rw [z] at h; dsimp only at h
  cases y : o.data with
  | func fd' =>
   rw [y] at h; dsimp only at h
   cases x : fd'.body with
   | stmts b' => rw [x] at h; cases h; exact ⟨o, rfl, y, x⟩
   | _ => rw [x] at h; cases h
  | _ => rw [y] at h; cases h
inductive CdI (P : Params) (cdv : Value) (q : PySem.Str) : Prop
 | mk (c : Addr) (oc : Obj) (vs : Array Value) (t : Tok) : cdv = .ref c → obF P c = some oc → oc.data = .fields vs → vs[1]? = some (.str q t) → CdI P cdv q
omit hH in
theorem cdB_some {P : Params} {cdv : Value} {q : PySem.Str} (h : cdB P cdv q = true) : CdI P cdv q := by
 cases cdv with
 | ref c =>
  have h : (match obF P c with
   | some o => (match o.data with | .fields vs => (match vs[1]? with | some v => (match isStrV v with | some y => strEq y q | none => false) | none => false) | _ => false)
   | none => false) = true := h
  cases z : obF P c with
  | none => rw [z] at h; exact ff h
  | some o =>
   rw [z] at h; dsimp only at h
   cases y : o.data with
   | fields vs =>
    rw [y] at h; dsimp only at h
    cases x : vs[1]? with
    | none => rw [x] at h; exact ff h
    | some v =>
     rw [x] at h; dsimp only at h
     cases v with
     | str u t => exact ⟨c, o, vs, t, rfl, z, y, by rw [x, strEq_iff.mp h]⟩
     | _ => exact ff h
   | _ => rw [y] at h; exact ff h
 | _ => exact ff h
inductive DfI (P : Params) (ds : AV) (ns : List PySem.Str) (dV : Value) : Prop
 | none : dV = .none → ds = .nil → DfI P ds ns dV
 | ref (T : Addr) (o : Obj) (vs : Array Value) (n : Nat) : dV = .ref T → obF P T = some o → o.data = .seq vs n → vs.toList.length ≤ ns.length → kwRB (nthN kdAL) P ds (ns.drop (ns.length - vs.toList.length)) vs.toList = true → DfI P ds ns dV
omit hH in
theorem dfB_some {P : Params} {ds : AV} {ns : List PySem.Str} {dV : Value} (h : dfB (nthN kdAL) P ds ns dV = true) : DfI P ds ns dV := by
 cases dV with
 | none => cases ds <;> first | exact ff h | exact .none rfl rfl
 | ref T =>
  have h : (match obF P T with
   | some o => (match o.data with | .seq vs _ => Nat.ble vs.toList.length ns.length && kwRB (nthN kdAL) P ds (ns.drop (ns.length - vs.toList.length)) vs.toList | _ => false)
   | none => false) = true := h
  cases z : obF P T with
  | none => rw [z] at h; exact ff h
  | some o =>
   rw [z] at h; dsimp only at h
   cases y : o.data with
   | seq vs n =>
    rw [y] at h
    obtain ⟨c1, c2⟩ := Bool.and_eq_true_iff.mp h
    exact .ref T o vs n rfl z y (Nat.ble_eq.mp c1) c2
   | _ => rw [y] at h; exact ff h
 | _ => exact ff h
theorem FnS_of {f : Nat} {D : FDef} {o : Obj} {fd : FuncData} {b : List Stmt} (ho : obF w.params (nthN fnAL f) = some o) (hfd : o.data = .func fd) (hb : fd.body = .stmts b) (h : fuB w.params D fd = true) : FnS (gl w ν H) f D fd b ∧ fnKind fd.scope.kind = true := by
 obtain ⟨a, h⟩ := Bool.and_eq_true_iff.mp h
 obtain ⟨b1, h⟩ := Bool.and_eq_true_iff.mp h
 obtain ⟨b2, h⟩ := Bool.and_eq_true_iff.mp h
 obtain ⟨q1, h⟩ := Bool.and_eq_true_iff.mp h
 obtain ⟨q2, q3⟩ := Bool.and_eq_true_iff.mp h
 clear h
 unfold hdB at a
 simp only [Bool.and_eq_true, Bool.not_eq_true', List.isEmpty_iff, Option.isNone_iff_eq_none] at a
 obtain ⟨a1, a2, a3, a4, a5, a6, a7, a8, a9, a10, a11⟩ := a
 refine ⟨{ at' := ⟨o, hH _ _ (obF_get ho), hfd⟩, body := hb, co := a2, gen := a3, kind := fnKind_of a1, ndC := nodStr_of a4, globs := Nat.eq_of_beq_eq_true q1, blts := Nat.eq_of_beq_eq_true q2, clo := List.isEmpty_iff.mp q3, code := ?_, po := a5, va := a6, ko := a7, kw := a8, names := strsEq_of a9, nd := nodN_of a10, kinds := fun p hp => ?_, dflt := ?_ }, a1⟩
 · obtain ⟨c, oc, vs, t, e, hoc, hvs, hv⟩ := cdB_some b1
   exact ⟨c, oc, vs, t, e, hH _ _ (obF_get hoc), hvs, hv⟩
 · exact (Bool.or_eq_true_iff.mp (List.all_eq_true.mp a11 p hp)).imp k_look k_look
 · rcases dfB_some b2 with ⟨e, z⟩ | ⟨T, oT, vs, n, e, hT, hvs, c1, c2⟩
   · exact ⟨[], .inl ⟨rfl, e⟩, Nat.zero_le _, by rw [List.zip_nil_right, z]; exact .nil⟩
   · have c2 := kwRB_of (ν := ν) hH c2
     rw [List.length_map] at c1 c2
     exact ⟨vs.toList, .inr ⟨T, oT, n, e, hH _ _ (obF_get hT), hvs⟩, c1, c2⟩
theorem FS_of {f : Nat} (h : fcB w.params f (funT f) = true) (e : (funT f).body = fcX w.params f) : FS w ν H f := by
 unfold fcB at h
 unfold fcX at e
 cases z : fdOf w.params f with
 | none => rw [z] at h; cases h
 | some p =>
  obtain ⟨fd, b⟩ := p
  rw [z] at h e
  obtain ⟨o, ho, hfd, hb⟩ := fdOf_some z
  obtain ⟨S, k⟩ := FnS_of (ν := ν) hH ho hfd hb h
  exact ⟨fd, b, S, k, e⟩
end
end Mst
end
section
namespace Mst
open PySem PySem.W PyProof.Rows PySem.Calls
noncomputable def isZ (n : Nat) : Bool := match n with | 0 => true | _ => false
theorem fsBT (P : Params) : allN 164 (fun f => isZ (nthN pthL f) || fcB P f (funT f)) = true := by kernel_rfl
noncomputable def upN {α : Type} : Nat → (Nat → α) → List α
 | 0, _ => []
 | n + 1, g => g n :: upN n g
theorem upN_of {α : Type} {g h : Nat → α} {n : Nat} (e : upN n g = upN n h) : ∀ i, i < n → g i = h i := by
 induction n with
 | zero => exact fun i hi => absurd hi (Nat.not_lt_zero i)
 | succ n ih =>
  intro i hi
  obtain ⟨e1, e2⟩ := List.cons.inj e
  rcases Nat.lt_succ_iff_lt_or_eq.mp hi with q | q
  · exact ih e2 i q
  · rw [q]; exact e1
noncomputable def pick0 (f : Nat) (x : X) : X := match isZ (nthN pthL f) with | true => .bad | false => x
theorem fsXT (P : Params) : upN 164 (fun f => pick0 f (funT f).body) = upN 164 (fun f => pick0 f (fcX P f)) := by kernel_rfl
theorem isZ_of {f : Nat} (h : isZ (nthN pthL f) = true) : funT f = fBad := by
 unfold funT
 cases z : nthN pthL f with
 | zero => rfl
 | succ n => rw [z] at h; cases h
section
variable {w : World} (ν : Nat → Int) {H : Heap} (hH : Ext w H)
include hH
theorem fsAll (f : Nat) (h : f < 164) : funT f = fBad ∨ FS w ν H f := by
 cases z : isZ (nthN pthL f) with
 | true => exact .inl (isZ_of z)
 | false =>
  have h1 := allN_of (fsBT w.params) f h
  have h2 := upN_of (fsXT w.params) f h
  unfold pick0 at h2
  rw [z] at h1 h2
  exact .inr (FS_of hH h1 h2)
theorem fsOne (f : Nat) (h : f < 164) (n : isZ (nthN pthL f) = false) : FS w ν H f := by
 have h1 := allN_of (fsBT w.params) f h
 have h2 := upN_of (fsXT w.params) f h
 unfold pick0 at h2
 rw [n] at h1 h2
 exact FS_of hH h1 h2
theorem fs154 : FS w ν H 154 := fsOne ν hH 154 (by decide) rfl
theorem fs163 : FS w ν H 163 := fsOne ν hH 163 (by decide) rfl
end
end Mst
end
section
namespace Mst
open PySem PySem.W PyProof.Rows PySem.Calls
noncomputable def notTl (x : PySem.Str) : Bool := match x.cps.toList with | [] => true | c :: _ => !(Nat.beq c 126)
theorem nth_get : ∀ (l : List PySem.Str) (n m : Nat), (∃ h : n < l.length, nth l n m = l[n]) ∨ (l.length ≤ n ∧ nth l n m = tilde m)
 | [], n, m => .inr ⟨Nat.zero_le _, rfl⟩
 | x :: r, 0, m => .inl ⟨Nat.zero_lt_succ _, rfl⟩
 | x :: r, n + 1, m => by
  rcases nth_get r n m with ⟨h, e⟩ | ⟨h, e⟩
  · exact .inl ⟨Nat.succ_lt_succ h, e⟩
  · exact .inr ⟨Nat.succ_le_succ h, e⟩
theorem tilde_cps (n : Nat) : (tilde n).cps.toList = List.replicate (n + 1) 126 := List.toList_toArray
theorem notTl_tilde (n : Nat) : notTl (tilde n) = false := by unfold notTl; rw [tilde_cps, List.replicate_succ]; rfl
theorem nth_inj {l : List PySem.Str} (h1 : nodStr l = true) (h2 : l.all notTl = true) (m n : Nat) (e : nth l m m = nth l n n) : m = n := by
 have nt : ∀ i (hi : i < l.length) k, l[i] ≠ tilde k := fun i hi k q => by
  have := List.all_eq_true.mp h2 _ (List.getElem_mem hi)
  rw [q, notTl_tilde] at this; cases this
 rcases nth_get l m m with ⟨a, ea⟩ | ⟨a, ea⟩ <;> rcases nth_get l n n with ⟨b, eb⟩ | ⟨b, eb⟩ <;> rw [ea, eb] at e
 · have nd := List.pairwise_iff_getElem.mp (nodStr_of h1)
   rcases Nat.lt_trichotomy m n with q | q | q
   · exact absurd e (nd m n a b q)
   · exact q
   · exact absurd e.symm (nd n m b a q)
 · exact absurd e (nt m a n)
 · exact absurd e.symm (nt n b m)
 · have := congrArg (fun x : PySem.Str => x.cps.toList.length) e
   simp only [tilde_cps, List.length_replicate] at this
   omega
theorem nth_ne {l : List PySem.Str} {x : PySem.Str} (h1 : l.all (fun y => !(strEq y x)) = true) (h2 : notTl x = true) (n : Nat) : nth l n n ≠ x := by
 rcases nth_get l n n with ⟨a, e⟩ | ⟨_, e⟩ <;> rw [e]
 · intro q
   have := List.all_eq_true.mp h1 _ (List.getElem_mem a)
   rw [strEq_iff.mpr q] at this; cases this
 · intro q; rw [← q, notTl_tilde] at h2; cases h2
section
variable (P : Params)
noncomputable abbrev cA (c : Nat) : Value := .ref (nthN clAL c)
noncomputable def clsB (c : Nat) : Bool := findIn (KF P) (cA c) "__getattribute__" == some (some (.builtin "object.__getattribute__")) && (findIn (KF P) (cA c) "__getattr__" == some none && (hasDictIn (KF P) (nthN clAL c) &&
 (findIn (KF P) (cA c) "__setattr__" == some (some (.builtin "object.__setattr__")) && plainOver (KF P) (nthN clAL c))))
noncomputable def mkB (c : Nat) : Bool := Nat.beq (initN c) 9999 || (makesIn (KF P) (nthN clAL c) && (findIn (KF P) (cA c) "__init__" == some (some (.ref (nthN fnAL (initN c)))) && typeIn (KF P) (.ref (nthN fnAL (initN c))) == some (.type "function")))
noncomputable def mtB (c a b : Nat) : Bool := findIn (KF P) (cA c) (nmAf a) == some (some (.ref (nthN fnAL b))) && (typeIn (KF P) (.ref (nthN fnAL b)) == some (.type "function") && keepIn (KF P) (.ref (nthN fnAL b)))
noncomputable def fdB (c m : Nat) : Bool := !(Nat.beq (methN c m) 9999) || findIn (KF P) (cA c) (nmAf m) == some none
theorem cls_all : allN 11 (fun c => clsB P c && (mkB P c && (nthL methT c).all (fun x => mtB P c x.1 x.2))) = true := by kernel_rfl
theorem fd_all : allN 11 (fun c => allN 101 (fdB P c)) = true := by kernel_rfl
end
section
variable {w : World} (ν : Nat → Int) {H : Heap} (hH : Ext w H)
theorem dict_of {l : List (String × Nat × Value)} {n : Nat} (nd : (l.map (fun x => Str.ofString x.1)).Nodup) :
 Obj.IsDictOf (PySem.strKind pw w) ⟨vt "dict", none, .dict (l.map fun x => de w.params x.1 x.2.1 x.2.2).toArray n, #[]⟩ (l.map fun x => (Str.ofString x.1, x.2.2)) := by
 refine ⟨_, n, ⟨rfl, rfl, rfl⟩, rfl, fun e he => ?_, ?_, by rw [List.map_map]; exact nd⟩
 · obtain ⟨x, _, rfl⟩ := List.mem_map.mp (List.mem_toArray.mp he)
   exact ⟨Str.ofString x.1, strKind_is _ _ _ _, rfl⟩
 · rw [List.toList_toArray]
   clear nd
   induction l with
   | nil => exact .nil
   | cons x r ih => exact .cons (strKind_is _ _ _ _) rfl ih
include hH
theorem cx_gl : Cx (gl w ν H) where
 kin := (KF_in w.params).keeps hH
 cls := fun c hc => by
  obtain ⟨h, _⟩ := Bool.and_eq_true_iff.mp (allN_of (cls_all w.params) c hc)
  unfold clsB at h
  simp only [Bool.and_eq_true, beq_iff_eq] at h
  exact h
theorem cw_gl : Cw (gl w ν H) where
 make := fun c hc h9 => by
  obtain ⟨_, h⟩ := Bool.and_eq_true_iff.mp (allN_of (cls_all w.params) c hc)
  obtain ⟨h, _⟩ := Bool.and_eq_true_iff.mp h
  unfold mkB at h
  simp only [Bool.or_eq_true, Bool.and_eq_true, beq_iff_eq] at h
  rcases h with h | h
  · exact absurd (Nat.eq_of_beq_eq_true h) h9
  · exact h
 meth := fun c p hc h9 => by
  obtain ⟨_, h⟩ := Bool.and_eq_true_iff.mp (allN_of (cls_all w.params) c hc)
  obtain ⟨_, h⟩ := Bool.and_eq_true_iff.mp h
  have := look2_of h h9
  unfold mtB at this
  simp only [Bool.and_eq_true, beq_iff_eq] at this
  exact this
 fld := fun c p hc h => by
  have h' : (match Nat.blt (pIdx p) 101 with | true => Nat.beq (methN c (pIdx p)) 9999 | false => false) = true := h
  cases z : Nat.blt (pIdx p) 101 with
  | false => rw [z] at h'; cases h'
  | true =>
   rw [z] at h'
   have hl : pIdx p < 101 := Nat.ble_eq.mp z
   have q := allN_of (allN_of (fd_all w.params) c hc) (pIdx p) hl
   unfold fdB at q
   rw [show Nat.beq (methN c (pIdx p)) 9999 = true from h', Bool.not_true, Bool.false_or, beq_iff_eq] at q
   exact ⟨q, by omega⟩
theorem ni_gl : NoIn (gl w ν H) := fun n hn => by
 rcases hn with rfl | rfl
 · exact (by decide +kernel : (Builtin.Str.occurrences (nmSf 21) (nmSf 8) 0 (nmSf 21).length 1).isEmpty = true)
 · exact (by decide +kernel : (Builtin.Str.occurrences (nmSf 22) (nmSf 8) 0 (nmSf 22).length 1).isEmpty = true)
noncomputable def dsB (P : Params) : AV → List (String × Nat × Value) → Bool
 | .nil, l => l.isEmpty
 | .cons p r, l => (match l with
  | x :: l => (match p with
   | .cons n a => (match n with | .str n => strEq (nmSf n) (Str.ofString x.1) && (vB (nthN kdAL) P a (.inl x.2.2) && dsB P r l) | _ => false)
   | _ => false)
  | [] => false)
 | _, _ => false
set_option tactic.hygienic true in
theorem dsB_of {d : AV} : ∀ {l : List (String × Nat × Value)}, dsB w.params d l = true → DS (gl w ν H) (fun V => none) H d (l.map fun x => (Str.ofString x.1, x.2.2)) := by
 induction d with
 | nil => intro l h; cases l with
  | nil => exact .nil
  | cons => exact ff h
 | cons p r ihp ih =>
  intro l h
  clear ihp
  cases l with
  | nil => exact ff h
  | cons x l =>
   cases p <;> try exact ff h
   rename_i n a
   cases n <;> try exact ff h
   obtain ⟨h1, h2⟩ := Bool.and_eq_true_iff.mp h
   obtain ⟨h2, h3⟩ := Bool.and_eq_true_iff.mp h2
   rw [List.map_cons, ← strEq_iff.mp h1]
   exact .cons (G := gl w ν H) (vB_of hH a h2) (ih h3)
 | _ => intro l h; exact ff h
theorem kd_of {a : Nat} {o : Obj} {d : AV} (l : List (String × Nat × Value)) {n : Nat} (h1 : obF w.params a = some o) (h2 : o = ⟨vt "dict", none, .dict (l.map fun x => de w.params x.1 x.2.1 x.2.2).toArray n, #[]⟩)
 (h3 : (dsB w.params d l && (nodStr (l.map fun x => Str.ofString x.1) && Nat.ble l.length 65536)) = true) (h4 : (a == sysModules) = false) :
 ∃ o kvs, H.get? a = some o ∧ o.IsDictOf (PySem.strKind pw w) kvs ∧ DS (gl w ν H) (fun V => none) H d kvs ∧ kvs.length ≤ 65536 ∧ (a == sysModules) = false := by
 obtain ⟨a1, a2⟩ := Bool.and_eq_true_iff.mp h3
 obtain ⟨a2, a3⟩ := Bool.and_eq_true_iff.mp a2
 exact ⟨o, _, hH _ _ (obF_get h1), by rw [h2]; exact dict_of (nodStr_of a2), dsB_of ν hH a1, by rw [List.length_map]; exact Nat.ble_eq.mp a3, h4⟩
theorem cy_gl : Cy (gl w ν H) where
 injS := nth_inj (l := nmSL) (by decide +kernel) (by decide +kernel)
 injA := nth_inj (l := nmAL) (by decide +kernel) (by decide +kernel)
 injV := nth_inj (l := nmVL) (by decide +kernel) (by decide +kernel)
 kds := fun k => match k with
  | 0 => .inr (kd_of ν hH (a := 98) (o := o98 w.params) [("config", 302, vi 0 303), ("rapid", 304, vi 2 305), ("change", 306, vi 128 307)] (by kernel_rfl) rfl (by kernel_rfl) rfl)
  | 1 => .inr (kd_of ν hH (a := 967) (o := o967 w.params) [("root", 1722, vs "root" 1723), ("alternate", 1724, vs "alternate" 1725), ("backup", 1726, vs "alternate" 1727), ("designated", 1728, vs "designated" 1729)] (by kernel_rfl) rfl (by kernel_rfl) rfl)
  | k + 2 => .inl rfl
theorem lim_gl : (gl w ν H).H0.NoLimit := by
 refine ⟨nsFind #[de w.params "type.__subclasses__.Exception.0" 221 (vi 38 0), de w.params "type.__subclasses__.Exception.n" 222 (vi 1 0)], ⟨o2x1 w.params, _, 2, hH _ _ (obF_get (by kernel_rfl)), rfl, fun e he => ?_, fun V => rfl⟩, by kernel_rfl⟩
 simp only [List.mem_toArray, List.mem_cons, List.not_mem_nil, or_false] at he
 rcases he with rfl | rfl <;> exact ⟨_, _, rfl⟩
end
end Mst
end
section
namespace Mst
open PySem PySem.W PyProof.Rows PySem.Calls
noncomputable abbrev dbgS : PySem.Str := ("__debug__" : PySem.Str)
theorem not_dbg {x : PySem.Str} (h : (!(strEq x dbgS)) = true) : (x == dbgS) = false := by
 rw [Bool.not_eq_true'] at h
 rw [beq_eq_false_iff_ne]
 intro q
 rw [strEq_iff.mpr q] at h; cases h
section
variable (P : Params)
noncomputable def gloB (x : Nat × AV) : Bool := !(strEq (sOf x.1) dbgS) && (match nsIn (KF P) mainGlobals (sOf x.1) with | some v => (match v with | some v => vB (nthN kdAL) P x.2 (.inl v) | none => false) | none => false)
noncomputable def fnB (x : Nat × Nat) : Bool := nsIn (KF P) mainGlobals (sOf x.1) == some (some (.ref (nthN fnAL x.2))) && (keepIn (KF P) (.ref (nthN fnAL x.2)) && !(strEq (sOf x.1) dbgS))
noncomputable def clB (x : Nat × Nat) : Bool := Nat.blt x.2 11 && (!(Nat.beq (initN x.2) 9999) && (nsIn (KF P) mainGlobals (sOf x.1) == some (some (cA x.2)) && (keepIn (KF P) (cA x.2) && !(strEq (sOf x.1) dbgS))))
noncomputable def blB (x : Nat × Nat) (f : Value) : Bool := nsIn (KF P) mainGlobals (sOf x.1) == some none && (nsIn (KF P) builtinsNs (sOf x.1) == some (some f) && !(strEq (sOf x.1) dbgS))
theorem glo_all : gloL.all (gloB P) = true := by kernel_rfl
theorem fn_all : fnL.all (fnB P) = true := by kernel_rfl
theorem cl_all : clL.all (clB P) = true := by kernel_rfl
end
noncomputable def blV : List Value := [.builtin "len", .builtin "min", .builtin "max", .builtin "sorted", .builtin "sum", .builtin "divmod", .type "int", .type "bytes", .type "range", .type "tuple", .type "dict"]
noncomputable def zipB (P : Params) : List (Nat × Nat) → List Value → Bool
 | x :: l, v :: m => blB P x v && zipB P l m
 | _, _ => true
theorem bl_all (P : Params) : zipB P blL blV = true := by kernel_rfl
section
variable {w : World} (ν : Nat → Int) {H : Heap} (hH : Ext w H)
include hH
set_option tactic.hygienic true in
theorem bun_gl {R : Orc} (hR : OrcOk ν R) : Bun (gl w ν H) funT R nms where
 cx := cx_gl ν hH
 cy := cy_gl ν hH
 ni := ni_gl ν hH
 cw := cw_gl ν hH
 big := ⟨1, boot_o_1 w.params, Nat.le_refl _, hH _ _ (obF_get (by kernel_rfl))⟩
 hR := hR
 v := fun x n h => by
  have e := ixOf_of (show ixOf nmVK nmVf x = some n from h)
  subst e
  exact ⟨rfl, beq_eq_false_iff_ne.mpr (nth_ne (by decide +kernel) (by decide +kernel) n), beq_eq_false_iff_ne.mpr (nth_ne (by decide +kernel) (by decide +kernel) n)⟩
 v0 := fun n => nth_ne (by decide +kernel) (by decide +kernel) n
 a := fun x p h => aPth_of h
 s := fun x n h => ixOf_of (show ixOf nmSK nmSf x = some n from h)
 glo := fun x v h => by
  obtain ⟨k, hm, e⟩ := lk_mem (show lk gloL x = some v from h)
  obtain ⟨a, b⟩ := and2 (List.all_eq_true.mp (glo_all w.params) _ hm)
  rw [e]
  refine ⟨not_dbg a, ?_⟩
  dsimp only at b
  split at b
  · split at b
    · rename_i u hu; exact ⟨u, hu, vB_of hH v b⟩
    · cases b
  · cases b
 fn := fun x f h => by
  obtain ⟨k, hm, e⟩ := lk_mem (show lk fnL x = some f from h)
  obtain ⟨a, b⟩ := and2 (List.all_eq_true.mp (fn_all w.params) _ hm)
  obtain ⟨b, c⟩ := and2 b
  rw [e]
  exact ⟨beq_iff_eq.mp a, b, not_dbg c⟩
 cl := fun x c h => by
  obtain ⟨k, hm, e⟩ := lk_mem (show lk clL x = some c from h)
  obtain ⟨a, b⟩ := and2 (List.all_eq_true.mp (cl_all w.params) _ hm)
  obtain ⟨b, d⟩ := and2 b
  obtain ⟨d, g⟩ := and2 d
  obtain ⟨g, f⟩ := and2 g
  rw [e]
  refine ⟨Nat.ble_eq.mp a, fun q => ?_, beq_iff_eq.mp d, g, not_dbg f, ?_⟩
  · rw [show Nat.beq (initN c) 9999 = true from by rw [show initN c = 9999 from q]; rfl] at b; cases b
  · show psF (stOf (nthN pthL (initN c))) = (funT (initN c)).ps
    unfold funT
    have q := allN_of (p := fun c => !(isZ (nthN pthL (initN c)))) (n := 11) (by decide +kernel) c (Nat.ble_eq.mp a)
    cases z : nthN pthL (initN c) with
    | zero => rw [z] at q; cases q
    | succ m => rfl
 bl := fun x b h => by
  have hz := bl_all w.params
  have get : ∀ {k b : Nat} {f : Value}, blB w.params (k, b) f = true → ((∃ T, f = .type T) ∨ ∃ T, f = .builtin T) → BltOk (gl w ν H) R b f → nsIn (gl w ν H).K mainGlobals (sOf k) = some none ∧ (sOf k == dbgS) = false ∧ ∃ f, nsIn (gl w ν H).K builtinsNs (sOf k) = some (some f) ∧ ((∃ T, f = .type T) ∨ ∃ T, f = .builtin T) ∧ BltOk (gl w ν H) R b f := fun hb hf ok => by
   obtain ⟨a, b⟩ := Bool.and_eq_true_iff.mp hb
   obtain ⟨b, c⟩ := Bool.and_eq_true_iff.mp b
   exact ⟨beq_iff_eq.mp a, not_dbg c, _, beq_iff_eq.mp b, hf, ok⟩
  obtain ⟨k, hm, e⟩ := lk_mem (show lk blL x = some b from h)
  subst e
  simp only [blL, blV, zipB, Bool.and_eq_true] at hz
  obtain ⟨z0, z1, z2, z3, z4, z5, z6, z7, z8, z9, z10, _⟩ := hz
  have hS : ∀ n m, sLenT n = m + 1 → (nmSf n).length = m + 1 ∧ m < 65536 := fun n m q => by
   unfold sLenT at q
   split at q
   · rename_i e; rw [Nat.eq_of_beq_eq_true e]; cases q; exact ⟨by decide +kernel, by decide⟩
   · split at q
     · rename_i e; rw [Nat.eq_of_beq_eq_true e]; cases q; exact ⟨by decide +kernel, by decide⟩
     · cases q
  simp only [blL, List.mem_cons, List.not_mem_nil, or_false, Prod.mk.injEq] at hm
  rcases hm with ⟨rfl, rfl⟩ | ⟨rfl, rfl⟩ | ⟨rfl, rfl⟩ | ⟨rfl, rfl⟩ | ⟨rfl, rfl⟩ | ⟨rfl, rfl⟩ | ⟨rfl, rfl⟩ | ⟨rfl, rfl⟩ | ⟨rfl, rfl⟩ | ⟨rfl, rfl⟩ | ⟨rfl, rfl⟩
  · exact get z0 (.inr ⟨_, rfl⟩) (blt_len hS)
  · exact get z1 (.inr ⟨_, rfl⟩) (blt_min hR)
  · exact get z2 (.inr ⟨_, rfl⟩) (blt_max hR)
  · exact get z3 (.inr ⟨_, rfl⟩) blt_sorted
  · exact get z4 (.inr ⟨_, rfl⟩) blt_sum
  · exact get z5 (.inr ⟨_, rfl⟩) (blt_divmod hR)
  · exact get z6 (.inl ⟨_, rfl⟩) blt_int
  · exact get z7 (.inl ⟨_, rfl⟩) (blt_bytes hR)
  · exact get z8 (.inl ⟨_, rfl⟩) blt_range
  · exact get z9 (.inl ⟨_, rfl⟩) blt_tuple
  · exact get z10 (.inl ⟨_, rfl⟩) (blt_dict ⟨1, boot_o_1 w.params, Nat.le_refl _, hH _ _ (obF_get (by kernel_rfl))⟩)
 ms := fun x m h => by
  obtain ⟨k, hm, e⟩ := lk_mem (show lk msL x = some m from h)
  subst e
  have n21 : (gl w ν H).nmS 21 = "r" := (by decide +kernel : nmSf 21 = Str.ofString "r")
  have n22 : (gl w ν H).nmS 22 = "s" := (by decide +kernel : nmSf 22 = Str.ofString "s")
  have n23 : (gl w ν H).nmS 23 = "big" := (by decide +kernel : nmSf 23 = Str.ofString "big")
  have n7 : (gl w ν H).nmS 7 = "ascii" := (by decide +kernel : nmSf 7 = Str.ofString "ascii")
  simp only [msL, List.mem_cons, List.not_mem_nil, or_false, Prod.mk.injEq] at hm
  rcases hm with ⟨rfl, rfl⟩ | ⟨rfl, rfl⟩ | ⟨rfl, rfl⟩ | ⟨rfl, rfl⟩ | ⟨rfl, rfl⟩ | ⟨rfl, rfl⟩ | ⟨rfl, rfl⟩ | ⟨rfl, rfl⟩
  · rw [show sOf 0x1617070656e64 = Str.ofString "append" from by decide +kernel]; exact mth_append
  · rw [show sOf 0x1706f70 = Str.ofString "pop" from by decide +kernel]; exact mth_pop fun z q => AI.eq_val q
  · rw [show sOf 0x1676574 = Str.ofString "get" from by decide +kernel]; exact mth_get hR (cy_gl ν hH)
  · rw [show sOf 0x1656e636f6465 = Str.ofString "encode" from by decide +kernel]; exact mth_encode n21 n22 n7 rfl rfl
  · rw [show sOf 0x169736173636969 = Str.ofString "isascii" from by decide +kernel]; exact mth_isascii n21 n22
  · rw [show sOf 0x16a6f696e = Str.ofString "join" from by decide +kernel]; exact mth_join
  · rw [show sOf 0x1746f5f6279746573 = Str.ofString "to_bytes" from by decide +kernel]; exact mth_to_bytes n23
  · rw [show sOf 0x1696e646578 = Str.ofString "index" from by decide +kernel]; exact mth_index hR (cy_gl ν hH)
omit hH in
theorem nthN_big : ∀ {l : List Nat} {n : Nat}, l.length ≤ n → nthN l n = 0 := by
 intro l
 induction l with
 | nil => exact fun V => rfl
 | cons a l ih =>
  intro n h
  cases n with
  | zero => exact absurd h (by simp)
  | succ n => exact ih (Nat.le_of_succ_le_succ h)
theorem funs_gl : FunsOk (gl w ν H) funT nms := fun f => by
 by_cases h : f < 164
 · exact fsAll ν hH f h
 · refine .inl (isZ_of ?_)
   rw [nthN_big (by show 164 ≤ f; omega)]; rfl
end
end Mst
end
section
namespace Mst
open PySem PySem.W PyProof.Rows PySem.Calls
theorem st1_ok : ∃ st1 st2, sBody (sM 2 0) = [st1, st2] ∧ InitSt ("Exception" : PySem.Str) st1 ∧ KeepSt xMsg st2 := ⟨_, _, rfl, ⟨_, _, _, _, _, _, rfl, rfl⟩, ⟨_, _, _, _, rfl⟩⟩
theorem st2_ok : ∃ st1 st2, sBody (sM 6 0) = [st1, st2] ∧ InitSt ("SwitchError" : PySem.Str) st1 ∧ KeepSt xRow st2 := ⟨_, _, rfl, ⟨_, _, _, _, _, _, rfl, rfl⟩, ⟨_, _, _, _, rfl⟩⟩
section
variable {w : World} (ν : Nat → Int) {H : Heap} (hH : Ext w H)
noncomputable def dI1 : FDef := ⟨[1, 82], .nil, .bad⟩
noncomputable def dI2 : FDef := ⟨[1, 82, 7], .cons (.cons (.int (.lit (.ofNat 7))) (.int (.lit 0))) .nil, .bad⟩
noncomputable def excB (w : World) (C : Nat) : Bool := findIn (KF w.params) (.ref C) "__setattr__" == some (some (.builtin "object.__setattr__")) && (subIn (KF w.params) (.ref C) (.type "object") == some true && (findIn (KF w.params) (.ref C) xMsg == some none &&
 (findIn (KF w.params) (.ref C) xRow == some none && keepIn (KF w.params) (.ref C))))
theorem exc_all (w : World) : (excB w 51 && excB w 95) = true := by kernel_rfl
theorem chain_ok : TailB "Exception" [.ref 38, .type "Exception", .type "BaseException", .type "object"] := ⟨by decide +kernel, by decide +kernel, by decide +kernel, by decide +kernel⟩
theorem chain_pass (e : Addr) : refuseLoop (.ref e) "__setattr__" [.ref 38, .type "Exception", .type "BaseException", .type "object"] = pure () := by
 rw [refuseLoop_ref]; exact F.store_Exception.passes _
include hH
theorem init1_gl : ∃ fd body, Init1 (gl w ν H) 1 dI1 fd body := by
 obtain ⟨S, k⟩ := FnS_of (ν := ν) hH (f := 1) (D := dI1) (o := o35) (b := sBody (sM 2 0)) (by kernel_rfl) rfl rfl (by kernel_rfl)
 have gx : (nsIn (KF w.params) mainGlobals ("Exception" : PySem.Str) == some none && nsIn (KF w.params) builtinsNs ("Exception" : PySem.Str) == some (some (.type "Exception"))) = true := by kernel_rfl
 obtain ⟨g1, g2⟩ := Bool.and_eq_true_iff.mp gx
 exact ⟨_, _, { S := S, ps := (by decide +kernel : ([1, 82] : List Nat).map nmVf = [xSelf, xMsg]), ls := ⟨by kernel_rfl, by kernel_rfl⟩, lx := (by kernel_rfl), df := rfl, bd := st1_ok, gx := ⟨beq_iff_eq.mp g1, beq_iff_eq.mp g2⟩ }⟩
theorem init2_gl : ∃ fd body, Init2 (gl w ν H) 1 2 dI2 fd body 38 := by
 obtain ⟨S, k⟩ := FnS_of (ν := ν) hH (f := 2) (D := dI2) (o := o92) (b := sBody (sM 6 0)) (by kernel_rfl) rfl rfl (by kernel_rfl)
 have gx : (nsIn (KF w.params) mainGlobals ("SwitchError" : PySem.Str) == some (some (.ref 38)) && (specialIn (KF w.params) (.ref 38) "__getattribute__" == some (some (.builtin "type.__getattribute__")) && (readsIn (KF w.params) 38 (.type "type") && keepIn (KF w.params) (.ref 35)))) = true := by kernel_rfl
 obtain ⟨g1, g2⟩ := Bool.and_eq_true_iff.mp gx
 obtain ⟨g2, g3⟩ := Bool.and_eq_true_iff.mp g2
 obtain ⟨g3, g4⟩ := Bool.and_eq_true_iff.mp g3
 exact ⟨_, _, { S := S, ps := (by decide +kernel : ([1, 82, 7] : List Nat).map nmVf = [xSelf, xMsg, xRow]), ls := ⟨by kernel_rfl, by kernel_rfl, by kernel_rfl⟩, lx := (by kernel_rfl), df := ⟨_, o85, _, _, rfl, hH _ _ <| obF_get (by kernel_rfl), rfl⟩, bd := st2_ok, gx := beq_iff_eq.mp g1, at1 := ⟨beq_iff_eq.mp g2, g3, by kernel_rfl, g4⟩ }⟩
theorem raise12 : RaiseAt (gl w ν H) 12 ("FormError" : PySem.Str) 1 := by
 obtain ⟨h, _⟩ := Bool.and_eq_true_iff.mp (exc_all w)
 unfold excB at h
 simp only [Bool.and_eq_true, beq_iff_eq] at h
 obtain ⟨a1, a2, a3, a4, a5⟩ := h
 have EC : ExcC (gl w ν H) 51 := ⟨⟨_, _, _, _, _, _, _, _, _, _, _, _, _, _, _, hH _ _ <| obF_get (o := o51) (by kernel_rfl), chain_ok, chain_pass⟩, a1, a2⟩
 obtain ⟨fd, body, I⟩ := init1_gl ν hH
 exact ⟨by kernel_rfl, by decide +kernel, EC, a5, by kernel_rfl, ⟨o35, hH _ _ <| obF_get (by kernel_rfl), rfl⟩, fun X st hr nH x h => init1_ok (cx_gl ν hH) (lim_gl ν hH) I X st (by omega) EC a3 nH x fun h' tk' dx q1 V V V q5 => h h' tk' dx q1 q5⟩
theorem raise15 : RaiseAt (gl w ν H) 15 ("SettingError" : PySem.Str) 2 := by
 obtain ⟨_, h⟩ := Bool.and_eq_true_iff.mp (exc_all w)
 unfold excB at h
 simp only [Bool.and_eq_true, beq_iff_eq] at h
 obtain ⟨a1, a2, a3, a4, a5⟩ := h
 have EC : ExcC (gl w ν H) 95 := ⟨⟨_, _, _, _, _, _, _, _, _, _, _, _, _, _, _, hH _ _ <| obF_get (o := o95) (by kernel_rfl), chain_ok, chain_pass⟩, a1, a2⟩
 obtain ⟨fd1, body1, I1⟩ := init1_gl ν hH
 obtain ⟨fd, body, I⟩ := init2_gl ν hH
 exact ⟨by kernel_rfl, by decide +kernel, EC, a5, by kernel_rfl, ⟨o92, hH _ _ <| obF_get (by kernel_rfl), rfl⟩, fun X st hr nH x h => init2_ok (cx_gl ν hH) (lim_gl ν hH) I1 I X st hr EC a3 a4 nH x h⟩
omit hH in
theorem RaiseAt.exc {G : Gl} {c : Nat} {x : PySem.Str} {f : Nat} (R : RaiseAt G c x f) : ExcAt G c x := by
 obtain ⟨nm, q, N, bs, bm, sn, sub, ab, col, dd, k0, k1, k2, k3, k5, hC, T, _⟩ := R.EC.obj
 exact ⟨R.gx, R.dbg, nm, q, N, bs, bm, true, sn, sub, ab, col, dd, k0, k1, k2, k3, k5, _, hC, T.hasBase⟩
theorem ex_cases {c : Nat} {x : PySem.Str} (h : nms.ex x = some c) : ∃ f, RaiseAt (gl w ν H) c x f := by
 obtain ⟨k, hm, e⟩ := lk_mem (show lk exL x = some c from h)
 subst e
 simp only [exL, List.mem_cons, List.not_mem_nil, or_false, Prod.mk.injEq] at hm
 rcases hm with ⟨rfl, rfl⟩ | ⟨rfl, rfl⟩
 · rw [show sOf 0x1466f726d4572726f72 = Str.ofString "FormError" from by decide +kernel]; exact ⟨_, raise12 ν hH⟩
 · rw [show sOf 0x153657474696e674572726f72 = Str.ofString "SettingError" from by decide +kernel]; exact ⟨_, raise15 ν hH⟩
theorem bunX_gl : BunX (G := gl w ν H) nms.ex (ZeX (gl w ν H)) (ZsX (gl w ν H)) where
 raise := fun c x sc kx n np cp a k p1 p2 h hx V => by
  obtain ⟨f, R⟩ := ex_cases ν hH h
  exact raise_ok (cx_gl ν hH) R hx
 try' := fun c x sc kx n np hp p s hb exb exh h hx V hne hbd hhd => by
  obtain ⟨f, R⟩ := ex_cases ν hH h
  exact try_ok (cx_gl ν hH) R.exc hx hne hbd hhd
theorem calls_gl {R : Orc} (hR : OrcOk ν R) (d : Nat) : HOk (gl w ν H) (ZeX (gl w ν H) noK) funT (callN tabs R funT d noK) d :=
 callN_ok (bun_gl ν hH hR) (bunX_gl ν hH) (fun V V V V V V => ZeX_no) (lim_gl ν hH) (funs_gl ν hH) d noK
end
end Mst
end
section
namespace Mst
abbrev sy (n : Nat) : AI := .sym n
abbrev li (n : Nat) : AI := .lit (.ofNat n)
abbrev ai (a : AI) : AV := .int a
noncomputable def xR (x b : Nat) (r : Orc) : Orc :=
 .cons 6 (sy x) (li 24) (ai (sy b)) <| .cons 7 (sy b) (li 255) (ai (sy b)) <| .cons 6 (sy x) (li 16) (ai (sy (b + 1))) <| .cons 7 (sy (b + 1)) (li 255) (ai (sy (b + 3))) <|
 .cons 6 (sy x) (li 8) (ai (sy (b + 2))) <| .cons 7 (sy (b + 2)) (li 255) (ai (sy (b + 4))) <| .cons 6 (sy x) (li 0) (ai (sy x)) <| .cons 7 (sy x) (li 255) (ai (sy (b + 5))) <|
 .cons 8 (li 0) (sy b) (ai (sy b)) <| .cons 5 (sy b) (li 8) (ai (sy (b + 6))) <| .cons 8 (sy (b + 6)) (sy (b + 3)) (ai (sy (b + 1))) <| .cons 5 (sy (b + 1)) (li 8) (ai (sy (b + 7))) <|
 .cons 8 (sy (b + 7)) (sy (b + 4)) (ai (sy (b + 2))) <| .cons 5 (sy (b + 2)) (li 8) (ai (sy (b + 8))) <| .cons 8 (sy (b + 8)) (sy (b + 5)) (ai (sy x)) <|
 .cons 11 (li 0) (sy x) (.bool true) <| .cons 10 (sy x) (li 4294967296) (.bool true) <|
 .cons 11 (li 0) (sy b) (.bool true) <| .cons 11 (sy b) (li 255) (.bool true) <| .cons 11 (li 0) (sy (b + 3)) (.bool true) <| .cons 11 (sy (b + 3)) (li 255) (.bool true) <|
 .cons 11 (li 0) (sy (b + 4)) (.bool true) <| .cons 11 (sy (b + 4)) (li 255) (.bool true) <| .cons 11 (li 0) (sy (b + 5)) (.bool true) <| .cons 11 (sy (b + 5)) (li 255) (.bool true) r
noncomputable def cR (beyond : Bool) : Orc :=
 .cons 1 (li 4294967295) (sy 1) (ai (sy 2)) <| .cons 0 (sy 2) (sy 0) (ai (sy 3)) <| .cons 10 (li 4294967295) (sy 3) (.bool beyond) <| xR 2 4 (match beyond with | true => .nil | false => xR 3 13 .nil)
noncomputable def isT (v : AV) (_ : St) : B := match v with | .bool b => b | _ => false
noncomputable def isF (v : AV) (_ : St) : B := match v with | .bool b => !b | _ => false
noncomputable def s00 : St := ⟨.e, .nil⟩
theorem kc1 : callN tabs (cR true) funT 30 noK 158 (.cons (.bool true) (.cons (ai (sy 0)) (.cons (ai (sy 1)) .nil))) .nil s00 isT = true := by decide +kernel
end Mst
end
section
namespace Mst
open PySem PySem.W
abbrev il (i : Int) : AV := .int (.lit i)
abbrev c1 (a : AV) : AV := .cons a .nil
abbrev c2 (a b : AV) : AV := .cons a (.cons b .nil)
noncomputable abbrev runT (f : Nat) (as : AV) : B := callN tabs .nil funT 30 noK f as .nil s00 isT
noncomputable abbrev runF (f : Nat) (as : AV) : B := callN tabs .nil funT 30 noK f as .nil s00 isF
theorem kr1 : runF 162 (c2 (il 0) (il 61440)) = true := by kernel_rfl
theorem kr2 : runT 162 (c2 (il 4096) (il 100)) = true := by kernel_rfl
theorem kr3 : runT 162 (c2 (il 65536) (il 0)) = true := by kernel_rfl
theorem kr4 : runT 162 (c2 (il (-4096)) (il 0)) = true := by kernel_rfl
theorem kr5 : runT 162 (c2 (il 0) (il 65536)) = true := by kernel_rfl
theorem kt1 : runT 161 (c1 (il 0)) = true := by kernel_rfl
theorem kt2 : runT 161 (c1 (il 4095)) = true := by kernel_rfl
theorem kt3 : runT 161 (c1 (il 4094)) = true := by kernel_rfl
theorem kt4 : runT 161 (c1 (il 1)) = true := by kernel_rfl
theorem ko1 : runT 160 (c1 (il 20)) = true := by kernel_rfl
theorem ko2 : runT 160 (c1 (il 19)) = true := by kernel_rfl
theorem ko3 : runT 160 (c1 (il 21)) = true := by kernel_rfl
theorem ko4 : runT 160 (c1 (il 0)) = true := by kernel_rfl
theorem kh1 : runT 159 (c2 (il 0) (.str 0)) = true := by kernel_rfl
theorem kh2 : runT 159 (c2 (il 1) (.str 0)) = true := by kernel_rfl
theorem kh3 : runT 159 (c2 (il 2) (.str 0)) = true := by kernel_rfl
theorem kh4 : runT 159 (c2 (il 0) (.str 4)) = true := by kernel_rfl
theorem kh5 : runT 159 (c2 (il 1) (.str 4)) = true := by kernel_rfl
theorem kh6 : runT 159 (c2 (il 2) (.str 4)) = true := by kernel_rfl
end Mst
end
section
namespace Mst
open PySem PySem.W
theorem kc2 : callN tabs (cR false) funT 30 noK 158 (.cons (.bool true) (.cons (ai (sy 0)) (.cons (ai (sy 1)) .nil))) .nil s00 isT = true := by kernel_rfl
theorem kc3 : callN tabs (cR true) funT 30 noK 158 (.cons (.bool false) (.cons (ai (sy 0)) (.cons (ai (sy 1)) .nil))) .nil s00 isT = true := by kernel_rfl
theorem kc4 : callN tabs (cR false) funT 30 noK 158 (.cons (.bool false) (.cons (ai (sy 0)) (.cons (ai (sy 1)) .nil))) .nil s00 isT = true := by kernel_rfl
end Mst
end
section
namespace Mst
open PySem PySem.W PyProof.Rows PySem.Calls
section
variable {w : World} {ν ν₀ : Nat → Int} {H : Heap} (hH : Ext w H)
abbrev rh0 : Rh := fun V => none
theorem notFr_data {o : Obj} (h : ¬ IsFr o) : o.cls = .type "frame" → ∀ es ep, o.data ≠ .dict es ep := fun h1 es ep h2 => h ⟨h1, es, ep, h2⟩
theorem Pst.of_pure {ρ ρ' : Rh} {σ σ' : St} {s s' : Shared} (P : Pst (gl w ν H) rh0 [] s ρ' s' σ') (X : SR (gl w ν₀ H) ρ σ s.heap) : Pst (gl w ν₀ H) ρ [] s ρ s' σ := by
 have nm : ∀ b, ¬ Mut rh0 b := fun b ⟨p, a, h⟩ => by cases h
 have ex : ∀ b o, s.heap.get? b = some o → ¬ IsFr o → s'.heap.get? b = some o := fun b o hb hn => by
  obtain ⟨sl, h1, h2⟩ := P.keep b o hb (nm b) (by simp)
  rw [h2 (notFr_data hn)] at h1; exact h1
 have tp : Tups s.heap s'.heap := fun b vs e => ex b _ e fun f => absurd (show Value.type "tuple" = .type "frame" from f.1) (by decide)
 refine ⟨P.rest, ⟨P.sr.base, fun p o hp => ?_, X.fresh, X.inj, X.apart, fun p b d hp => ?_⟩, Rle.refl _, fun V V V h => .inl h, fun b o hb V ho => P.keep b o hb (nm b) ho, P.live, tp, fun b hb o es ep ho hd => ?_⟩
 · obtain ⟨b, d, h1, h2⟩ := X.obj p o hp
   have nf := h2.notFr
   exact ⟨b, d, h1, h2.keeps (Rle.refl _) (fun ob e => ex b ob e (nf.1 ob e)) (fun ob e => ex d ob e (nf.2 ob e)) tp⟩
 · obtain ⟨o, ho⟩ := X.live p b d hp
   exact P.live _ o ho
 · obtain ⟨sl, h1, _⟩ := P.keep b o ho (nm b) (by simp)
   exact ⟨_, es, ep, h1, hd, Nat.le_refl _, fun V => rfl⟩
theorem Stk.bare {A : Around} {ρ ρ' : Rh} {h : Heap} (st : Stk (gl w ν₀ H) A ρ h) (q : ∀ b, Mut ρ' b → Mut ρ b) : Stk (gl w ν H) A ρ' h := by
 obtain ⟨l, hl, hh⟩ := st
 exact ⟨l, hl, fun e he => let ⟨hk, L, o, h1, h2, h3, h4, h5⟩ := hh e he; ⟨hk, L, o, h1, h2, h3, fun m => h4 (q _ m), h5⟩⟩
theorem SR.bare {ρ : Rh} {σ : St} {h : Heap} (X : SR (gl w ν₀ H) ρ σ h) : SR (gl w ν H) rh0 s00 h :=
 ⟨X.base, fun p o hp => (by cases p <;> cases hp), fun p x h => (by cases h), fun p q a b d h => (by cases h), fun p a d h => (by cases h), fun p a d h => (by cases h)⟩
theorem fine0 {G : Gl} {ps : List Nat} {n : Nat} : KwFine G ps [] n := ⟨List.nodup_nil, fun x hx => (by cases hx)⟩
include hH in
theorem run_ok {R : Orc} (hR : OrcOk ν R) {d f : Nat} {as : AV} {r : Bool} {K : AV → St → B} (hk : callN tabs R funT d noK f as .nil s00 K = true) (hK : ∀ v σ, K v σ = true → v = .bool r)
 {env : Env} {A : Around} {s : Shared} {ρ : Rh} {σ : St} {vs : List Value} (st : Stk (gl w ν₀ H) A ρ s.heap) (X : SR (gl w ν₀ H) ρ σ s.heap) (hv : V2 (gl w ν H) rh0 s.heap as vs) (Rh : RmH A d) :
 codeAny (model pw w) A (.call (.ref (nthN fnAL f)) ⟨vs, []⟩) (fun res s' => res = .ok (.ret (.bool r)) ∧ Pst (gl w ν₀ H) ρ [] s ρ s' σ) s := by
 refine codeAny_mono (calls_gl ν hH hR d f as .nil s00 K hk env A s rh0 vs [] (st.bare fun b ⟨p, a, h⟩ => (by cases h)) X.bare hv .nil fine0 Rh) fun res s' q => ?_
 rcases res with e | (v | _ | _ | _)
 · exact absurd q (ZeX_no (env := env))
 · exact q.elim
 · exact q.elim
 · exact q.elim
 · obtain ⟨a, σ', ρ', P, hv, hk⟩ := q
   obtain rfl := hK _ _ hk
   cases hv
   exact ⟨rfl, P.of_pure X⟩
noncomputable def litB : AV → Bool
 | .none => true
 | .bool _ => true
 | .str _ => true
 | .int i => (match i with | .lit _ => true | .sym _ => false)
 | .nil => true
 | .cons a l => litB a && litB l
 | _ => false
set_option tactic.hygienic true in
theorem VR.lits {G G' : Gl} {ρ ρ' : Rh} {h h' : Heap} (e : G.nmS = G'.nmS) {a : AV} {x : Value ⊕ List Value} (v : VR G ρ h a x) (q : litB a = true) : VR G' ρ' h' a x := by
 induction v with
 | none => exact .none
 | bool => exact .bool
 | int =>
  rename_i i t
  cases i with
  | lit i => exact .int (i := .lit i)
  | sym => cases q
 | str => rw [e]; exact .str
 | nil => exact .nil
 | cons _ _ i1 i2 =>
  obtain ⟨q1, q2⟩ := Bool.and_eq_true_iff.mp q
  exact .cons (i1 q1) (i2 q2)
 | byt => cases q
 | ref => cases q
 | kd => cases q
 | frl => cases q
 | tup => cases q
end
section
variable (w : World) (ν₀ : Nat → Int) (H : Heap)
noncomputable def HokAt (kx : Kx) (n f : Nat) (as ks : AV) (σ : St) (k : AV → St → B) : Prop := ∀ (env : Env) (A : Around) (s : Shared) (ρ : Rh) (vs : List Value) (kws : List (PySem.Str × Value)),
 Stk (gl w ν₀ H) A ρ s.heap → SR (gl w ν₀ H) ρ σ s.heap → V2 (gl w ν₀ H) ρ s.heap as vs → KwR (gl w ν₀ H) ρ s.heap ks kws → KwFine (gl w ν₀ H) (funT f).ps kws vs.length → RmH A n →
 codeAny (model pw w) A (.call (.ref (nthN fnAL f)) ⟨vs, kws⟩) (RC (G := gl w ν₀ H) ρ s k (ZeX (gl w ν₀ H) kx env A ρ s)) s
noncomputable def wH (n : Nat) : Kx → Nat → AV → AV → St → (AV → St → B) → B := fun kx f as ks σ k => @decide (HokAt w ν₀ H kx n f as ks σ k) (Classical.propDecidable _)
theorem wH_ok (n : Nat) (kx : Kx) : HOk (gl w ν₀ H) (ZeX (gl w ν₀ H) kx) funT (wH w ν₀ H n kx) n := fun f as ks σ k hk => @of_decide_eq_true _ (Classical.propDecidable _) hk
variable {w ν₀ H}
theorem wH_of {n f : Nat} {kx : Kx} {as ks : AV} {σ : St} {k : AV → St → B} (h : HokAt w ν₀ H kx n f as ks σ k) : wH w ν₀ H n kx f as ks σ k = true := @decide_eq_true _ (Classical.propDecidable _) h
theorem h_real (hH : Ext w H) {R : Orc} (hR : OrcOk ν₀ R) {n f : Nat} {as ks : AV} {σ : St} {k : AV → St → B} (h : callN tabs R funT n noK f as ks σ k = true) : wH w ν₀ H n noK f as ks σ k = true :=
 wH_of fun env A s ρ vs kws st X hv hkw fine Rh => calls_gl ν₀ hH hR n f as ks σ k h env A s ρ vs kws st X hv hkw fine Rh
theorem kwR_nil {G : Gl} {ρ : Rh} {h : Heap} {kws : List (PySem.Str × Value)} (x : KwR G ρ h .nil kws) : kws = [] := by cases x; rfl
theorem h_run (hH : Ext w H) {ν : Nat → Int} {R : Orc} (hR : OrcOk ν R) {d n f : Nat} {as as' : AV} {r : Bool} {K : AV → St → B} (hk : callN tabs R funT d noK f as' .nil s00 K = true) (hK : ∀ v σ, K v σ = true → v = .bool r) (hd : d ≤ n)
 (ha : ∀ ρ h vs, V2 (gl w ν₀ H) ρ h as vs → V2 (gl w ν H) rh0 h as' vs) {σ : St} {k : AV → St → B} (h : k (.bool r) σ = true) : wH w ν₀ H n noK f as .nil σ k = true :=
 wH_of fun env A s ρ vs kws st X hv hkw fine Rh => by
  obtain rfl := kwR_nil hkw
  refine codeAny_mono (run_ok hH (env := env) hR hk hK st X (ha _ _ _ hv) ⟨Rh.handled, by have := Rh.depth; omega, by have := Rh.units; omega⟩) fun res s' q => ?_
  obtain ⟨rfl, P⟩ := q
  exact ⟨.bool r, σ, ρ, P, .bool, h⟩
end
end Mst
end
section
namespace Mst
open PySem PySem.W PyProof.Rows PySem.Calls
noncomputable def f153 : FDef := ⟨[13, 68], .nil, (.cons (.iff (.cmp 1 (.sub (.loc 13) (.cst (.int (.lit 2)))) (.lst .nil)) (.cons (.ret (.bin 3 (.cS 1 (.sub (.loc 13) (.cst (.int (.lit 2)))) (.cons (.cst (.int (.lit 0))) .nil)) (.loc 68))) .nil) .nil) (.cons (.iff (.cmp 4 (.sub (.loc 13) (.cst (.int (.lit 0)))) (.cst (.int (.lit 0)))) (.cons (.asn (.tName 123) (.bin 3 (.sub (.loc 13) (.cst (.int (.lit 0)))) (.loc 68))) (.cons (.asn (.tSub (.loc 13) (.cst (.int (.lit 0)))) (.bin 4 (.sub (.loc 13) (.cst (.int (.lit 0)))) (.loc 68))) (.cons (.ret (.loc 123)) .nil))) .nil) (.cons (.asn (.tSub (.loc 13) (.cst (.int (.lit 1)))) (.bin 3 (.bin 0 (.bin 2 (.sub (.loc 13) (.cst (.int (.lit 1)))) (.cst (.int (.lit 39373)))) (.cst (.int (.lit 7)))) (.cst (.int (.lit 2147483647))))) (.cons (.ret (.bin 3 (.bin 4 (.bin 3 (.bin 2 (.sub (.loc 13) (.cst (.int (.lit 1)))) (.sub (.loc 13) (.cst (.int (.lit 1))))) (.cst (.int (.lit 2147483629)))) (.cst (.int (.lit 32)))) (.loc 68))) .nil))))⟩
theorem e153 : funT 153 = f153 := by kernel_rfl
noncomputable def f154 : FDef := ⟨[13, 124], .nil, (.cons (.ret (.sub (.loc 124) (.cF 153 (.cons (.loc 13) (.cons (.cB 0 (.cons (.loc 124) .nil)) .nil)) .nil))) .nil)⟩
theorem e154 : funT 154 = f154 := by kernel_rfl
noncomputable def f163 : FDef := ⟨[60], .nil, (.cons (.iff (.not (.cF 158 (.cons (.cst (.bool true)) (.cons (.cst (.int (.lit 10))) (.cons (.cst (.int (.lit 0))) .nil))) .nil)) (.cons (.ret (.cst (.bool false))) .nil) .nil) (.cons (.for_ (.tTup (.cons (.tName 41) (.cons (.tName 57) (.cons (.tName 43) .nil)))) (.lst (.cons (.tup (.cons (.cst (.int (.lit 0))) (.cons (.cst (.int (.lit 61440))) (.cons (.cst (.bool false)) .nil)))) (.cons (.tup (.cons (.cst (.int (.lit 4096))) (.cons (.cst (.int (.lit 100))) (.cons (.cst (.bool true)) .nil)))) (.cons (.tup (.cons (.cst (.int (.lit 65536))) (.cons (.cst (.int (.lit 0))) (.cons (.cst (.bool true)) .nil)))) (.cons (.tup (.cons (.neg (.cst (.int (.lit 4096)))) (.cons (.cst (.int (.lit 0))) (.cons (.cst (.bool true)) .nil)))) (.cons (.tup (.cons (.cst (.int (.lit 0))) (.cons (.cst (.int (.lit 65536))) (.cons (.cst (.bool true)) .nil)))) .nil)))))) (.cons (.iff (.cmp 1 (.cF 162 (.cons (.loc 41) (.cons (.loc 57) .nil)) .nil) (.loc 43)) (.cons (.ret (.cst (.bool false))) .nil) .nil) .nil)) (.cons (.asn (.tName 13) (.cF 152 (.cons (.loc 60) (.cons (.lst (.cons (.cst (.int (.lit 1))) (.cons (.cst (.int (.lit 0))) (.cons (.cst (.int (.lit 0))) (.cons (.cst (.int (.lit 0))) (.cons (.cst (.int (.lit 0))) .nil)))))) .nil)) .nil)) (.cons (.for_ (.tName 81) (.cB 8 (.cons (.ife (.cmp 0 (.loc 60) (.lst .nil)) (.cst (.int (.lit 1))) (.cst (.int (.lit 2)))) .nil)) (.cons (.asn (.tName 70) (.cF 153 (.cons (.loc 13) (.cons (.cst (.int (.lit 4))) .nil)) .nil)) (.cons (.iff (.cmp 0 (.loc 70) (.cst (.int (.lit 0)))) (.cons (.asn (.tName 61) (.cF 158 (.cons (.cmp 0 (.cF 153 (.cons (.loc 13) (.cons (.cst (.int (.lit 2))) .nil)) .nil) (.cst (.int (.lit 0)))) (.cons (.bin 0 (.cst (.int (.lit 1))) (.cF 153 (.cons (.loc 13) (.cons (.cst (.int (.lit 200))) .nil)) .nil)) (.cons (.cF 153 (.cons (.loc 13) (.cons (.cst (.int (.lit 300))) .nil)) .nil) .nil))) .nil)) .nil) (.cons (.iff (.cmp 0 (.loc 70) (.cst (.int (.lit 1)))) (.cons (.asn (.tName 61) (.cF 159 (.cons (.cF 153 (.cons (.loc 13) (.cons (.cst (.int (.lit 3))) .nil)) .nil) (.cons (.cF 154 (.cons (.loc 13) (.cons (.lst (.cons (.cst (.str 0)) (.cons (.cst (.str 4)) .nil))) .nil)) .nil) .nil)) .nil)) .nil) (.cons (.iff (.cmp 0 (.loc 70) (.cst (.int (.lit 2)))) (.cons (.asn (.tName 61) (.cF 160 (.cons (.cF 154 (.cons (.loc 13) (.cons (.lst (.cons (.cst (.int (.lit 20))) (.cons (.cst (.int (.lit 19))) (.cons (.cst (.int (.lit 21))) (.cons (.cst (.int (.lit 0))) .nil))))) .nil)) .nil) .nil) .nil)) .nil) (.cons (.asn (.tName 61) (.cF 161 (.cons (.cF 154 (.cons (.loc 13) (.cons (.lst (.cons (.cst (.int (.lit 0))) (.cons (.cst (.int (.lit 4095))) (.cons (.cst (.int (.lit 4094))) (.cons (.cst (.int (.lit 1))) .nil))))) .nil)) .nil) .nil) .nil)) .nil)) .nil)) .nil)) (.cons (.iff (.not (.loc 61)) (.cons (.ret (.cst (.bool false))) .nil) .nil) .nil)))) (.cons (.ret (.cst (.bool true))) .nil)))))⟩
theorem e163 : funT 163 = f163 := by kernel_rfl
theorem callN_s {T : Tabs} {R : Orc} {F : Nat → FDef} {d : Nat} {kx : Kx} {f : Nat} {D : FDef} {as ks : AV} {s : St} {k : AV → St → B} (e : F f = D) (h : bindK D.ps as ks D.ds (fun l => exc T R (ev T R (callN T R F d noK) fun V V V V => false) (callN T R F d) D.body kx l s (fun V s => k .none s) k (fun V V => false)) = true) : callN T R F (d + 1) kx f as ks s k = true := by
 subst e; exact h
abbrev lt (i : Int) : AV := .int (.lit i)
abbrev l3 (a b c : AV) : AV := .cons a (.cons b (.cons c .nil))
noncomputable def sm (X Y : Int) : St := ⟨.r .e, .node (.list (l3 (lt X) (lt Y) (.ref (.l .e)))) (.node (.list .nil) .nil .nil) .nil⟩
theorem sml_nat {m : Nat} {k : B} (h : m ≤ 18446744073709551615) : sml (.ofNat m) k = k := by
 show ifB (Nat.ble m 18446744073709551615) k false = k
 rw [Nat.ble_eq.mpr h]; rfl
theorem sml_int {x : Int} {k : B} (h0 : 0 ≤ x) (h : x ≤ 18446744073709551615) : sml x k = k := by
 obtain ⟨m, rfl⟩ := Int.eq_ofNat_of_zero_le h0
 exact sml_nat (by omega)
theorem mulL {x : Int} {m : Nat} {k : AV → B} (h : m ≤ 18446744073709551615) : opL 2 x (Int.ofNat m) k = k (lt (x * Int.ofNat m)) := by
 show (match sml x true with | true => kI k (x * Int.ofNat m) | false => sml (.ofNat m) (kI k (x * Int.ofNat m))) = _
 rw [sml_nat h]
 cases sml x true <;> rfl
theorem mulS {x y : Int} {k : AV → B} (h0 : 0 ≤ x) (h : x ≤ 18446744073709551615) : opL 2 x y k = k (lt (x * y)) := by
 show (match sml x true with | true => kI k (x * y) | false => _) = _
 rw [sml_int h0 h]
theorem addL {x y : Int} {k : AV → B} : opL 0 x y k = k (lt (x + y)) := rfl
theorem modL {x : Int} {m : Nat} {k : AV → B} : opL 3 x (Int.ofNat (m + 1)) k = k (lt (Int.fmod x (Int.ofNat (m + 1)))) := rfl
theorem fmod_bd (x : Int) (t : Nat) : 0 ≤ Int.fmod x (Int.ofNat (t + 1)) ∧ Int.fmod x (Int.ofNat (t + 1)) < (t : Int) + 1 := by
 have e : (Int.ofNat (t + 1)) = (t : Int) + 1 := by show ((t + 1 : Nat) : Int) = _; omega
 rw [Int.fmod_eq_emod_of_nonneg _ (by rw [e]; omega), e]
 exact ⟨Int.emod_nonneg _ (by omega), Int.emod_lt_of_pos _ (by omega)⟩
theorem take_eval {X Y : Int} {t n : Nat} {K : AV → St → B} (ht : t < 400) (h : ∀ A B r σ, 0 ≤ r → r < (t : Int) + 1 → σ.h.get .e = some (.list (l3 (lt A) (lt B) (.ref (.l .e)))) → σ.h.get (.l .e) = some (.list .nil) → K (lt r) σ = true) :
 callN tabs .nil funT (n + 1) noK 153 (.cons (.ref .e) (.cons (.int (.lit (.ofNat (t + 1)))) .nil)) .nil (sm X Y) K = true := by
 refine callN_s e153 ?_
 show tstK (.bool (ltI 0 X)) _ _ = true
 cases ltI 0 X with
 | true =>
  show sml (.ofNat (t + 1)) _ = true
  rw [sml_nat (by omega)]
  show K (lt (Int.fmod X (Int.ofNat (t + 1)))) _ = true
  exact h _ _ _ _ (fmod_bd X t).1 (fmod_bd X t).2 rfl rfl
 | false =>
  show opL 2 Y (Int.ofNat 39373) _ = true
  rw [mulL (by decide)]
  dsimp only [ev, evCst, evBin, binK, opI, intK]
  rw [addL]
  dsimp only [intK]
  rw [show ∀ x k, opL 3 x 2147483647 k = k (lt (Int.fmod x (Int.ofNat (2147483646 + 1)))) from fun V V => rfl]
  have b := fmod_bd (Y * Int.ofNat 39373 + 7) 2147483646
  generalize Int.fmod (Y * Int.ofNat 39373 + 7) (Int.ofNat (2147483646 + 1)) = Z at b ⊢
  show opL 2 Z Z _ = true
  rw [mulS b.1 (by have := b.2; omega)]
  dsimp only [ev, evCst, evBin, binK, opI, intK]
  rw [show ∀ x k, opL 3 x 2147483629 k = k (lt (Int.fmod x 2147483629)) from fun V V => rfl]
  generalize Int.fmod (Z * Z) 2147483629 = U
  show K (lt (Int.fmod (Int.fdiv U 32) (Int.ofNat (t + 1)))) _ = true
  exact h _ _ _ _ (fmod_bd _ t).1 (fmod_bd _ t).2 rfl rfl
end Mst
end
section
namespace Mst
open PySem PySem.W PyProof.Rows PySem.Calls
noncomputable def rm (a b : Addr) (p : Pth) : Option (Addr × Addr) := Pth.rec (motive := fun V => Option (Addr × Addr)) (some (a, a)) (fun p V => Pth.rec (motive := fun V => Option (Addr × Addr)) (some (b, b)) (fun V V => none) (fun V V => none) p) (fun V V => none) p
theorem rm_some {a b : Addr} {p : Pth} {x : Addr × Addr} (h : rm a b p = some x) : (p = .e ∧ x = (a, a)) ∨ (p = .l .e ∧ x = (b, b)) := by
 cases p with
 | e => exact .inl ⟨rfl, (Option.some.inj h).symm⟩
 | r p => exact nomatch (show none = some x from h)
 | l p =>
  cases p with
  | e => exact .inr ⟨rfl, (Option.some.inj h).symm⟩
  | _ => exact nomatch (show none = some x from h)
theorem rm_mut {a b d : Addr} (h : Mut (rm a b) d) : d = a ∨ d = b := by
 obtain ⟨p, x, h⟩ := h
 rcases rm_some h with ⟨_, e⟩ | ⟨_, e⟩ <;> cases e
 · exact .inl rfl
 · exact .inr rfl
section
variable {w : World} {ν₀ : Nat → Int} {H : Heap} (hH : Ext w H)
theorem Pst.two {G : Gl} {ρ ρ' : Rh} {σ σ' : St} {s s' : Shared} {a b : Addr} {p q : Pth} {o1 : AO} {t' : HT} (P : Pst G (rm a b) [] s ρ' s' σ') (X : SR G ρ σ s.heap) (hp : ρ p = some (a, a)) (hq : ρ q = some (b, b))
 (la : ∃ vs n, s.heap.get? a = some (listOf vs n)) (lb : ∃ vs n, s.heap.get? b = some (listOf vs n)) (la' : ∃ vs n, s'.heap.get? a = some (listOf vs n)) (lb' : ∃ vs n, s'.heap.get? b = some (listOf vs n)) (t1 : t'.get p = some o1) (t2 : ∀ r, r ≠ p → t'.get r = σ.h.get r)
 (h1 : OR G ρ s'.heap a a o1) (h2 : ∀ o, σ.h.get q = some o → OR G ρ s'.heap b b o) : Pst G ρ [] s ρ s' ⟨σ.n, t'⟩ := by
 obtain ⟨va, na, ga⟩ := la
 obtain ⟨vb, nb, gb⟩ := lb
 have ex : ∀ c o, s.heap.get? c = some o → c ≠ a → c ≠ b → ¬ IsFr o → s'.heap.get? c = some o := fun c o hc n1 n2 hn => by
  obtain ⟨sl, h1, h2⟩ := P.keep c o hc (fun m => (rm_mut m).elim n1 n2) (by simp)
  rw [h2 (notFr_data hn)] at h1; exact h1
 have nl : ∀ {c o}, s.heap.get? c = some o → (∀ vs n, o ≠ listOf vs n) → c ≠ a ∧ c ≠ b := fun hc hn => ⟨fun e => by rw [e, ga] at hc; exact hn _ _ (Option.some.inj hc).symm, fun e => by rw [e, gb] at hc; exact hn _ _ (Option.some.inj hc).symm⟩
 have tp : Tups s.heap s'.heap := P.tups
 refine ⟨P.rest, ⟨P.sr.base, fun r o hr => ?_, X.fresh, X.inj, X.apart, fun p b d hp => ?_⟩, Rle.refl _, fun V V V h => .inl h, fun c o hc hm V => P.keep c o hc (fun m => ?_) (by simp), P.live, tp, fun c hc o es ep ho hd => ?_⟩
 · by_cases e : r = p
   · subst e; rw [t1] at hr; cases hr; exact ⟨a, a, hp, h1⟩
   · rw [t2 r e] at hr
     by_cases e2 : r = q
     · subst e2; exact ⟨b, b, hq, h2 o hr⟩
     · obtain ⟨c, d, g1, g2⟩ := X.obj r o hr
       have nd : d ≠ a ∧ d ≠ b := ⟨fun z => e (X.inj r p c a a (z ▸ g1) hp), fun z => e2 (X.inj r q c b b (z ▸ g1) hq)⟩
       have nf := g2.notFr
       have nc : ∀ ob, s.heap.get? c = some ob → c ≠ a ∧ c ≠ b := fun ob hob => by
        cases g2 with
        | list e _ _ _ => exact e ▸ nd
        | dictI e _ _ _ _ _ => exact e ▸ nd
        | dictS e _ _ _ _ _ => exact e ▸ nd
        | inst _ g1 _ _ _ _ => rw [g1] at hob; cases hob; exact nl g1 fun vs n z => by cases z
        | range e _ => exact e ▸ nd
       exact ⟨c, d, g1, g2.keeps (Rle.refl _) (fun ob hob => ex c ob hob (nc ob hob).1 (nc ob hob).2 (nf.1 ob hob)) (fun ob hob => ex d ob hob nd.1 nd.2 (nf.2 ob hob)) tp⟩
 · obtain ⟨o, ho⟩ := X.live p b d hp
   exact P.live _ o ho
 · rcases rm_mut m with e | e
   · exact hm ⟨p, a, e ▸ hp⟩
   · exact hm ⟨q, b, e ▸ hq⟩
 · by_cases e : c = a
   · rw [e, ga] at ho; cases ho; cases hd
   · by_cases e2 : c = b
     · rw [e2, gb] at ho; cases ho; cases hd
     · obtain ⟨sl, g1, _⟩ := P.keep c o ho (fun m => (rm_mut m).elim e e2) (by simp)
       exact ⟨_, es, ep, g1, hd, Nat.le_refl _, fun V => rfl⟩
inductive L3I (G : Gl) (ρ : Rh) (x y : AI) (q : Pth) (vs : List Value) : Prop
 | mk (tx ty : Tok) (b d : Addr) : vs = [.int (x.val G.ν) tx, .int (y.val G.ν) ty, .ref b] → ρ q = some (b, d) → L3I G ρ x y q vs
theorem l3_inv {G : Gl} {ρ : Rh} {h : Heap} {x y : AI} {q : Pth} {vs : List Value} (v : V2 G ρ h (l3 (.int x) (.int y) (.ref q)) vs) : L3I G ρ x y q vs := by
 obtain ⟨v1, r, rfl, h1, h4⟩ := v.inv
 obtain ⟨v2, v3, rfl, h2, h3⟩ := args2 h4
 obtain ⟨tx, rfl⟩ := h1.int_inv
 obtain ⟨ty, rfl⟩ := h2.int_inv
 obtain ⟨b, d, rfl, e⟩ := h3.ref_inv
 exact ⟨tx, ty, b, d, rfl, e⟩
theorem sm_sr {G : Gl} {ρ : Rh} {σ : St} {h : Heap} {p q : Pth} {a b : Addr} {x y : Int} {tx ty : Tok} {c cq : Nat} (X : SR G ρ σ h) (hr : ρ p = some (a, a)) (hq : ρ q = some (b, b)) (g : h.get? a = some (listOf [.int x tx, .int y ty, .ref b].toArray c)) (gq : h.get? b = some (listOf #[] cq)) :
 SR G (rm a b) (sm x y) h := by
 have ne : a ≠ b := fun e => by rw [e, gq] at g; cases g
 have oa : OR G (rm a b) h a a (.list (l3 (lt x) (lt y) (.ref (.l .e)))) := .list rfl g (.cons (.int (i := .lit _)) (.cons (.int (i := .lit _)) (.cons (.ref rfl) .nil))) (show 3 ≤ 65536 by decide)
 have ob : OR G (rm a b) h b b (.list .nil) := .list (vs := []) rfl gq .nil (by decide)
 refine ⟨X.base, fun r o hr' => ?_, fun r x hx => ?_, fun r1 r2 x1 x2 d1 e1 e2 => ?_, fun r x1 x2 e => ?_, fun r x1 x2 e => ?_⟩
 · cases r with
   | e => exact ⟨a, a, rfl, Option.some.inj hr' ▸ oa⟩
   | r r => cases r <;> exact nomatch (show none = some o from hr')
   | l r => cases r with
    | e => exact ⟨b, b, rfl, Option.some.inj hr' ▸ ob⟩
    | l r => cases r <;> exact nomatch (show none = some o from hr')
    | r r => cases r <;> exact nomatch (show none = some o from hr')
 · rcases rm_some hx with ⟨rfl, _⟩ | ⟨rfl, _⟩
   · exact (show pIdx .e < pIdx (.r .e) by decide)
   · exact (show pIdx (.l .e) < pIdx (.r .e) by decide)
 · rcases rm_some e1 with ⟨rfl, z1⟩ | ⟨rfl, z1⟩ <;> rcases rm_some e2 with ⟨rfl, z2⟩ | ⟨rfl, z2⟩
   · rfl
   · exact absurd ((show d1 = a from congrArg Prod.snd z1).symm.trans (show d1 = b from congrArg Prod.snd z2)) ne
   · exact absurd ((show d1 = a from congrArg Prod.snd z2).symm.trans (show d1 = b from congrArg Prod.snd z1)) ne
   · rfl
 · rcases rm_some e with ⟨rfl, z1⟩ | ⟨rfl, z1⟩
   · cases z1; exact X.apart _ _ _ hr
   · cases z1; exact X.apart _ _ _ hq
 · rcases rm_some e with ⟨rfl, z1⟩ | ⟨rfl, z1⟩
   · cases z1; exact ⟨_, g⟩
   · cases z1; exact ⟨_, gq⟩
inductive TwI (h : Heap) (a b : Addr) (x y : Int) : Prop
 | mk (tx ty : Tok) (c cq : Nat) : h.get? a = some (listOf [.int x tx, .int y ty, .ref b].toArray c) → h.get? b = some (listOf #[] cq) → TwI h a b x y
theorem sm_out {G : Gl} {ρ' : Rh} {σ' : St} {s s' : Shared} {a b : Addr} {x y : Int} (P : Pst G (rm a b) [] s ρ' s' σ') (h2 : σ'.h.get .e = some (.list (l3 (lt x) (lt y) (.ref (.l .e))))) (h3 : σ'.h.get (.l .e) = some (.list .nil)) : TwI s'.heap a b x y := by
 have rb := P.le _ _ (show rm a b (.l .e) = some (b, b) from rfl)
 obtain ⟨vl, c2, _, g2, hl2, _⟩ := P.sr.list h2 (P.le _ _ (show rm a b .e = some (a, a) from rfl))
 obtain ⟨vq, c3, _, g3, hl3, _⟩ := P.sr.list h3 rb
 obtain ⟨tx, ty, b2, d2, rfl, e2⟩ := l3_inv hl2
 cases (hl3.inv : vq = [])
 rw [rb] at e2
 cases e2
 exact ⟨tx, ty, c2, c3, g2, g3⟩
noncomputable def Km (t : Nat) (v : AV) (σ' : St) : B := @decide (∃ A B r : Int, v = lt r ∧ 0 ≤ r ∧ r < (t : Int) + 1 ∧ σ'.h.get .e = some (.list (l3 (lt A) (lt B) (.ref (.l .e)))) ∧ σ'.h.get (.l .e) = some (.list .nil)) (Classical.propDecidable _)
include hH in
theorem h153 {n t : Nat} {p q : Pth} {x y : AI} {σ : St} {k : AV → St → B} (ht : t < 400) (hp : σ.h.get p = some (.list (l3 (.int x) (.int y) (.ref q)))) (hq : σ.h.get q = some (.list .nil))
 (h : ∀ A B r : Int, 0 ≤ r → r < (t : Int) + 1 → HT.setK p σ.h (.list (l3 (lt A) (lt B) (.ref q))) (fun hh => k (lt r) ⟨σ.n, hh⟩) = true) :
 wH w ν₀ H (n + 1) noK 153 (.cons (.ref p) (.cons (.int (.lit (.ofNat (t + 1)))) .nil)) .nil σ k = true := by
 refine wH_of fun env A s ρ vs kws st X hv hkw fine Rh => ?_
 obtain rfl := kwR_nil hkw
 obtain ⟨v, v2, rfl, hv1, hv2⟩ := args2 hv
 obtain ⟨d0, d, rfl, hr⟩ := hv1.ref_inv
 obtain ⟨vl, c, rfl, g, hl, _⟩ := X.list hp hr
 obtain ⟨tx, ty, d1, d', rfl, hrq⟩ := l3_inv hl
 obtain ⟨vq, cq, rfl, gq, hlq, _⟩ := X.list hq hrq
 cases (hlq.inv : vq = [])
 have hk := take_eval (X := x.val ν₀) (Y := y.val ν₀) (n := n) (K := Km t) ht fun A B r σ h1 h2 h3 h4 => @decide_eq_true _ (Classical.propDecidable _) ⟨A, B, r, rfl, h1, h2, h3, h4⟩
 have hvm : V2 (gl w ν₀ H) (rm d d') s.heap (.cons (.ref .e) (.cons (.int (.lit (.ofNat (t + 1)))) .nil)) _ := .cons (.ref rfl) (.cons (hv2.lits (G' := gl w ν₀ H) rfl rfl) .nil)
 refine codeAny_mono (calls_gl ν₀ hH .nil (n + 1) 153 _ .nil _ (Km t) hk env A s (rm d d') _ [] (st.bare fun c m => ?_) (sm_sr X hr hrq g gq) hvm .nil fine0 Rh) fun res s' z => ?_
 · rcases rm_mut m with e | e
   · exact ⟨p, d, e ▸ hr⟩
   · exact ⟨q, d', e ▸ hrq⟩
 rcases res with e | (v | _ | _ | _)
 · exact absurd z (ZeX_no (env := env))
 · exact z.elim
 · exact z.elim
 · exact z.elim
 · obtain ⟨av, σ', ρ', P, hv', hk'⟩ := z
   obtain ⟨A', B', r, rfl, h0, h1, h2, h3⟩ := @of_decide_eq_true _ (Classical.propDecidable _) hk'
   obtain ⟨tx, ty, c2, c3, g2, g3⟩ := sm_out P h2 h3
   obtain ⟨t', k1, t1, t2⟩ := HT.setK_some p (h A' B' r h0 h1)
   exact ⟨lt r, _, ρ, Pst.two P X hr hrq ⟨_, _, g⟩ ⟨_, _, gq⟩ ⟨_, _, g2⟩ ⟨_, _, g3⟩ t1 t2 (.list rfl g2 (.cons (.int (i := .lit A')) (.cons (.int (i := .lit B')) (.cons (.ref hrq) .nil))) (show 3 ≤ 65536 by decide)) (fun o ho => Option.some.inj (hq.symm.trans ho) ▸ .list (vs := []) rfl g3 .nil (by decide)),
    hv'.lits (G' := gl w ν₀ H) rfl rfl, k1⟩
end
end Mst
end
section
namespace Mst
open PySem PySem.W PyProof.Rows PySem.Calls
theorem HT.getK_eq {t : HT} : ∀ {p : Pth} {o : AO} {k : AO → B}, t.get p = some o → t.getK p k = k o := by
 induction t with
 | nil => exact fun h => nomatch h
 | hole l r g1 g2 =>
  intro p o k h
  cases p with
  | e => exact nomatch h
  | l p => exact g1 h
  | r p => exact g2 h
 | node v l r g1 g2 =>
  intro p o k h
  cases p with
  | e => exact congrArg k (Option.some.inj h)
  | l p => exact g1 h
  | r p => exact g2 h
section
variable {w : World} {ν₀ : Nat → Int} {H : Heap} (hH : Ext w H)
include hH in
theorem h_lvl {R : Orc} (hR : OrcOk ν₀ R) {n f : Nat} {as ks : AV} {σ : St} {k : AV → St → B} (F : FS w ν₀ H f)
 (h : bindK (funT f).ps as ks (funT f).ds (fun l => exc tabs R (ev tabs R (wH w ν₀ H n noK) fun V V V V => false) (wH w ν₀ H n) (funT f).body noK l σ (fun V s => k .none s) k (fun V V => false)) = true) : wH w ν₀ H (n + 1) noK f as ks σ k = true := by
 obtain ⟨fd, body, S, hkd, hfit⟩ := F
 refine wH_of fun env A s ρ vs kws st X hv hkw fine Rh => ?_
 refine call_ok (Ze := ZeX (gl w ν₀ H)) (Zs := ZsX (gl w ν₀ H)) (cy_gl ν₀ hH) (lim_gl ν₀ hH) S ?_ h st X hv hkw fine Rh
 rw [hfit]
 exact cSs_ok (Ze := ZeX (gl w ν₀ H)) (Zs := ZsX (gl w ν₀ H)) (bun_gl ν₀ hH hR) (bunX_gl ν₀ hH) hkd (wH_ok w ν₀ H n) ⟨wH w ν₀ H n noK, (wH_ok w ν₀ H n noK).mono fun V V V V V V z => absurd z ZeX_no, rfl⟩ 30 noK body
abbrev l2 (a b : AV) : AV := .cons a (.cons b .nil)
abbrev l4 (a b c d : AV) : AV := .cons a (.cons b (.cons c (.cons d .nil)))
include hH in
theorem h154_2 {n : Nat} {p q th : Pth} {x y : AI} {a b : AV} {σ : St} {k : AV → St → B} (hp : σ.h.get p = some (.list (l3 (.int x) (.int y) (.ref q)))) (hq : σ.h.get q = some (.list .nil)) (ht : σ.h.get th = some (.list (l2 a b))) (ne : th ≠ p)
 (h : ∀ A B : Int, ∀ e, e = a ∨ e = b → HT.setK p σ.h (.list (l3 (lt A) (lt B) (.ref q))) (fun hh => k e ⟨σ.n, hh⟩) = true) : wH w ν₀ H (n + 2) noK 154 (l2 (.ref p) (.ref th)) .nil σ k = true := by
 refine h_lvl hH .nil (fs154 ν₀ hH) ?_
 rw [e154]
 show σ.h.getK th _ = true
 rw [HT.getK_eq ht]
 show wH w ν₀ H (n + 1) noK 153 (l2 (.ref p) (.int (.lit (.ofNat (1 + 1))))) .nil σ _ = true
 refine h153 hH (by decide) hp hq fun A B r h0 h1 => ?_
 obtain ⟨t', e1, e2, e3⟩ := HT.setK_eq (.list (l3 (lt A) (lt B) (.ref q))) p (t := σ.h)
 have h' : ∀ e, e = a ∨ e = b → k e ⟨σ.n, t'⟩ = true := fun e he => by have := h A B e he; rwa [e1] at this
 rw [e1]
 have ht' : t'.get th = some (.list (l2 a b)) := (e3 th ne).trans ht
 show t'.getK th _ = true
 rw [HT.getK_eq ht']
 have : r = 0 ∨ r = 1 := by omega
 rcases this with rfl | rfl
 · exact h' a (.inl rfl)
 · exact h' b (.inr rfl)
include hH in
theorem h154_4 {n : Nat} {p q th : Pth} {x y : AI} {a b c d : AV} {σ : St} {k : AV → St → B} (hp : σ.h.get p = some (.list (l3 (.int x) (.int y) (.ref q)))) (hq : σ.h.get q = some (.list .nil)) (ht : σ.h.get th = some (.list (l4 a b c d))) (ne : th ≠ p)
 (h : ∀ A B : Int, ∀ e, e = a ∨ e = b ∨ e = c ∨ e = d → HT.setK p σ.h (.list (l3 (lt A) (lt B) (.ref q))) (fun hh => k e ⟨σ.n, hh⟩) = true) : wH w ν₀ H (n + 2) noK 154 (l2 (.ref p) (.ref th)) .nil σ k = true := by
 refine h_lvl hH .nil (fs154 ν₀ hH) ?_
 rw [e154]
 show σ.h.getK th _ = true
 rw [HT.getK_eq ht]
 show wH w ν₀ H (n + 1) noK 153 (l2 (.ref p) (.int (.lit (.ofNat (3 + 1))))) .nil σ _ = true
 refine h153 hH (by decide) hp hq fun A B r h0 h1 => ?_
 obtain ⟨t', e1, e2, e3⟩ := HT.setK_eq (.list (l3 (lt A) (lt B) (.ref q))) p (t := σ.h)
 have h' : ∀ e, e = a ∨ e = b ∨ e = c ∨ e = d → k e ⟨σ.n, t'⟩ = true := fun e he => by have := h A B e he; rwa [e1] at this
 rw [e1]
 have ht' : t'.get th = some (.list (l4 a b c d)) := (e3 th ne).trans ht
 show t'.getK th _ = true
 rw [HT.getK_eq ht']
 have : r = 0 ∨ r = 1 ∨ r = 2 ∨ r = 3 := by omega
 rcases this with rfl | rfl | rfl | rfl
 · exact h' a (.inl rfl)
 · exact h' b (.inr (.inl rfl))
 · exact h' c (.inr (.inr (.inl rfl)))
 · exact h' d (.inr (.inr (.inr rfl)))
end
end Mst
end
section
namespace Mst
open PySem PySem.W PyProof.Rows PySem.Calls
noncomputable def pR (b1 b2 : Bool) : Orc :=
 .cons 1 (.lit (-1)) (sy 0) (ai (sy 1)) <| .cons 10 (sy 0) (sy 1) (.bool b1) <|
 .cons 3 (sy (match b1 with | true => 1 | false => 0)) (li 2147483629) (ai (sy 2)) <| .cons 0 (sy 2) (li 17) (ai (sy 3)) <| .cons 2 (sy 3) (li 48271) (ai (sy 4)) <| .cons 3 (sy 4) (li 2147483647) (ai (sy 5)) <|
 .cons 11 (li 1000000000000000000) (sy (match b1 with | true => 1 | false => 0)) (.bool b2) <| .cons 2 (sy (match b1 with | true => 1 | false => 0)) (li (match b2 with | true => 1 | false => 0)) (ai (sy 6)) .nil
abbrev HTy := Kx → Nat → AV → AV → St → (AV → St → B) → B
noncomputable def litsV : List Int → AV
 | [] => .nil
 | i :: r => .cons (lt i) (litsV r)
theorem lenV_lits : ∀ (l : List Int) (m : Nat) (k : Nat → B), lenV (litsV l) m k = k (l.length + m)
 | [], m, k => by rw [List.length_nil, Nat.zero_add]; rfl
 | i :: r, m, k => by
  show lenV (litsV r) (Nat.succ m) k = _
  rw [lenV_lits r, List.length_cons]
  congr 1; omega
structure Leans (H : HTy) : Prop where
 a158 : ∀ {b : Bool} {c l : Int} {σ : St} {k : AV → St → B}, 1 ≤ c → c ≤ 200 → 0 ≤ l → l ≤ 299 → k (.bool true) σ = true → H noK 158 (l3 (.bool b) (lt c) (lt l)) .nil σ k = true
 a162 : ∀ {i j : Int} {r : Bool} {σ : St} {k : AV → St → B}, ((i = 0 ∧ j = 61440 ∧ r = false) ∨ (i = 4096 ∧ j = 100 ∧ r = true) ∨ (i = 65536 ∧ j = 0 ∧ r = true) ∨ (i = -4096 ∧ j = 0 ∧ r = true) ∨ (i = 0 ∧ j = 65536 ∧ r = true)) → k (.bool r) σ = true → H noK 162 (l2 (lt i) (lt j)) .nil σ k = true
 a159 : ∀ {i : Int} {v : AV} {σ : St} {k : AV → St → B}, 0 ≤ i → i < 3 → (v = .str 0 ∨ v = .str 4) → k (.bool true) σ = true → H noK 159 (l2 (lt i) v) .nil σ k = true
 a160 : ∀ {v : AV} {σ : St} {k : AV → St → B}, (v = lt 20 ∨ v = lt 19 ∨ v = lt 21 ∨ v = lt 0) → k (.bool true) σ = true → H noK 160 (.cons v .nil) .nil σ k = true
 a161 : ∀ {v : AV} {σ : St} {k : AV → St → B}, (v = lt 0 ∨ v = lt 4095 ∨ v = lt 4094 ∨ v = lt 1) → k (.bool true) σ = true → H noK 161 (.cons v .nil) .nil σ k = true
 a153 : ∀ {t : Nat} {p q : Pth} {x y : AI} {σ : St} {k : AV → St → B}, t < 400 → σ.h.get p = some (.list (l3 (.int x) (.int y) (.ref q))) → σ.h.get q = some (.list .nil) →
  (∀ A B r : Int, 0 ≤ r → r < (t : Int) + 1 → HT.setK p σ.h (.list (l3 (lt A) (lt B) (.ref q))) (fun hh => k (lt r) ⟨σ.n, hh⟩) = true) → H noK 153 (l2 (.ref p) (.int (.lit (.ofNat (t + 1))))) .nil σ k = true
 a154_2 : ∀ {p q th : Pth} {x y : AI} {a b : AV} {σ : St} {k : AV → St → B}, σ.h.get p = some (.list (l3 (.int x) (.int y) (.ref q))) → σ.h.get q = some (.list .nil) → σ.h.get th = some (.list (l2 a b)) → th ≠ p →
  (∀ A B : Int, ∀ e, e = a ∨ e = b → HT.setK p σ.h (.list (l3 (lt A) (lt B) (.ref q))) (fun hh => k e ⟨σ.n, hh⟩) = true) → H noK 154 (l2 (.ref p) (.ref th)) .nil σ k = true
 a154_4 : ∀ {p q th : Pth} {x y : AI} {a b c d : AV} {σ : St} {k : AV → St → B}, σ.h.get p = some (.list (l3 (.int x) (.int y) (.ref q))) → σ.h.get q = some (.list .nil) → σ.h.get th = some (.list (l4 a b c d)) → th ≠ p →
  (∀ A B : Int, ∀ e, e = a ∨ e = b ∨ e = c ∨ e = d → HT.setK p σ.h (.list (l3 (lt A) (lt B) (.ref q))) (fun hh => k e ⟨σ.n, hh⟩) = true) → H noK 154 (l2 (.ref p) (.ref th)) .nil σ k = true
noncomputable def tk : Nat → X → X
 | 0, _ => .nil
 | n + 1, x => (match x with | .cons a b => .cons a (tk n b) | _ => .nil)
noncomputable def dr : Nat → X → X
 | 0, x => x
 | n + 1, x => (match x with | .cons _ b => dr n b | _ => .nil)
noncomputable abbrev scr (rest : List Int) : AV := .frl (.cons (ai (sy 0)) (litsV rest))
noncomputable def lS (rest : List Int) : Loc := .cons 60 (scr rest) (.cons 41 (lt 0) (.cons 57 (lt 65536) (.cons 43 (.bool true) (.cons 13 (.ref (.l (.r .e))) .nil))))
noncomputable abbrev tq (a b : Int) (c : Bool) : AV := .tup (l3 (lt a) (lt b) (.bool c))
noncomputable abbrev lf (o : AO) : HT := .node o .nil .nil
noncomputable def hS : HT := .node (.list (.cons (tq 0 61440 false) (.cons (tq 4096 100 true) (.cons (tq 65536 0 true) (.cons (tq (-4096) 0 true) (.cons (tq 0 65536 true) .nil))))))
 (.node (.list (.cons (lt 1) (.cons (lt 0) (.cons (lt 0) (.cons (lt 0) (.cons (lt 0) .nil)))))) (lf (.list .nil)) (lf (.list (l3 (ai (sy 6)) (ai (sy 5)) (.ref (.r (.l .e))))))) (.node (.list .nil) (lf (.list .nil)) .nil)
theorem law_pre {H : HTy} (L : Leans H) {E0 : X → Loc → St → (AV → St → B) → B} {b1 b2 : Bool} {rest : List Int} {kn : Loc → St → B} {kr : AV → St → B} {kc : Loc → St → B} (hkn : kn (lS rest) ⟨.r (.r .e), hS⟩ = true)
 (a152 : ∀ {as ks : AV} {σ : St} {k : AV → St → B}, callN tabs (pR b1 b2) funT 32 noK 152 as ks σ k = true → H noK 152 as ks σ k = true) :
 exc tabs (pR b1 b2) E0 H (tk 3 f163.body) noK (.cons 60 (scr rest) .nil) s00 kn kr kc = true := by
 refine L.a158 (by decide) (by decide) (by decide) (by decide) ?_
 refine L.a162 (.inl ⟨rfl, rfl, rfl⟩) ?_
 refine L.a162 (.inr (.inl ⟨rfl, rfl, rfl⟩)) ?_
 refine L.a162 (.inr (.inr (.inl ⟨rfl, rfl, rfl⟩))) ?_
 refine L.a162 (.inr (.inr (.inr (.inl ⟨rfl, rfl, rfl⟩)))) ?_
 refine L.a162 (.inr (.inr (.inr (.inr ⟨rfl, rfl, rfl⟩)))) ?_
 refine a152 ?_
 show lenV (litsV rest) (Nat.succ 0) _ = true
 rw [lenV_lits]
 cases b1 <;> cases b2 <;> exact hkn
noncomputable abbrev pS : Pth := .l (.r .e)
noncomputable abbrev qS : Pth := .r (.l .e)
inductive Good (σ : St) : Prop
 | mk (x y : AI) : σ.h.get pS = some (.list (l3 (.int x) (.int y) (.ref qS))) → σ.h.get qS = some (.list .nil) → 6 ≤ pIdx σ.n → Good σ
theorem Good.put {σ : St} (g : Good σ) {x y : Int} {k : HT → B} (h : ∀ t', Good ⟨σ.n, t'⟩ → k t' = true) : HT.setK pS σ.h (.list (l3 (lt x) (lt y) (.ref qS))) k = true := by
 obtain ⟨_, _, g1, g2, g3⟩ := g
 obtain ⟨t', e1, e2, e3⟩ := HT.setK_eq (.list (l3 (lt x) (lt y) (.ref qS))) pS (t := σ.h)
 rw [e1]
 exact h t' ⟨_, _, e2, (e3 qS (by intro z; cases z)).trans g2, g3⟩
theorem Pth.succK_eq {k : Pth → B} : ∀ {p : Pth}, p.succK k = k p.succ := by
 intro p
 induction p generalizing k with
 | e => rfl
 | l p => rfl
 | r p ih => exact ih
theorem Good.new {n : Pth} {hh : HT} (g : Good ⟨n, hh⟩) {o : AO} {k : HT → Pth → B} (h : ∀ th m t', th ≠ pS → t'.get th = some o → Good ⟨m, t'⟩ → th = n → k t' m = true) : (HT.setK n hh o fun h => n.succK fun m => k h m) = true := by
 obtain ⟨x, y, g1, g2, g3⟩ := g
 have n1 : ∀ {q : Pth}, pIdx q < 6 → q ≠ n := fun hq e => absurd (e ▸ hq) (Nat.not_lt.mpr g3)
 obtain ⟨t', e1, e2, e3⟩ := HT.setK_eq o n (t := hh)
 rw [e1, Pth.succK_eq]
 exact h n n.succ t' (n1 (by decide)).symm e2 ⟨x, y, (e3 _ (n1 (by decide))).trans g1, (e3 _ (n1 (by decide))).trans g2, by rw [pIdx_succ]; exact Nat.le_succ_of_le g3⟩ rfl
section
variable {H : HTy} (L : Leans H) {σ : St} {k : AV → St → B} (g : Good σ)
include L g
theorem Leans.s153 {t : Nat} (ht : t < 400) (h : ∀ r σ', 0 ≤ r → r < (t : Int) + 1 → Good σ' → k (lt r) σ' = true) : H noK 153 (l2 (.ref pS) (.int (.lit (.ofNat (t + 1))))) .nil σ k = true := by
 obtain ⟨x, y, g1, g2, g3⟩ := id g
 exact L.a153 ht g1 g2 fun A B r h0 h1 => g.put fun t' g' => h r _ h0 h1 g'
theorem Leans.s154_2 {th : Pth} {a b : AV} (ne : th ≠ pS) (e : σ.h.get th = some (.list (l2 a b))) (h : ∀ v σ', v = a ∨ v = b → Good σ' → k v σ' = true) : H noK 154 (l2 (.ref pS) (.ref th)) .nil σ k = true := by
 obtain ⟨x, y, g1, g2, g3⟩ := id g
 exact L.a154_2 g1 g2 e ne fun A B v hv => g.put fun t' g' => h v _ hv g'
theorem Leans.s154_4 {th : Pth} {a b c d : AV} (ne : th ≠ pS) (e : σ.h.get th = some (.list (l4 a b c d))) (h : ∀ v σ', v = a ∨ v = b ∨ v = c ∨ v = d → Good σ' → k v σ' = true) : H noK 154 (l2 (.ref pS) (.ref th)) .nil σ k = true := by
 obtain ⟨x, y, g1, g2, g3⟩ := id g
 exact L.a154_4 g1 g2 e ne fun A B v hv => g.put fun t' g' => h v _ hv g'
end
noncomputable def forS (x : X) : X := match x with | .cons (.for_ _ s _) _ => s | _ => .nil
noncomputable def forB (x : X) : X := match x with | .cons (.for_ _ _ b) _ => b | _ => .nil
noncomputable def l5 (rest : List Int) (u : Loc) : Loc := .cons 60 (scr rest) (.cons 41 (lt 0) (.cons 57 (lt 65536) (.cons 43 (.bool true) (.cons 13 (.ref pS) u))))
theorem r4 {C : Int → Prop} (c0 : C 0) (c1 : C 1) (c2 : C 2) (c3 : C 3) : ∀ r : Int, 0 ≤ r → r < ((3 : Nat) : Int) + 1 → C r := by
 intro r h0 h1
 have q : r = 0 ∨ r = 1 ∨ r = 2 ∨ r = 3 := by omega
 rcases q with rfl | rfl | rfl | rfl <;> assumption
theorem tst_both {b t f : B} (x : t = true) (y : f = true) : tstK (.bool b) t f = true := by
 cases b
 · exact y
 · exact x
theorem law_turn {H : HTy} (L : Leans H) {R : Orc} {E0 : X → Loc → St → (AV → St → B) → B} {rest : List Int} {i : Int} {w : Loc} (hw : w = .nil ∨ ∃ r, w = .cons 70 r (.cons 61 (.bool true) .nil)) {σ : St} (g : Good σ) {kn : Loc → St → B} {kr : AV → St → B} {kc : Loc → St → B}
 (h : ∀ r σ', Good σ' → kn (l5 rest (.cons 81 (lt i) (.cons 70 (lt r) (.cons 61 (.bool true) .nil)))) σ' = true) : exc tabs R E0 H (forB (dr 3 f163.body)) noK (l5 rest (.cons 81 (lt i) w)) σ kn kr kc = true := by
 rcases hw with rfl | ⟨r0, rfl⟩ <;>
 · refine L.s153 g (t := 3) (by decide) fun r σ h0 h1 g => ?_
   revert r
   refine r4 ?_ ?_ ?_ ?_
   · refine L.s153 g (t := 1) (by decide) fun r1 σ _ _ g => ?_
     refine tst_both (b := eqI r1 0) ?_ ?_ <;>
     · refine L.s153 g (t := 199) (by decide) fun r2 σ h4 h5 g => ?_
       refine L.s153 g (t := 299) (by decide) fun r3 σ h6 h7 g => ?_
       exact L.a158 (by omega) (by omega) (by omega) (by omega) (h _ _ g)
   · refine L.s153 g (t := 2) (by decide) fun r1 σ h2 h3 g => ?_
     obtain ⟨n, hh⟩ := σ
     refine g.new fun th m t' ne e g2 q => ?_
     subst q
     refine L.s154_2 g2 ne e fun v σ hv g3 => ?_
     exact L.a159 h2 h3 hv (h _ _ g3)
   · obtain ⟨n, hh⟩ := σ
     refine g.new fun th m t' ne e g2 q => ?_
     subst q
     refine L.s154_4 g2 ne e fun v σ hv g3 => ?_
     exact L.a160 hv (h _ _ g3)
   · obtain ⟨n, hh⟩ := σ
     refine g.new fun th m t' ne e g2 q => ?_
     subst q
     refine L.s154_4 g2 ne e fun v σ hv g3 => ?_
     exact L.a161 hv (h _ _ g3)
theorem law_post {H : HTy} (L : Leans H) {R : Orc} {E0 : X → Loc → St → (AV → St → B) → B} {rest : List Int} {kn : Loc → St → B} {kr : AV → St → B} {kc : Loc → St → B} (hkr : ∀ σ, kr (.bool true) σ = true) :
 exc tabs R E0 H (dr 3 f163.body) noK (lS rest) ⟨.r (.r .e), hS⟩ kn kr kc = true := by
 have turn := @law_turn H L R E0 rest
 show exCons (exFor tabs R E0 H (.tName 81) (forS (dr 3 f163.body)) (exc tabs R E0 H (forB (dr 3 f163.body)))) (exc tabs R E0 H (dr 1 (dr 3 f163.body))) noK (lS rest) ⟨.r (.r .e), hS⟩ kn kr kc = true
 generalize exc tabs R E0 H (forB (dr 3 f163.body)) = bd at turn ⊢
 refine turn (.inl rfl) ⟨_, _, rfl, rfl, by decide⟩ fun r σ g => ?_
 refine turn (.inr ⟨_, rfl⟩) g fun r σ g => ?_
 exact hkr _
theorem exc_tk {T : Tabs} {R : Orc} {E0 : X → Loc → St → (AV → St → B) → B} {H : HTy} {kx : Kx} {kr : AV → St → B} {kc : Loc → St → B} {l : Loc} {s : St} {kn : Loc → St → B} :
 exc T R E0 H f163.body kx l s kn kr kc = exc T R E0 H (tk 3 f163.body) kx l s (fun l s => exc T R E0 H (dr 3 f163.body) kx l s kn kr kc) kr kc := by kernel_rfl
theorem law_run {H : HTy} (L : Leans H) {E0 : X → Loc → St → (AV → St → B) → B} {b1 b2 : Bool} {rest : List Int} {kn : Loc → St → B} {kr : AV → St → B} {kc : Loc → St → B} (hkr : ∀ σ, kr (.bool true) σ = true)
 (a152 : ∀ {as ks : AV} {σ : St} {k : AV → St → B}, callN tabs (pR b1 b2) funT 32 noK 152 as ks σ k = true → H noK 152 as ks σ k = true) :
 exc tabs (pR b1 b2) E0 H f163.body noK (.cons 60 (scr rest) .nil) s00 kn kr kc = true := by
 rw [exc_tk]
 exact law_pre L (law_post L hkr) a152
theorem law_nil {H : HTy} (L : Leans H) {E0 : X → Loc → St → (AV → St → B) → B} {kn : Loc → St → B} {kr : AV → St → B} {kc : Loc → St → B} (hkr : ∀ σ, kr (.bool true) σ = true)
 (ar : ∀ {f : Nat} {as ks : AV} {σ : St} {k : AV → St → B}, callN tabs .nil funT 32 noK f as ks σ k = true → H noK f as ks σ k = true) :
 exc tabs .nil E0 H f163.body noK (.cons 60 (.frl .nil) .nil) s00 kn kr kc = true := by
 refine L.a158 (by decide) (by decide) (by decide) (by decide) ?_
 refine L.a162 (.inl ⟨rfl, rfl, rfl⟩) ?_
 refine L.a162 (.inr (.inl ⟨rfl, rfl, rfl⟩)) ?_
 refine L.a162 (.inr (.inr (.inl ⟨rfl, rfl, rfl⟩))) ?_
 refine L.a162 (.inr (.inr (.inr (.inl ⟨rfl, rfl, rfl⟩)))) ?_
 refine L.a162 (.inr (.inr (.inr (.inr ⟨rfl, rfl, rfl⟩)))) ?_
 refine ar (f := 152) ?_
 refine ar (f := 153) ?_
 refine ar (f := 153) ?_
 refine ar (f := 154) ?_
 refine L.a159 (by decide) (by decide) (.inl rfl) ?_
 exact hkr _
end Mst
end
section
namespace Mst
open PySem PySem.W PyProof.Rows PySem.Calls
noncomputable def xV (X : Nat) : Nat → Int
 | 0 => ((X / 16777216 : Nat) : Int)
 | 1 => ((X / 65536 : Nat) : Int)
 | 2 => ((X / 256 : Nat) : Int)
 | 3 => ((X / 65536 % 256 : Nat) : Int)
 | 4 => ((X / 256 % 256 : Nat) : Int)
 | 5 => ((X % 256 : Nat) : Int)
 | 6 => ((X / 16777216 * 256 : Nat) : Int)
 | 7 => ((X / 65536 * 256 : Nat) : Int)
 | _ => ((X / 256 * 256 : Nat) : Int)
section
variable {ν : Nat → Int} {a b c : AI}
theorem and_ok {m : Nat} (ha : a.val ν = (m : Int)) (hc : c.val ν = ((m % 256 : Nat) : Int)) : ISpec ν 7 (a.val ν) ((li 255).val ν) (ai c) :=
 ⟨trivial, c, rfl, by rw [ha, hc]; show _ = Builtin.bitAnd (m : Int) ((255 : Nat) : Int); rw [bitAnd_nat, show m &&& 255 = m % 256 from Nat.and_two_pow_sub_one_eq_mod m 8]⟩
theorem shr_ok {m k : Nat} (ha : a.val ν = (m : Int)) (hc : c.val ν = ((m / 2 ^ k : Nat) : Int)) : ISpec ν 6 (a.val ν) ((li k).val ν) (ai c) :=
 ⟨by show (0 : Int) ≤ (k : Int); omega, c, rfl, by
  rw [ha, hc]
  show _ = (m : Int).fdiv (2 ^ k)
  rw [Int.fdiv_eq_ediv_of_nonneg _ (Int.pow_nonneg (by decide))]; push_cast; rfl⟩
theorem shl_ok {m : Nat} (hm : m < 2 ^ 32) (ha : a.val ν = (m : Int)) (hc : c.val ν = ((m * 256 : Nat) : Int)) : ISpec ν 5 (a.val ν) ((li 8).val ν) (ai c) :=
 ⟨⟨by rw [ha]; show (m : Int).natAbs < _; omega, (by decide : (0 : Int) ≤ 8), (by decide : (8 : Int) ≤ 1024)⟩, c, rfl, by rw [ha, hc]; show _ = (m : Int) * 2 ^ 8; push_cast; rfl⟩
theorem or_ok {m k : Nat} (hk : k < 256) (ha : a.val ν = ((m * 256 : Nat) : Int)) (hb : b.val ν = (k : Int)) (hc : c.val ν = ((m * 256 + k : Nat) : Int)) : ISpec ν 8 (a.val ν) (b.val ν) (ai c) :=
 ⟨trivial, c, rfl, by
  rw [ha, hb, hc]
  rw [bitOr_nat]
  have := Nat.two_pow_add_eq_or_of_lt (i := 8) (b := k) hk m
  rw [Nat.mul_comm m 256, show 256 * m = 2 ^ 8 * m from rfl, this]⟩
theorem or0_ok {m : Nat} (hb : b.val ν = (m : Int)) : ISpec ν 8 ((li 0).val ν) (b.val ν) (ai b) :=
 ⟨trivial, b, rfl, by rw [hb]; show _ = Builtin.bitOr ((0 : Nat) : Int) (m : Int); rw [bitOr_nat, Nat.zero_or]⟩
theorem le_ok {x y : Int} (h : x ≤ y) : ISpec ν 11 x y (.bool true) := by show AV.bool true = .bool (decide (x ≤ y)); rw [decide_eq_true h]
theorem lt_ok {x y : Int} (h : x < y) : ISpec ν 10 x y (.bool true) := by show AV.bool true = .bool (decide (x < y)); rw [decide_eq_true h]
theorem xR_ok {x n X : Nat} {r : Orc} (hX : X < 4294967296) (hx : ν x = (X : Int)) (hn : ∀ i, i < 9 → ν (n + i) = xV X i) (hr : OrcOk ν r) : OrcOk ν (xR x n r) := by
 have e0 : (sy n).val ν = ((X / 16777216 : Nat) : Int) := hn 0 (by decide)
 have e1 : (sy (n + 1)).val ν = ((X / 65536 : Nat) : Int) := hn 1 (by decide)
 have e2 : (sy (n + 2)).val ν = ((X / 256 : Nat) : Int) := hn 2 (by decide)
 have e3 : (sy (n + 3)).val ν = ((X / 65536 % 256 : Nat) : Int) := hn 3 (by decide)
 have e4 : (sy (n + 4)).val ν = ((X / 256 % 256 : Nat) : Int) := hn 4 (by decide)
 have e5 : (sy (n + 5)).val ν = ((X % 256 : Nat) : Int) := hn 5 (by decide)
 have e6 : (sy (n + 6)).val ν = ((X / 16777216 * 256 : Nat) : Int) := hn 6 (by decide)
 have e7 : (sy (n + 7)).val ν = ((X / 65536 * 256 : Nat) : Int) := hn 7 (by decide)
 have e8 : (sy (n + 8)).val ν = ((X / 256 * 256 : Nat) : Int) := hn 8 (by decide)
 have ex : (sy x).val ν = (X : Int) := hx
 have lo : ∀ {a : AI} {m : Nat}, a.val ν = (m : Int) → (li 0).val ν ≤ a.val ν := fun h => by rw [h]; show (0 : Int) ≤ _; omega
 have hi : ∀ {a : AI} {m : Nat}, a.val ν = (m : Int) → m < 256 → a.val ν ≤ (li 255).val ν := fun h hm => by rw [h]; show _ ≤ (255 : Int); omega
 refine .cons (shr_ok ex e0) <| .cons (and_ok e0 (by rw [e0]; congr 1; omega)) <| .cons (shr_ok ex e1) <| .cons (and_ok e1 e3) <| .cons (shr_ok ex e2) <| .cons (and_ok e2 e4) <| .cons (shr_ok ex (by rw [ex]; congr 1; omega)) <| .cons (and_ok ex e5) <|
  .cons (or0_ok e0) <| .cons (shl_ok (by omega) e0 e6) <| .cons (or_ok (by omega) e6 e3 (by rw [e1]; congr 1; omega)) <| .cons (shl_ok (by omega) e1 e7) <| .cons (or_ok (by omega) e7 e4 (by rw [e2]; congr 1; omega)) <| .cons (shl_ok (by omega) e2 e8) <| .cons (or_ok (by omega) e8 e5 (by rw [ex]; congr 1; omega)) <|
  .cons (le_ok (lo ex)) <| .cons (lt_ok (by rw [ex]; show _ < (4294967296 : Int); omega)) <| .cons (le_ok (lo e0)) <| .cons (le_ok (hi e0 (by omega))) <| .cons (le_ok (lo e3)) <| .cons (le_ok (hi e3 (by omega))) <| .cons (le_ok (lo e4)) <| .cons (le_ok (hi e4 (by omega))) <| .cons (le_ok (lo e5)) <| .cons (le_ok (hi e5 (by omega))) hr
noncomputable def cVa (c l : Int) : Nat → Int
 | 0 => c
 | 1 => l
 | 2 => 4294967295 - l
 | 3 => 4294967295 - l + c
 | 4 => xV (4294967295 - l).toNat 0 | 5 => xV (4294967295 - l).toNat 1 | 6 => xV (4294967295 - l).toNat 2 | 7 => xV (4294967295 - l).toNat 3 | 8 => xV (4294967295 - l).toNat 4
 | 9 => xV (4294967295 - l).toNat 5 | 10 => xV (4294967295 - l).toNat 6 | 11 => xV (4294967295 - l).toNat 7 | 12 => xV (4294967295 - l).toNat 8
 | n + 13 => xV (4294967295 - l + c).toNat n
theorem cR_ok {c l : Int} (h1 : 1 ≤ c) (h2 : c ≤ 200) (h3 : 0 ≤ l) (h4 : l ≤ 299) : OrcOk (cVa c l) (cR (decide (l < c))) := by
 refine .cons ⟨trivial, _, rfl, rfl⟩ <| .cons ⟨trivial, _, rfl, rfl⟩ <| .cons ?_ <| xR_ok (X := (4294967295 - l).toNat) (by omega) (by show 4294967295 - l = _; omega) (fun i hi => ?_) ?_
 · show AV.bool (decide (l < c)) = .bool (decide ((4294967295 : Int) < 4294967295 - l + c))
   congr 1
   exact decide_eq_decide.mpr ⟨fun h => by omega, fun h => by omega⟩
 · have : i = 0 ∨ i = 1 ∨ i = 2 ∨ i = 3 ∨ i = 4 ∨ i = 5 ∨ i = 6 ∨ i = 7 ∨ i = 8 := by omega
   rcases this with rfl | rfl | rfl | rfl | rfl | rfl | rfl | rfl | rfl <;> rfl
 · by_cases q : l < c
   · rw [decide_eq_true q]; exact .nil
   · rw [decide_eq_false q]
     refine xR_ok (X := (4294967295 - l + c).toNat) (by omega) (by show 4294967295 - l + c = _; omega) (fun i hi => ?_) .nil
     rw [Nat.add_comm]; rfl
noncomputable def pBig (c : Int) : Int := if c < -1 - c then -1 - c else c
noncomputable def pV (c : Int) : Nat → Int
 | 0 => c
 | 1 => -1 - c
 | 2 => Int.fmod (pBig c) 2147483629
 | 3 => Int.fmod (pBig c) 2147483629 + 17
 | 4 => (Int.fmod (pBig c) 2147483629 + 17) * 48271
 | 5 => Int.fmod ((Int.fmod (pBig c) 2147483629 + 17) * 48271) 2147483647
 | _ => pBig c * (if 1000000000000000000 ≤ pBig c then 1 else 0)
theorem pR_aux (c : Int) (k d : Nat) (b1 b2 : Bool) (hk : pV c k = pBig c) (h1 : b1 = decide (c < -1 - c)) (h2 : b2 = decide (1000000000000000000 ≤ pBig c)) (hd : (d : Int) = if 1000000000000000000 ≤ pBig c then 1 else 0) :
 OrcOk (pV c) (.cons 1 (.lit (-1)) (sy 0) (ai (sy 1)) <| .cons 10 (sy 0) (sy 1) (.bool b1) <|
 .cons 3 (sy k) (li 2147483629) (ai (sy 2)) <| .cons 0 (sy 2) (li 17) (ai (sy 3)) <| .cons 2 (sy 3) (li 48271) (ai (sy 4)) <| .cons 3 (sy 4) (li 2147483647) (ai (sy 5)) <|
 .cons 11 (li 1000000000000000000) (sy k) (.bool b2) <| .cons 2 (sy k) (li d) (ai (sy 6)) .nil) := by
 have ek : (sy k).val (pV c) = pBig c := hk
 refine .cons ⟨trivial, _, rfl, rfl⟩ <| .cons (by rw [h1]; rfl) <| .cons ⟨(by decide : (2147483629 : Int) ≠ 0), _, rfl, by rw [ek]; rfl⟩ <| .cons ⟨trivial, _, rfl, rfl⟩ <| .cons ⟨.inr (by decide : (48271 : Int).natAbs < 2 ^ 64), _, rfl, rfl⟩ <|
  .cons ⟨(by decide : (2147483647 : Int) ≠ 0), _, rfl, rfl⟩ <| .cons (by rw [ek, h2]; rfl) <| .cons ⟨.inr ?_, _, rfl, ?_⟩ .nil
 · show (d : Int).natAbs < 2 ^ 64
   rw [hd]; split <;> decide
 · rw [ek]
   show pBig c * (if 1000000000000000000 ≤ pBig c then 1 else 0) = pBig c * (d : Int)
   rw [hd]
theorem pR_ok (c : Int) : OrcOk (pV c) (pR (decide (c < -1 - c)) (decide (1000000000000000000 ≤ pBig c))) := by
 have key : ∀ b1 b2, b1 = decide (c < -1 - c) → b2 = decide (1000000000000000000 ≤ pBig c) → OrcOk (pV c) (pR b1 b2) := by
  intro b1 b2 h1 h2
  have hk : pV c (match (generalizing := false) b1 with | true => 1 | false => 0) = pBig c := by
   unfold pBig
   cases b1 with
   | true => rw [if_pos (of_decide_eq_true h1.symm)]; rfl
   | false => rw [if_neg (of_decide_eq_false h1.symm)]; rfl
  have hd : (((match (generalizing := false) b2 with | true => 1 | false => 0) : Nat) : Int) = if 1000000000000000000 ≤ pBig c then 1 else 0 := by
   cases b2 with
   | true => rw [if_pos (of_decide_eq_true h2.symm)]; rfl
   | false => rw [if_neg (of_decide_eq_false h2.symm)]; rfl
  exact pR_aux c _ _ b1 b2 hk h1 h2 hd
 exact key _ _ rfl rfl
end
end Mst
end
section
namespace Mst
open PySem PySem.W PyProof.Rows PySem.Calls
section
variable {w : World} {ν₀ : Nat → Int} {H : Heap}
set_option tactic.hygienic true in
theorem isT_is : ∀ (v : AV) (σ : St), isT v σ = true → v = .bool true := fun v σ h => by
 cases v <;> try exact ff h
 rename_i b; cases b <;> first | rfl | exact ff h
set_option tactic.hygienic true in
theorem isF_is : ∀ (v : AV) (σ : St), isF v σ = true → v = .bool false := fun v σ h => by
 cases v <;> try exact ff h
 rename_i b; cases b <;> first | rfl | exact ff h
theorem costs_all (b bey : Bool) : callN tabs (cR bey) funT 30 noK 158 (l3 (.bool b) (ai (sy 0)) (ai (sy 1))) .nil s00 isT = true := by
 cases b <;> cases bey
 · exact kc4
 · exact kc3
 · exact kc2
 · exact kc1
theorem h_lit (hH : Ext w H) {f : Nat} {as : AV} {K : AV → St → B} {r : Bool} (hk : callN tabs .nil funT 30 noK f as .nil s00 K = true) (hK : ∀ v σ, K v σ = true → v = .bool r) (hl : litB as = true) {σ : St} {k : AV → St → B} (h : k (.bool r) σ = true) : wH w ν₀ H 32 noK f as .nil σ k = true :=
 h_run (ν₀ := ν₀) (n := 32) hH (ν := fun V => 0) (R := .nil) .nil hk hK (by decide) (fun ρ h vs v => VR.lits (G := gl w ν₀ H) (G' := gl w (fun V => 0) H) rfl v hl) h
theorem leans (hH : Ext w H) : Leans (wH w ν₀ H 32) where
 a158 := fun {b c l σ k} h1 h2 h3 h4 hk => h_run hH (cR_ok h1 h2 h3 h4) (costs_all b _) isT_is (by decide) (fun ρ h vs v => by
  cases v with
  | cons v1 v2 =>
  cases v2 with
  | cons v2 v3 =>
  cases v3 with
  | cons v3 v4 =>
  cases v1; cases v2; cases v3; cases v4
  exact .cons .bool (.cons (.int (i := sy 0)) (.cons (.int (i := sy 1)) .nil))) hk
 a162 := fun h hk => by
  rcases h with ⟨rfl, rfl, rfl⟩ | ⟨rfl, rfl, rfl⟩ | ⟨rfl, rfl, rfl⟩ | ⟨rfl, rfl, rfl⟩ | ⟨rfl, rfl, rfl⟩
  · exact h_lit hH kr1 isF_is rfl hk
  · exact h_lit hH kr2 isT_is rfl hk
  · exact h_lit hH kr3 isT_is rfl hk
  · exact h_lit hH kr4 isT_is rfl hk
  · exact h_lit hH kr5 isT_is rfl hk
 a159 := fun {i v σ k} h0 h1 hv hk => by
  have : i = 0 ∨ i = 1 ∨ i = 2 := by omega
  rcases this with rfl | rfl | rfl <;> rcases hv with rfl | rfl
  · exact h_lit hH kh1 isT_is rfl hk
  · exact h_lit hH kh4 isT_is rfl hk
  · exact h_lit hH kh2 isT_is rfl hk
  · exact h_lit hH kh5 isT_is rfl hk
  · exact h_lit hH kh3 isT_is rfl hk
  · exact h_lit hH kh6 isT_is rfl hk
 a160 := fun hv hk => by
  rcases hv with rfl | rfl | rfl | rfl
  · exact h_lit hH ko1 isT_is rfl hk
  · exact h_lit hH ko2 isT_is rfl hk
  · exact h_lit hH ko3 isT_is rfl hk
  · exact h_lit hH ko4 isT_is rfl hk
 a161 := fun hv hk => by
  rcases hv with rfl | rfl | rfl | rfl
  · exact h_lit hH kt1 isT_is rfl hk
  · exact h_lit hH kt2 isT_is rfl hk
  · exact h_lit hH kt3 isT_is rfl hk
  · exact h_lit hH kt4 isT_is rfl hk
 a153 := fun ht hp hq h => h153 hH (n := 31) ht hp hq h
 a154_2 := fun hp hq ht ne h => h154_2 hH (n := 30) hp hq ht ne h
 a154_4 := fun hp hq ht ne h => h154_4 hH (n := 30) hp hq ht ne h
end
end Mst
end
section
namespace Mst
open PySem PySem.W PyProof.Rows PySem.Calls
theorem ints_of : ∀ {xs : List WData}, WShape.hasItems [] xs .int = true → ∃ is : List Int, xs = is.map WData.int
 | [], _ => ⟨[], rfl⟩
 | x :: r, h => by
  have h' : (WShape.has [] x .int && WShape.hasItems [] r .int) = true := h
  obtain ⟨h1, h2⟩ := Bool.and_eq_true_iff.mp h'
  obtain ⟨is, rfl⟩ := ints_of h2
  cases x <;> first | exact ⟨_ :: is, rfl⟩ | exact ff h1
set_option tactic.hygienic true in
theorem args_of {args : List WData} (h : rowL.toRowW.claim.pre args = true) : ∃ is : List Int, args = [.list (is.map WData.int)] ∧ is.length ≤ 63 := by
 obtain ⟨p1, p2⟩ := Bool.and_eq_true_iff.mp (show (WShape.hasAll [] args [.list .int] && (WTm.and (.not (.lt (.lit (.int 63)) (.len (.arg 0)))) (.lit (.bool true))).holds [] { args := args }) = true from h)
 cases args with
 | nil => cases p1
 | cons d r =>
  obtain ⟨q1, q2⟩ := Bool.and_eq_true_iff.mp (show (WShape.has [] d (.list .int) && WShape.hasAll [] r []) = true from p1)
  cases r with
  | cons => cases q2
  | nil =>
   cases d <;> try exact ff q1
   rename_i xs
   have q1' : WShape.hasItems [] xs .int = true := (Bool.or_false _).symm.trans q1
   obtain ⟨is, rfl⟩ := ints_of q1'
   refine ⟨is, rfl, ?_⟩
   have e2 : (WTm.lt (.lit (.int 63)) (.len (.arg 0))).value [] { args := [.list (is.map WData.int)] } = some (.bool (decide ((63 : Int) < ((is.map WData.int).length : Int)))) := rfl
   rw [List.length_map] at e2
   cases q : decide ((63 : Int) < (is.length : Int)) with
   | false => have := of_decide_eq_false q; omega
   | true =>
    rw [q] at e2
    have e3 : (WTm.not (.lt (.lit (.int 63)) (.len (.arg 0)))).value [] { args := [.list (is.map WData.int)] } = some (.bool false) := by
     unfold WTm.value; rw [e2]; rfl
    have e4 : (WTm.and (.not (.lt (.lit (.int 63)) (.len (.arg 0)))) (.lit (.bool true))).value [] { args := [.list (is.map WData.int)] } = some (.bool false) := by
     unfold WTm.value; rw [e3]
    unfold WTm.holds at p2
    rw [e4] at p2
    cases p2
theorem vals_of {P : Params} {h : Heap} {vals : List Value} {is : List Int} (x : WellAll P h vals [.list (is.map WData.int)]) : ∃ b vs, vals = [.ref b] ∧ h.get? b = some (listOf vs.toArray 0) ∧ WellAll P h vs (is.map WData.int) := by
 cases x with
 | cons a r =>
  cases r
  cases a with
  | list g w => exact ⟨_, _, rfl, g, w⟩
theorem lits_of {ν : Nat → Int} {P : Params} {h : Heap} : ∀ {is : List Int} {vs : List Value}, WellAll P h vs (is.map WData.int) → IRel ν (litsV is) vs ∧ vs.length = is.length
 | [], _, x => by cases x; exact ⟨.nil, rfl⟩
 | i :: r, _, x => by
  cases x with
  | cons a w =>
   cases a
   obtain ⟨h1, h2⟩ := lits_of (ν := ν) w
   exact ⟨.cons (i := .lit i) h1, by rw [List.length_cons, List.length_cons, h2]⟩
section
variable {w : World} {H : Heap}
theorem run_law (hH : Ext w H) {is : List Int} {vs : List Value} {n : Nat} {b : Addr} {P : Params} (g : H.get? b = some (listOf vs.toArray n)) (x : WellAll P H vs (is.map WData.int)) (hl : is.length ≤ 63) :
 ∃ ν a, V1 (gl w ν H) rh0 H a (.ref b) ∧ wH w ν H 33 noK 163 (.cons a .nil) .nil s00 isT = true := by
 cases is with
 | nil =>
  cases x
  refine ⟨fun V => 0, .frl .nil, .frl g .nil (by decide), ?_⟩
  exact h_lvl hH (R := .nil) .nil (fs163 _ hH) (by rw [e163]; exact law_nil (leans hH) (fun V => rfl) fun h => h_real hH .nil h)
 | cons c r =>
  cases x with
  | cons a w' =>
   cases a
   obtain ⟨h1, h2⟩ := lits_of (ν := pV c) w'
   refine ⟨pV c, scr r, .frl g (.cons (i := sy 0) h1) (by rw [List.length_cons, h2]; rw [List.length_cons] at hl; omega), ?_⟩
   exact h_lvl hH (pR_ok c) (fs163 _ hH) (by rw [e163]; exact law_run (leans hH) (fun V => rfl) fun h => h_real hH (pR_ok c) h)
end
end Mst
end
section
namespace Mst
open PySem PySem.W PyProof.Rows PySem.Calls
theorem walk : WalkO qv lse (XL qv []) YPh rowL.toRowW dL [] fun f vs => PySem.call f vs := by
 intro w s₀ s₁ mg mb Gd hY a o pm cd doc dV kV ho hod hcd hdf hmg hgens args vals as hpre hlay hrd hwell hsys
 have hH : Ext w s₁.heap := hY
 obtain ⟨is, rfl, hl⟩ := args_of hpre
 obtain ⟨b, vs, rfl, hb, hw⟩ := vals_of hwell
 have ha : a = nthN fnAL 163 := by
  obtain ⟨o3, es, ep, h1, h2, _, h4⟩ := Gd.T.g
  have e3 : s₁.heap.get? mainGlobals = some (o3x13 w.params) := hH _ _ (obF_get (by kernel_rfl))
  rw [e3] at h1
  cases h1
  have h5 : Data.dict _ _ = Data.dict es ep := h2
  injection h5 with e1 _
  have h6 : nsFind es dL.name = some (.ref (nthN fnAL 163)) := by rw [← e1]; kernel_rfl
  have h7 := (h4 dL.name).symm.trans h6
  rw [hmg] at h7
  cases h7; rfl
 subst ha
 obtain ⟨ν, av, hv, hk⟩ := run_law hH hb hw hl
 have X : SR (gl w ν s₁.heap) rh0 s00 s₁.heap :=
  ⟨fun b o h => h, fun p o hp => (by cases p <;> cases hp), fun p x h => (by cases h), fun p q a b d h => (by cases h), fun p a d h => (by cases h), fun p a d h => (by cases h)⟩
 have st : Stk (gl w ν s₁.heap) callerA rh0 s₁.heap := ⟨[], rfl, fun e he => (by cases he)⟩
 have Rh : RmH callerA 33 := ⟨rfl, by decide, by decide⟩
 refine wpAny_call (codeAny_mono (wH_ok w ν s₁.heap 33 noK 163 (.cons av .nil) .nil s00 isT hk default callerA s₁ rh0 [.ref b] [] st X (.cons hv .nil) .nil fine0 Rh) fun res s' q => ?_)
 rcases res with e | (v | _ | _ | _)
 · exact absurd q (ZeX_no (env := default))
 · exact q.elim
 · exact q.elim
 · exact q.elim
 · obtain ⟨av', σ', ρ', P, hv', hk'⟩ := q
   obtain rfl := isT_is _ _ hk'
   cases hv'
   refine ⟨.inl ⟨.bool true, .bool true, [], rfl, fun V => rfl, .bool true, by kernel_rfl, fun V => ⟨List.nodup_nil, fun a h => (by cases h)⟩⟩, OldK.of_keep P.sr.base, ?_, .of_eq ?_⟩
   · rw [P.rest]
   · rw [P.rest]; exact hgens
theorem law_holds : PySem.Challenge.rw_pq1174_01.Holds := head walk
end Mst
end
theorem PySem.Challenge.cw_pq1174_01_holds : PySem.Challenge.rw_pq1174_01.Holds :=
  Mst.law_holds
