import PyProof.Rows.All
import Wide.All
import OpenK.AllK
import KE.KSlice
import KE.KUnpack
import Lean
import PySem.Challenge.RW_pq1425_01
set_option Elab.async false
set_option maxRecDepth 1000000
set_option maxHeartbeats 0
set_option linter.unusedVariables false
namespace Mine
noncomputable section
section
open PySem PySem.W PyProof.Rows PySem.Calls PySem.Spec
noncomputable abbrev pT : Program := Challenge.pw_pq1425_01
noncomputable def rwT : OpenLaw := { prog := pT, name := ⟨#[108,97,119]⟩, about := [⟨#[98,95,109,101,114,103,101]⟩], foot := 5, most := some 63, bound := none, writes := false }
theorem rw_eq : Challenge.rw_pq1425_01 = rwT := by
  unfold Challenge.rw_pq1425_01 rwT
  kernel_rfl
noncomputable def stAt (i : Nat) : Stmt := (pT.main.body[i]?).getD (.Pass default)
noncomputable def stIn (i k : Nat) : Stmt := match stAt i with
  | .ClassDef _ _ _ body _ _ _ _ _ _ _ => (body[k]?).getD (.Pass default)
  | _ => .Pass default
noncomputable def fdName : Stmt → Str | .FunctionDef n .. => n | _ => ⟨#[]⟩
noncomputable def fdArgs : Stmt → Arguments | .FunctionDef _ a .. => a | _ => default
noncomputable def fdBody : Stmt → List Stmt | .FunctionDef _ _ b .. => b | _ => []
noncomputable def fdScope : Stmt → Scope | .FunctionDef _ _ _ _ _ _ sc .. => sc | _ => default
noncomputable def mkFD (st : Stmt) (q : Str) (c : Addr) (dfl pm : Value) : FuncData := { name := fdName st, qualname := q, params := fdArgs st, body := .stmts (fdBody st), scope := fdScope st, globals := 3, closure := [], defaults := dfl, kwdefaults := .none, doc := .none, pyModule := pm, annotations := none, code := .ref c, closureTuple := .none, builtins := 0 }
noncomputable def mkF (i : Nat) (c : Addr) (dfl pm : Value) : Obj := ⟨.type "function", none, .func (mkFD (stAt i) (fdName (stAt i)) c dfl pm), #[]⟩
noncomputable def mkM (i : Nat) (q : Str) (k : Nat) (c : Addr) (dfl pm : Value) : Obj := ⟨.type "function", none, .func (mkFD (stIn i k) q c dfl pm), #[]⟩
noncomputable def kE (P : Params) (n : Str) (t : Tok) (v : Value) : DictEntry := ⟨PyData.keyHash P n, .str n t, v⟩
-- printed by gen_k.py
noncomputable def pm0 : Value := (.str ⟨#[118,101,99,116,111,114,99,111,118,101,46,114,97,116,105,111,110,97,108]⟩ 241)
noncomputable def pm1 : Value := (.str ⟨#[118,101,99,116,111,114,99,111,118,101,46,110,117,109,116,101,120,116]⟩ 348)
noncomputable def pm2 : Value := (.str ⟨#[118,101,99,116,111,114,99,111,118,101,46,118,97,108,117,101,115]⟩ 562)
noncomputable def pm3 : Value := (.str ⟨#[118,101,99,116,111,114,99,111,118,101,46,97,116,116,114,115]⟩ 687)
noncomputable def pm4 : Value := (.str ⟨#[118,101,99,116,111,114,99,111,118,101,46,99,97,108,108,97,114,103,115]⟩ 747)
noncomputable def pm5 : Value := (.str ⟨#[118,101,99,116,111,114,99,111,118,101,46,99,111,101,114,99,101]⟩ 885)
noncomputable def pm6 : Value := (.str ⟨#[118,101,99,116,111,114,99,111,118,101,46,109,97,116,97,114,103,115]⟩ 1037)
noncomputable def pm7 : Value := (.str ⟨#[118,101,99,116,111,114,99,111,118,101,46,102,114,97,109,101,115]⟩ 1048)
noncomputable def pm8 : Value := (.str ⟨#[118,101,99,116,111,114,99,111,118,101,46,102,114,97,109,101,97,103,103,114,101,103,97,116,101]⟩ 1135)
noncomputable def pm9 : Value := (.str ⟨#[118,101,99,116,111,114,99,111,118,101,46,115,111,114,116,105,110,103]⟩ 1154)
noncomputable def pm10 : Value := (.str ⟨#[118,101,99,116,111,114,99,111,118,101,46,106,111,105,110,115]⟩ 1280)
noncomputable def pm11 : Value := (.str ⟨#[118,101,99,116,111,114,99,111,118,101,46,102,114,97,109,101,118,101,114,98,115]⟩ 1398)
noncomputable def pm12 : Value := (.str ⟨#[108,97,119,95,112,113,49,52,50,53,95,48,49]⟩ 1445)
noncomputable def pm13 : Value := (.str ⟨#[118,101,99,116,111,114,99,111,118,101,46,101,114,114,111,114,115]⟩ 194)
noncomputable def kF : List (Addr × Obj) := [
  (84, mkF 13 83 .none pm0),
  (140, mkF 24 139 .none pm1),
  (147, mkF 25 146 .none pm1),
  (230, mkF 37 229 .none pm1),
  (329, mkF 48 328 .none pm2),
  (336, mkF 49 335 .none pm2),
  (343, mkF 50 342 .none pm2),
  (350, mkF 51 349 .none pm2),
  (357, mkF 52 356 .none pm2),
  (371, mkF 54 370 .none pm2),
  (378, mkF 56 377 .none pm3),
  (385, mkF 57 384 .none pm3),
  (397, mkF 59 396 .none pm3),
  (402, mkF 60 401 .none pm3),
  (409, mkF 61 408 .none pm3),
  (421, mkF 63 420 .none pm3),
  (503, mkF 68 502 .none pm4),
  (514, mkF 70 513 (.ref 509) pm4),
  (521, mkF 71 520 .none pm4),
  (527, mkF 72 526 (.ref 522) pm4),
  (590, mkF 83 589 .none pm5),
  (604, mkF 85 603 .none pm5),
  (611, mkF 86 610 .none pm5),
  (637, mkF 90 636 .none pm5),
  (642, mkF 91 641 .none pm5),
  (656, mkF 94 655 .none pm6),
  (663, mkF 96 662 .none pm7),
  (670, mkF 97 669 .none pm7),
  (689, mkF 100 688 .none pm7),
  (696, mkF 101 695 .none pm7),
  (703, mkF 102 702 .none pm7),
  (708, mkF 103 707 .none pm7),
  (715, mkF 104 714 .none pm7),
  (729, mkF 106 728 .none pm7),
  (736, mkF 108 735 .none pm8),
  (743, mkF 109 742 .none pm8),
  (750, mkF 111 749 .none pm9),
  (757, mkF 112 756 .none pm9),
  (764, mkF 113 763 .none pm9),
  (771, mkF 114 770 .none pm9),
  (778, mkF 115 777 .none pm9),
  (785, mkF 116 784 .none pm9),
  (790, mkF 117 789 .none pm9),
  (795, mkF 118 794 .none pm9),
  (802, mkF 119 801 .none pm9),
  (810, mkF 120 809 (.ref 803) pm9),
  (827, mkF 125 826 .none pm10),
  (834, mkF 126 833 .none pm10),
  (839, mkF 127 838 .none pm10),
  (846, mkF 128 845 .none pm10),
  (853, mkF 129 852 .none pm10),
  (872, mkF 132 871 .none pm10),
  (877, mkF 133 876 .none pm10),
  (884, mkF 134 883 .none pm10),
  (891, mkF 135 890 .none pm10),
  (896, mkF 136 895 .none pm10),
  (902, mkF 137 901 (.ref 897) pm10),
  (907, mkF 138 906 .none pm10),
  (912, mkF 140 911 .none pm11),
  (919, mkF 141 918 .none pm11),
  (926, mkF 142 925 .none pm11),
  (933, mkF 144 932 .none pm12),
  (938, mkF 145 937 .none pm12),
  (945, mkF 146 944 .none pm12),
  (950, mkF 147 949 .none pm12),
  (955, mkF 148 954 .none pm12),
  (364, mkF 53 363 .none pm2),
  (48, mkM 3 ⟨#[82,101,102,117,115,97,108,46,95,95,105,110,105,116,95,95]⟩ 0 47 .none pm13),
  (308, mkM 47 ⟨#[86,101,99,116,111,114,46,95,95,105,110,105,116,95,95]⟩ 0 307 (.ref 301) pm2),
  (315, mkM 47 ⟨#[86,101,99,116,111,114,46,99,111,112,121]⟩ 1 314 .none pm2),
  (435, mkM 65 ⟨#[77,97,116,99,104,105,110,103,46,95,95,105,110,105,116,95,95]⟩ 0 434 .none pm4),
  (442, mkM 65 ⟨#[77,97,116,99,104,105,110,103,46,101,120,97,99,116]⟩ 1 441 .none pm4),
  (449, mkM 65 ⟨#[77,97,116,99,104,105,110,103,46,112,97,114,116,105,97,108]⟩ 2 448 .none pm4),
  (456, mkM 65 ⟨#[77,97,116,99,104,105,110,103,46,112,97,114,116,105,97,108,95,111,102]⟩ 3 455 .none pm4),
  (463, mkM 65 ⟨#[77,97,116,99,104,105,110,103,46,112,111,115,105,116,105,111,110,97,108]⟩ 4 462 .none pm4),
  (470, mkM 65 ⟨#[77,97,116,99,104,105,110,103,46,105,115,95,102,114,101,101]⟩ 5 469 .none pm4),
  (475, mkM 65 ⟨#[77,97,116,99,104,105,110,103,46,114,101,115,116]⟩ 6 474 .none pm4)]
noncomputable def kT : List (Addr × Obj) := [(301, ⟨(.type "tuple"), none, .seq #[.none] 0, #[]⟩), (509, ⟨(.type "tuple"), none, .seq #[.none] 0, #[]⟩), (522, ⟨(.type "tuple"), none, .seq #[.none] 0, #[]⟩), (803, ⟨(.type "tuple"), none, .seq #[(.bool false), (.bool true)] 0, #[]⟩), (897, ⟨(.type "tuple"), none, .seq #[(.bool true)] 0, #[]⟩)]
noncomputable def kC (P : Params) : List (Addr × Obj) := [
  (31, ⟨.type "type", none, .cls { name := ⟨#[67,111,118,101,69,114,114,111,114]⟩, bases := [(.type "Exception")], mro := [(.ref 31), (.type "Exception"), (.type "BaseException"), (.type "object")], ns := 30, qualname := ⟨#[67,111,118,101,69,114,114,111,114]⟩, hasDict := true, slotNames := [], subclasses := [.ref 51], abstract := false, collection := none, hasDel := false }, #[some (.ref 22), none, some (.str ⟨#[67,111,118,101,69,114,114,111,114]⟩ 196), some (.str ⟨#[67,111,118,101,69,114,114,111,114]⟩ 204), some (.builtin "Exception.__new__"), some (.bool true)]⟩),
  (51, ⟨.type "type", none, .cls { name := ⟨#[82,101,102,117,115,97,108]⟩, bases := [(.ref 31)], mro := [(.ref 51), (.ref 31), (.type "Exception"), (.type "BaseException"), (.type "object")], ns := 50, qualname := ⟨#[82,101,102,117,115,97,108]⟩, hasDict := true, slotNames := [], subclasses := [], abstract := false, collection := none, hasDel := false }, #[some (.ref 35), none, some (.str ⟨#[82,101,102,117,115,97,108]⟩ 216), some (.str ⟨#[82,101,102,117,115,97,108]⟩ 224), some (.builtin "Exception.__new__"), some (.bool true)]⟩),
  (318, ⟨.type "type", none, .cls { name := ⟨#[86,101,99,116,111,114]⟩, bases := [(.type "object")], mro := [(.ref 318), (.type "object")], ns := 317, qualname := ⟨#[86,101,99,116,111,114]⟩, hasDict := true, slotNames := [], subclasses := [], abstract := false, collection := none, hasDel := false }, #[none, none, some (.str ⟨#[86,101,99,116,111,114]⟩ 595), some (.str ⟨#[86,101,99,116,111,114]⟩ 603), some (.builtin "object.__new__"), some (.bool true)]⟩),
  (478, ⟨.type "type", none, .cls { name := ⟨#[77,97,116,99,104,105,110,103]⟩, bases := [(.type "object")], mro := [(.ref 478), (.type "object")], ns := 477, qualname := ⟨#[77,97,116,99,104,105,110,103]⟩, hasDict := true, slotNames := [], subclasses := [], abstract := false, collection := none, hasDel := false }, #[none, none, some (.str ⟨#[77,97,116,99,104,105,110,103]⟩ 749), some (.str ⟨#[77,97,116,99,104,105,110,103]⟩ 757), some (.builtin "object.__new__"), some (.bool true)]⟩),
  (30, ⟨(.type "dict"), none, .dict #[kE P ⟨#[95,95,109,111,100,117,108,101,95,95]⟩ 203 (.str ⟨#[118,101,99,116,111,114,99,111,118,101,46,101,114,114,111,114,115]⟩ 194), kE P ⟨#[95,95,102,105,114,115,116,108,105,110,101,110,111,95,95]⟩ 207 (.int 5 206), kE P ⟨#[95,95,115,116,97,116,105,99,95,97,116,116,114,105,98,117,116,101,115,95,95]⟩ 208 (.ref 29), kE P ⟨#[95,95,119,101,97,107,114,101,102,95,95]⟩ 210 (.ref 32), kE P ⟨#[95,95,100,111,99,95,95]⟩ 211 .none] 3, #[]⟩),
  (50, ⟨(.type "dict"), none, .dict #[kE P ⟨#[95,95,109,111,100,117,108,101,95,95]⟩ 223 (.str ⟨#[118,101,99,116,111,114,99,111,118,101,46,101,114,114,111,114,115]⟩ 194), kE P ⟨#[95,95,102,105,114,115,116,108,105,110,101,110,111,95,95]⟩ 227 (.int 7 226), kE P ⟨#[95,95,105,110,105,116,95,95]⟩ 235 (.ref 48), kE P ⟨#[95,95,115,116,97,116,105,99,95,97,116,116,114,105,98,117,116,101,115,95,95]⟩ 237 (.ref 49), kE P ⟨#[95,95,100,111,99,95,95]⟩ 238 .none] 2, #[]⟩),
  (317, ⟨(.type "dict"), none, .dict #[kE P ⟨#[95,95,109,111,100,117,108,101,95,95]⟩ 602 (.str ⟨#[118,101,99,116,111,114,99,111,118,101,46,118,97,108,117,101,115]⟩ 562), kE P ⟨#[95,95,102,105,114,115,116,108,105,110,101,110,111,95,95]⟩ 606 (.int 294 605), kE P ⟨#[95,95,105,110,105,116,95,95]⟩ 616 (.ref 308), kE P ⟨#[99,111,112,121]⟩ 623 (.ref 315), kE P ⟨#[95,95,115,116,97,116,105,99,95,97,116,116,114,105,98,117,116,101,115,95,95]⟩ 629 (.ref 316), kE P ⟨#[95,95,100,105,99,116,95,95]⟩ 631 (.ref 319), kE P ⟨#[95,95,119,101,97,107,114,101,102,95,95]⟩ 633 (.ref 320), kE P ⟨#[95,95,100,111,99,95,95]⟩ 634 .none] 4, #[]⟩),
  (477, ⟨(.type "dict"), none, .dict #[kE P ⟨#[95,95,109,111,100,117,108,101,95,95]⟩ 756 (.str ⟨#[118,101,99,116,111,114,99,111,118,101,46,99,97,108,108,97,114,103,115]⟩ 747), kE P ⟨#[95,95,102,105,114,115,116,108,105,110,101,110,111,95,95]⟩ 760 (.int 389 759), kE P ⟨#[95,95,105,110,105,116,95,95]⟩ 769 (.ref 435), kE P ⟨#[101,120,97,99,116]⟩ 778 (.ref 442), kE P ⟨#[112,97,114,116,105,97,108]⟩ 786 (.ref 449), kE P ⟨#[112,97,114,116,105,97,108,95,111,102]⟩ 796 (.ref 456), kE P ⟨#[112,111,115,105,116,105,111,110,97,108]⟩ 805 (.ref 463), kE P ⟨#[105,115,95,102,114,101,101]⟩ 813 (.ref 470), kE P ⟨#[114,101,115,116]⟩ 819 (.ref 475), kE P ⟨#[95,95,115,116,97,116,105,99,95,97,116,116,114,105,98,117,116,101,115,95,95]⟩ 824 (.ref 476), kE P ⟨#[95,95,100,105,99,116,95,95]⟩ 826 (.ref 479), kE P ⟨#[95,95,119,101,97,107,114,101,102,95,95]⟩ 828 (.ref 480), kE P ⟨#[95,95,100,111,99,95,95]⟩ 829 .none] 4, #[]⟩)]
noncomputable def gTab : List (Str × Option Value) := [
  (⟨#[102,114,111,109,95,105,110,116]⟩, some (.ref 84)),
  (⟨#[119,104,111,108,101,95,116,101,120,116]⟩, some (.ref 140)),
  (⟨#[115,112,101,99,105,97,108,95,116,101,120,116]⟩, some (.ref 147)),
  (⟨#[101,120,97,99,116,95,116,101,120,116]⟩, some (.ref 230)),
  (⟨#[114,111,111,109]⟩, some (.ref 329)),
  (⟨#[105,110,116,101,103,101,114]⟩, some (.ref 336)),
  (⟨#[99,104,97,114,97,99,116,101,114]⟩, some (.ref 343)),
  (⟨#[108,101,110,103,116,104]⟩, some (.ref 350)),
  (⟨#[105,115,95,118,101,99,116,111,114]⟩, some (.ref 357)),
  (⟨#[115,104,97,114,101]⟩, some (.ref 371)),
  (⟨#[103,101,116,95,97,116,116,114]⟩, some (.ref 378)),
  (⟨#[108,97,98,101,108,95,116,101,120,116]⟩, some (.ref 385)),
  (⟨#[108,97,98,101,108,95,116,101,120,116,115]⟩, some (.ref 397)),
  (⟨#[110,97,109,101,115,95,111,102]⟩, some (.ref 402)),
  (⟨#[100,105,109,95,111,102]⟩, some (.ref 409)),
  (⟨#[99,108,97,115,115,95,97,116,116,114]⟩, some (.ref 421)),
  (⟨#[112,108,97,105,110,95,116,101,120,116]⟩, some (.ref 503)),
  (⟨#[109,97,116,99,104,95,110,97,109,101,115]⟩, some (.ref 514)),
  (⟨#[110,101,101,100,101,100]⟩, some (.ref 521)),
  (⟨#[116,97,107,101]⟩, some (.ref 527)),
  (⟨#[116,111,95,100,111,117,98,108,101]⟩, some (.ref 590)),
  (⟨#[105,116,101,109,95,97,115]⟩, some (.ref 604)),
  (⟨#[105,115,95,97,116,111,109,105,99,95,107,105,110,100]⟩, some (.ref 611)),
  (⟨#[119,105,116,104,95,110,97,109,101,115]⟩, some (.ref 637)),
  (⟨#[97,115,95,107,105,110,100]⟩, some (.ref 642)),
  (⟨#[105,115,95,116,114,117,101]⟩, some (.ref 656)),
  (⟨#[105,115,95,102,114,97,109,101]⟩, some (.ref 663)),
  (⟨#[105,115,95,102,97,99,116,111,114]⟩, some (.ref 670)),
  (⟨#[110,101,119,95,102,114,97,109,101]⟩, some (.ref 689)),
  (⟨#[112,108,97,105,110,95,114,111,119,115]⟩, some (.ref 696)),
  (⟨#[102,114,97,109,101,95,114,111,119,115]⟩, some (.ref 703)),
  (⟨#[99,111,108,117,109,110,95,110,97,109,101,115]⟩, some (.ref 708)),
  (⟨#[107,101,112,116,95,97,116,116,114,115]⟩, some (.ref 715)),
  (⟨#[112,105,99,107,95,105,116,101,109,115]⟩, some (.ref 729)),
  (⟨#[102,114,97,109,101,95,97,114,103,117,109,101,110,116]⟩, some (.ref 736)),
  (⟨#[100,105,115,116,105,110,99,116,95,110,97,109,101,115]⟩, some (.ref 743)),
  (⟨#[105,115,95,108,97,99,107,105,110,103]⟩, some (.ref 750)),
  (⟨#[99,111,109,112,97,114,101,95,105,116,101,109,115]⟩, some (.ref 757)),
  (⟨#[99,104,101,99,107,95,115,111,114,116,97,98,108,101]⟩, some (.ref 764)),
  (⟨#[99,111,109,112,97,114,101,95,112,108,97,99,101,115]⟩, some (.ref 771)),
  (⟨#[99,111,109,112,97,114,101,95,107,101,121,115]⟩, some (.ref 778)),
  (⟨#[109,101,114,103,101,95,114,117,110,115]⟩, some (.ref 785)),
  (⟨#[109,101,114,103,101,95,115,111,114,116]⟩, some (.ref 790)),
  (⟨#[101,97,99,104,95,107,101,121]⟩, some (.ref 795)),
  (⟨#[107,101,112,116,95,112,108,97,99,101,115]⟩, some (.ref 802)),
  (⟨#[111,114,100,101,114,95,98,121]⟩, some (.ref 810)),
  (⟨#[99,111,108,117,109,110,95,107,101,121,115]⟩, some (.ref 827)),
  (⟨#[97,115,95,107,101,121]⟩, some (.ref 834)),
  (⟨#[114,111,119,95,107,101,121,115]⟩, some (.ref 839)),
  (⟨#[99,104,101,99,107,95,98,121]⟩, some (.ref 846)),
  (⟨#[109,97,116,99,104,101,100,95,112,97,105,114,115]⟩, some (.ref 853)),
  (⟨#[109,101,114,103,101,100,95,112,97,105,114,115]⟩, some (.ref 872)),
  (⟨#[107,101,121,95,99,111,108,117,109,110]⟩, some (.ref 877)),
  (⟨#[111,116,104,101,114,95,110,97,109,101,115]⟩, some (.ref 884)),
  (⟨#[115,111,114,116,95,107,101,121]⟩, some (.ref 891)),
  (⟨#[109,101,114,103,101,95,111,114,100,101,114]⟩, some (.ref 896)),
  (⟨#[109,101,114,103,101,95,102,114,97,109,101,115]⟩, some (.ref 902)),
  (⟨#[99,111,109,109,111,110,95,110,97,109,101,115]⟩, some (.ref 907)),
  (⟨#[107,101,121,95,110,97,109,101,115]⟩, some (.ref 912)),
  (⟨#[114,101,110,97,109,101,100]⟩, some (.ref 919)),
  (⟨#[98,95,109,101,114,103,101]⟩, some (.ref 926)),
  (⟨#[95,108,97,119,95,115,101,101,100,108,105,110,103,115]⟩, some (.ref 933)),
  (⟨#[95,108,97,119,95,102,114,97,109,101]⟩, some (.ref 938)),
  (⟨#[95,108,97,119,95,97,115,107,101,100]⟩, some (.ref 945)),
  (⟨#[95,108,97,119,95,108,105,110,101,115]⟩, some (.ref 950)),
  (⟨#[108,97,119]⟩, some (.ref 955)),
  (⟨#[105,115,95,97,116,111,109,105,99]⟩, some (.ref 364)),
  (⟨#[82,101,102,117,115,97,108]⟩, some (.ref 51)),
  (⟨#[86,101,99,116,111,114]⟩, some (.ref 318)),
  (⟨#[77,97,116,99,104,105,110,103]⟩, some (.ref 478)),
  (⟨#[77,79,83,84,95,76,69,78,71,84,72]⟩, some (.int 1000000 564)),
  (⟨#[108,101,110]⟩, none),
  (⟨#[97,98,115]⟩, none),
  (⟨#[105,110,116]⟩, none),
  (⟨#[115,116,114]⟩, none),
  (⟨#[108,105,115,116]⟩, none),
  (⟨#[114,97,110,103,101]⟩, none),
  (⟨#[115,111,114,116,101,100]⟩, none),
  (⟨#[105,115,105,110,115,116,97,110,99,101]⟩, none)]
noncomputable def kAll (P : Params) : Frag := kF ++ kT ++ kC P
noncomputable def asK : List Addr := kF.map (·.1) ++ kT.map (·.1) ++ [31, 51, 318, 478, 30, 50, 317, 477]
noncomputable def q0 : Program := { pT with main := { pT.main with body := [stAt 148] } }
noncomputable def loose0 : List Str := pT.boundNames.filter fun n => !(n == ⟨#[108,97,119]⟩)
noncomputable def T0 (P : Params) : BT := (((((((((((BT.nil.ins 0 (boot_o_0 P)).ins 1 (boot_o_1 P)).ins 2 (boot_o_2 P)).ins 3 (boot_o_3 P)).ins 4 (boot_o_4 P)).ins 5 (boot_o_5 P)).ins 6 (boot_o_6 P)).ins 7 (boot_o_7 P)).ins 8 (boot_o_8 P)).ins 9 (boot_o_9 P)).ins 10 (boot_o_10 P))
noncomputable def S0 (P : Params) (os : OsState) : SharedT := ⟨T0 P, 11, (boot_heap P).life, #[], boot_drawn, boot_toks, os⟩
noncomputable def finT (w : World) (os : OsState) : Option (Flow × SharedT × Code × Pos) := PySem.W.Fast.tw10110043849684766642 PySem.W.Fast.tw14364793385576792824 pT w 11 (some (.ref 6)) 0 5300 (S0 w.params os) (topStub pT)
theorem noneO {α : Type} {y : α} {G : Prop} (h : none = some y) : G := by cases h
theorem end_through (t : Thread) : (endAt 0 t).isSome = through t := by
  obtain ⟨cur, code, pos, stack⟩ := t
  rcases stack with _ | ⟨_, _⟩
  · cases cur with
    | pure x => cases x <;> rfl
    | _ => rfl
  · cases cur <;> rfl
theorem seg0_top {tb : String → Option Builtin} {p : Program} {w : World} {n₀ : Nat} {ann : Option Value} : ∀ {n : Nat} {s s' : Shared} {t : Thread} {f : Flow} {c : Code} {q : Pos},
    segRun tb p w n₀ ann 0 n s t = some (f, s', c, q) → topRun tb p w n₀ ann n s t = some s'
  | 0, _, _, _, _, _, _, h => by cases h
  | n + 1, s, s', t, f, c, q, h => by
    unfold segRun at h
    unfold topRun
    have key := end_through t
    generalize endAt 0 t = o at h key
    rcases o with _ | x
    · rw [← key]
      generalize hk : stepOk n₀ ann t = k at h
      cases k with
      | false => exact noneO h
      | true =>
        dsimp only at h ⊢
        generalize hs : step (denote tb) p w s t = r at h
        cases r with
        | halt o s' => exact noneO h
        | go s₂ t₂ => exact seg0_top h
    · rw [← key]
      cases h; rfl

theorem left_of {p q : Program} {loose : List Str} {Xt : Shared → Bool} {α : Type} {Yf : Shared → α} {Ya : World → α} {N : Nat} {g0 : Bool} {H₀ : Params → Heap} {gs₀ : Array GenState} {d₀ : Drawn} {k₀ : Nat} {m₀ : Nat} {ann : Option Value} {M : Nat}
    (open_ : ∀ w : World, (fencedOpening treeTable p w N).map (fun s => (s.heap, s.gens, s.drawn, s.toks)) = some (H₀ w.params, gs₀, d₀, k₀))
    (size : ∀ w : World, ((H₀ w.params).isNs mainGlobals && gs₀.size == 0, (H₀ w.params).objs.size, (H₀ w.params).nsMap mainGlobals "__annotations__") = (true, m₀, ann)) (le : Nat.ble M N = true)
    (all : ∀ (w : World) (os : OsState), ∃ s', topRun treeTable p w m₀ ann M ⟨H₀ w.params, gs₀, d₀, k₀, os⟩ (topStub p) = some s' ∧
      (staticsOk (importedModules p.main.body) (H₀ w.params) s'.heap && namesBound p s'.heap && gensDone s' && laidKept (H₀ w.params) s'.heap) = true ∧
      openSeen q loose (importedModules p.main.body) Xt g0 s' = openGood q loose ∧ Yf s' = Ya w) : LeftO p q loose Xt Yf Ya N g0 := fun w => by
  obtain ⟨⟨h, gs, d, k, os⟩, e, e'⟩ := Option.map_eq_some_iff.mp (open_ w)
  obtain ⟨rfl, rfl, rfl, rfl⟩ : h = H₀ w.params ∧ gs = gs₀ ∧ d = d₀ ∧ k = k₀ := by simpa using e'
  obtain ⟨z1, z2, z3⟩ : _ ∧ _ ∧ _ := by simpa only [Prod.mk.injEq] using size w
  obtain ⟨s', r, l1, l2, l3⟩ := all w os
  have r := topRun_mono (N - M) _ _ _ _ r
  rw [show M + (N - M) = N by have := Nat.le_of_ble_eq_true le; lia] at r
  have t : topFrom treeTable p w N ⟨H₀ w.params, gs, d, k, os⟩ = some s' := by
    unfold topFrom
    dsimp only
    rw [z1, z2, z3, r]
    show (match staticsOk (importedModules p.main.body) (H₀ w.params) s'.heap && namesBound p s'.heap && gensDone s' && laidKept (H₀ w.params) s'.heap with | true => _ | false => _) = _
    rw [l1]
  unfold openEnds
  rw [e]
  show (topFrom treeTable p w N _).map _ = _
  rw [t]
  exact congrArg some (Prod.ext l2 l3)

theorem op0 : ∀ w : World, (fencedOpening treeTable pT w 5300).map (fun s => (s.heap, s.gens, s.drawn, s.toks)) = some (boot_heap w.params, Array.mk [], boot_drawn, boot_toks) :=
  boot_open (by kernel_rfl) (by decide) (fun s => by kernel_rfl)
theorem size0 : ∀ w : World, ((boot_heap w.params).isNs mainGlobals && (Array.mk [] : Array GenState).size == 0, (boot_heap w.params).objs.size, (boot_heap w.params).nsMap mainGlobals "__annotations__") = (true, 11, some (.ref 6)) := fun w => by kernel_rfl
theorem abs0 (P : Params) (os : OsState) : (S0 P os).abs = ⟨boot_heap P, #[], boot_drawn, boot_toks, os⟩ := by kernel_rfl
noncomputable def getT (t : BT) (n : Nat) (a : Nat) : Option Obj := match Nat.blt a n with
  | true => alive ((t.get a).getD default)
  | false => none
theorem abs_getT (t : BT) (n : Nat) (life : Life) : (absHeap t n life).get? = getT t n := by
  funext a
  unfold Heap.get? getT
  rw [absHeap_at]
  cases h : Nat.blt a n with
  | true =>
    have lt : a < n := Nat.le_of_ble_eq_true h
    rw [if_pos lt]
    generalize (t.get a).getD default = o
    obtain ⟨c, d, dt, sl⟩ := o
    cases dt <;> rfl
  | false =>
    have lt : ¬ a < n := fun q => by rw [show Nat.blt a n = true from Nat.ble_eq_true_of_le q] at h; cases h
    rw [if_neg lt]
noncomputable def lookK (n : Str) : List DictEntry → Option Value
  | [] => none
  | e :: r => match e.key with
    | .str x _ => bif Fast.sEq x n then some e.val else lookK n r
    | _ => lookK n r
theorem lookK_eq (n : Str) : ∀ es : List DictEntry, lookK n es = (es.find? fun e => e.key.isStr n).map (·.val)
  | [] => rfl
  | e :: r => by
    unfold lookK
    rw [List.find?_cons]
    cases hk : e.key with
    | str x t =>
      simp only [Value.isStr]
      cases h : Fast.sEq x n with
      | true =>
        have e2 := Fast.sEq_iff.mp h
        subst e2
        simp
      | false =>
        have : ¬ x = n := fun q => by rw [Fast.sEq_iff.mpr q] at h; cases h
        simp only [cond_false]
        rw [show (x == n) = false from beq_eq_false_iff_ne.mpr this]
        exact lookK_eq n r
    | _ => simp only [Value.isStr]; exact lookK_eq n r
noncomputable def nsG (g : Addr → Option Obj) (a : Addr) (n : Str) : Option Value := match g a with
  | some ⟨_, _, .dict es _, _⟩ => lookK n es.toList
  | _ => none
theorem nsG_eq {h : Heap} {a : Addr} {m : Str → Option Value} (N : h.Ns a m) (n : Str) : nsG h.get? a n = m n := by
  obtain ⟨⟨c, d, dt, sl⟩, es, ep, ho, hd, _, hf⟩ := N
  cases hd
  unfold nsG
  rw [ho]
  show lookK n es.toList = _
  rw [lookK_eq, ← hf]
  unfold nsFind findBy
  rw [Array.find?_toList]
noncomputable def fldV (o : Obj) : Option (Array Value) := match o.data with | .fields vs => some vs | _ => none
noncomputable def strV : Value → Option Str | .str x _ => some x | _ => none
noncomputable def codeG (g : Addr → Option Obj) (c : Addr) (q : Str) : Bool := ((g c).bind fun o => (fldV o).bind fun vs => vs[1]?.bind strV).any fun x => Fast.sEq x q
noncomputable def chkG (g : Addr → Option Obj) : Bool := (kF.all fun p => match p.2.data with | .func fd => (match fd.code with | .ref c => codeG g c fd.qualname | _ => false) | _ => false) && gTab.all fun p => decide (nsG g 3 p.1 = p.2)
noncomputable def LK1 (w : World) (r : Flow × SharedT × Code × Pos) : Bool := staticsOk (importedModules pT.main.body) (boot_heap w.params) r.2.1.abs.heap && namesBound pT r.2.1.abs.heap && gensDone r.2.1.abs && laidKept (boot_heap w.params) r.2.1.abs.heap
noncomputable def LK (r : Flow × SharedT × Code × Pos) :=
  (PySem.W.Fast.tw4187177175401517315 q0 loose0 (importedModules pT.main.body) (fun _ => true) true r.2.1.abs,
   asK.map (getT r.2.1.tree r.2.1.n), chkG (getT r.2.1.tree r.2.1.n))
/-! two checks: each runs the top; in one the looks take over 1 GB more -/
theorem look1 (w : World) (os : OsState) : (finT w os).map (LK1 w) = some true := by kernel_rfl
theorem look2 (w : World) (os : OsState) : (finT w os).map LK = some (openGood q0 loose0, (kAll w.params).map (fun p => some p.2), true) := by kernel_rfl
noncomputable def Yf (s : Shared) : List (Option Obj) × Bool := (asK.map s.heap.get?, chkG s.heap.get?)
noncomputable def Ya (w : World) : List (Option Obj) × Bool := ((kAll w.params).map (fun p => some p.2), true)
theorem left0 : LeftO pT q0 loose0 (fun _ => true) Yf Ya 5300 := left_of op0 size0 (M := 5300) (by decide) fun w os => by
  have h1 := look1 w os
  have h := look2 w os
  cases hf : finT w os with
  | none => rw [hf] at h; cases h
  | some r =>
    obtain ⟨f, st, c, q⟩ := r
    rw [hf] at h h1
    have l1 : LK1 w (f, st, c, q) = true := Option.some.inj h1
    have h' : LK (f, st, c, q) = _ := Option.some.inj h
    unfold LK at h'
    simp only [Prod.mk.injEq] at h'
    obtain ⟨l2, l3, l4⟩ := h'
    have run : segRunT treeTable pT w 11 (some (.ref 6)) 0 5300 (S0 w.params os) (topStub pT) = some (f, st, c, q) := by
      rw [PySem.W.Fast.te10110043849684766642, PySem.W.Fast.te14364793385576792824]; exact hf
    have run2 := seg0_top (segRun_of run)
    rw [abs0] at run2
    refine ⟨st.abs, run2, l1, ?_, ?_⟩
    · rw [PySem.W.Fast.te4187177175401517315]; exact l2
    · have e : st.abs.heap.get? = getT st.tree st.n := abs_getT _ _ _
      unfold Yf Ya
      rw [e, l3, l4]
noncomputable def dictLook (o : Obj) (n : Str) : Option Value := match o with
  | ⟨_, _, .dict es _, _⟩ => lookK n es.toList
  | _ => none
theorem dictLook_eq {g : Addr → Option Obj} {a : Addr} {o : Obj} (ho : g a = some o) (n : Str) : dictLook o n = nsG g a n := by
  unfold nsG dictLook
  rw [ho]
  obtain ⟨c, d, dt, sl⟩ := o
  cases dt <;> rfl
theorem anyO {α : Type} {o : Option α} {p : α → Bool} (h : o.any p = true) : ∃ x, o = some x ∧ p x = true := by
  cases o with
  | none => cases h
  | some x => exact ⟨x, rfl, h⟩
structure Sys (w : World) (h : Heap) : Prop where
  inK : (kAll w.params).In h
  codes : ∀ p ∈ kF, ∀ fd c, p.2.data = .func fd → fd.code = .ref c → h.CodeRec (.ref c) fd.qualname
  globs : ∃ o, h.get? 3 = some o ∧ ∀ p ∈ gTab, dictLook o p.1 = p.2
theorem Sys.keeps {w : World} {h h' : Heap} (S : Sys w h) (k : ∀ b o, h.get? b = some o → h'.get? b = some o) : Sys w h' :=
  ⟨S.inK.keeps k, fun p hp fd c e1 e2 => (S.codes p hp fd c e1 e2).keeps k, let ⟨o, a, b⟩ := S.globs; ⟨o, k _ _ a, b⟩⟩
theorem gTab_has : ∃ p ∈ gTab, ∃ v, p.2 = some v := ⟨_, List.Mem.head _, _, rfl⟩
theorem sys_of (w : World) (s : Shared) (e : Yf s = Ya w) : Sys w s.heap := by
  unfold Yf Ya at e
  simp only [Prod.mk.injEq] at e
  obtain ⟨e1, e2⟩ := e
  obtain ⟨c1, c2⟩ := Bool.and_eq_true_iff.mp e2
  refine ⟨Frag.in_of (as := asK) (by kernel_rfl) e1, fun p hp fd c h1 h2 => ?_, ?_⟩
  · have := List.all_eq_true.mp c1 p hp
    rw [h1] at this
    dsimp only at this
    rw [h2] at this
    dsimp only at this
    obtain ⟨x, hx, hq⟩ := anyO this
    obtain ⟨o, ho, hx⟩ := Option.bind_eq_some_iff.mp hx
    obtain ⟨vs, hv, hx⟩ := Option.bind_eq_some_iff.mp hx
    obtain ⟨v, h3, hx⟩ := Option.bind_eq_some_iff.mp hx
    obtain ⟨cl, d, od, sl⟩ := o
    cases od <;> try exact noneO hv
    cases Option.some.inj hv
    cases v <;> try exact noneO hx
    cases Option.some.inj hx
    rename_i t
    refine ⟨c, _, vs, t, rfl, ho, rfl, ?_⟩
    rw [h3, Fast.sEq_iff.mp hq]
  · have c3 : ∀ p ∈ gTab, nsG s.heap.get? 3 p.1 = p.2 := fun p hp => of_decide_eq_true (List.all_eq_true.mp c2 p hp)
    obtain ⟨p, hp, v, hv⟩ := gTab_has
    have := c3 p hp
    rw [hv] at this
    cases ho : s.heap.get? 3 with
    | none => unfold nsG at this; rw [ho] at this; cases this
    | some o =>
      refine ⟨o, rfl, fun p hp => ?_⟩
      rw [← c3 p hp]
      exact dictLook_eq ho p.1
theorem Sys.glob {w : World} {h : Heap} (S : Sys w h) {mg : Str → Option Value} (N : h.Ns mainGlobals mg) {n : Str} {v : Option Value} (hm : (n, v) ∈ gTab) : mg n = v := by
  obtain ⟨o, ho, hc⟩ := S.globs
  rw [← nsG_eq N n]
  exact (dictLook_eq ho n).symm.trans (hc _ hm)
/-- what is known of the heap at the call -/
structure Gnd (w : World) (mg mb : Str → Option Value) (h : Heap) : Prop where
  g : h.Ns mainGlobals mg
  b : h.Ns builtinsNs mb
  nolimit : h.NoLimit
  nodigits : ∃ mc, h.Ns cStatics mc ∧ mc "sys.int_max_str_digits" = none
  builtins : ∀ x : Str, x ≠ "__name__" → mb x = bootBuiltins x
  sys : Sys w h
noncomputable def LawWalk : Prop := ∀ (w : World) (s : Shared) (mg mb : Str → Option Value), Gnd w mg mb s.heap → s.gens = #[] → ∀ (l : Addr) (vs : List Value) (ns : List Int), s.heap.IsList l vs.toArray → IntsAre vs ns → ns.length ≤ 63 →
  wpAny (model pT w) callerA (call (.ref 955) [.ref l]) (fun v s' => v = .bool true ∧ (∀ b o, s.heap.get? b = some o → s'.heap.get? b = some o) ∧ s'.os = s.os ∧ s'.gens = #[]) (fun _ _ => False) s
noncomputable def lawRec : DefRec := ⟨fdName (stAt 148), fdArgs (stAt 148), fdBody (stAt 148), fdScope (stAt 148), match stAt 148 with | .FunctionDef _ _ _ _ _ _ _ _ _ p => p | _ => default⟩
theorem wit : rwT.row.toRowW.promised := ⟨[.list []], by decide +kernel, by decide +kernel⟩
theorem andI {a b : Bool} (h : a = true) (k : b = true) : (a && b) = true := by rw [h, k]; rfl
theorem okAll : (chainsOk q0 && opensWell rwT.row.prog && (frees rwT.row.toRowW && rwT.row.within.isEmpty)) = true := by
  repeat' (with_reducible refine andI ?_ ?_)
  all_goals as_aux_lemma => kernel_rfl
theorem head0 (W : LawWalk) (hws : rwT.row.wellSaid = true) : rwT.row.Holds := by
  refine holds_open (r := rwT.row) (q := q0) (loose := loose0) (Xt := fun _ => true) (XP := fun _ _ => True) (Yf := Yf) (Ya := Ya) (YP := Sys) (d := lawRec) (kwd := []) (N := 5300) left0 sys_of (fun w h h' S k => S.keeps k) (fun _ _ => trivial) (fun _ _ _ _ _ => trivial)
    (by kernel_rfl) (by kernel_rfl) (by kernel_rfl) (fun s _ => recFacts_nil rfl) (by kernel_rfl) hws okAll ⟨rfl, rfl, rfl, rfl, rfl, by decide +kernel⟩ wit ?_
  intro w s₀ s₁ mg mb G Y a o pm cd doc dV kV ho hd hcd hD hmg hg args vals as hpre hlay hrd hwl hlo
  have T := G.T
  have Gd : Gnd w mg mb s₁.heap := ⟨T.g, T.b, T.nolimit, T.nodigits, T.builtins, Y⟩
  have ha : a = 955 := by
    have h1 : mg ⟨#[108,97,119]⟩ = some (.ref 955) := Y.glob T.g (by decide +kernel)
    have h2 : lawRec.name = ⟨#[108,97,119]⟩ := by kernel_rfl
    rw [h2, h1] at hmg
    cases hmg; rfl
  subst ha
  clear hD hcd hd ho hmg
  wrow_args hpre hlay hrd hwl hlo
  rename_i ns _ _ _ _ _ _ _ l vs _ hL _ _ _ hI _ hc _
  refine wpAny_mono (W w s₁ mg mb Gd hg l vs ns hL hI (by omega)) (fun v s' hv => ?_) (fun _ _ h => h.elim)
  obtain ⟨rfl, hk, hos, hgen⟩ := hv
  exact ⟨.inl ⟨_, _, [], rfl, fun _ => rfl, ReadsW.bool true, by kernel_rfl, fun _ => ⟨List.nodup_nil, fun _ hm => (nomatch hm)⟩⟩, ⟨fun b o e => .inl (hk b o e), fun b o e => ⟨o, hk b o e⟩⟩, hos, by rw [hgen]; exact AllBare.empty⟩
theorem filt_no {α : Type} {f : α → Bool} {a : α} {l : List α} (h : f a = false) (k : R.filterR f l = []) : R.filterR f (a :: l) = [] := by
  show @Bool.rec (fun _ => List α) (R.filterR f l) (a :: R.filterR f l) (f a) = _
  rw [h]; exact k
theorem hws : rwT.wellSaid = true := by
  refine (congrFun Fast.te9446332074065402090 rwT).trans ?_
  delta Fast.tw9446332074065402090
  repeat' (first | (with_reducible refine andI ?_ ?_) | delta Fast.tw17960256430627541270 | delta Fast.tw2436336058641802641 | delta Fast.tw12908688711261696721)
  rotate_left 4
  · have hb : R.filterR (Fast.tw13343964577679436407 (Fast.tw2368527892694137696 rwT).prog (Fast.tw2368527892694137696 rwT).prog.main.body) [⟨#[118, 97, 114, 115]⟩, ⟨#[100, 105, 114]⟩, ⟨#[108, 111, 99, 97, 108, 115]⟩] = [] :=
      filt_no (by as_aux_lemma => kernel_rfl) (filt_no (by as_aux_lemma => kernel_rfl) (filt_no (by as_aux_lemma => kernel_rfl) rfl))
    rw [hb]
    as_aux_lemma => kernel_rfl
  all_goals as_aux_lemma => kernel_rfl
theorem head (W : LawWalk) : Challenge.rw_pq1425_01.Holds := by
  rw [rw_eq]
  exact holds_law hws fun said => head0 W said
end
section
open PySem PySem.W
noncomputable abbrev T := List Nat
/-- plain data -/
inductive D where
  | none | bool (b : Bool) | int (i : Int) | str (s : T)
  | list (l : List D) | tup (l : List D) | dict (l : List (T × D)) | vec (k i a : D) | rng (lo hi st : Int) | glo (v : Value) | arr (l : List D)
  deriving Inhabited
inductive V where
  | c (d : D) | r (i : Nat)
  deriving Inhabited

inductive At where
  | kind | items | attrs | shared | loose | formals | tags | used | places | message
  deriving DecidableEq
inductive Mt where
  | append | reverse | count | index | join | get | setdefault
  deriving DecidableEq
inductive Bi where
  | len | range | tlist | str | abs | int | isinstance | sorted
  deriving DecidableEq
noncomputable def At.name : At → T
  | .kind => [107,105,110,100]
  | .items => [105,116,101,109,115]
  | .attrs => [97,116,116,114,115]
  | .shared => [115,104,97,114,101,100]
  | .loose => [108,111,111,115,101]
  | .formals => [102,111,114,109,97,108,115]
  | .tags => [116,97,103,115]
  | .used => [117,115,101,100]
  | .places => [112,108,97,99,101,115]
  | .message => [109,101,115,115,97,103,101]
noncomputable def At.all : List At := [.kind, .items, .attrs, .shared, .loose, .formals, .tags, .used, .places, .message]
noncomputable def At.of (n : T) : Option At := At.all.find? fun a => decide (a.name = n)
noncomputable def Mt.name : Mt → T
  | .append => [97,112,112,101,110,100]
  | .reverse => [114,101,118,101,114,115,101]
  | .count => [99,111,117,110,116]
  | .index => [105,110,100,101,120]
  | .join => [106,111,105,110]
  | .get => [103,101,116]
  | .setdefault => [115,101,116,100,101,102,97,117,108,116]
noncomputable def Mt.all : List Mt := [.append, .reverse, .count, .index, .join, .get, .setdefault]
noncomputable def Mt.of (n : T) : Option Mt := Mt.all.find? fun a => decide (a.name = n)
noncomputable def Bi.name : Bi → T
  | .len => [108,101,110]
  | .range => [114,97,110,103,101]
  | .tlist => [108,105,115,116]
  | .str => [115,116,114]
  | .abs => [97,98,115]
  | .int => [105,110,116]
  | .isinstance => [105,115,105,110,115,116,97,110,99,101]
  | .sorted => [115,111,114,116,101,100]
noncomputable def Bi.all : List Bi := [.len, .range, .tlist, .str, .abs, .int, .isinstance, .sorted]
noncomputable def Bi.of (n : T) : Option Bi := Bi.all.find? fun a => decide (a.name = n)
inductive Bo where
  | add | sub | mul | fdiv | mod | pow
  deriving DecidableEq
inductive Co where
  | eq | ne | lt | le | gt | ge | is | isnot | isin | notin
  deriving DecidableEq
/-- expressions -/
inductive X where
  | k (d : D) | v (i : Nat) | bin (o : Bo) (a b : X) | not (a : X) | neg (a : X) | and (l : List X) | or (l : List X) | cmp (o : Co) (a b : X) | ite (t a b : X)
  | bi (b : Bi) (l : List X) | fn (f : Addr) (l : List X) | cl (c : Addr) (l : List X) | mt (m : Mt) (o : X) (l : List X) | me (f : Addr) (o : X) (l : List X)
  | at (o : X) (a : At) | ix (o i : X) | sl (o : X) (lo hi : Option X) | list (l : List X) | tup (l : List X) | dict (k : List T) (l : List X)
  | comp (b : Nat) (ts : List Nat) (tp : Bool) (it : X) (ifs : List X) (e : X) | fs (l : List (T ⊕ X)) | bad
  deriving Inhabited
/-- statements -/
inductive S where
  | asg (i : Nat) (e : X) | asgC (i : Nat) (e : X) | asgT (ts : List Nat) (e : X) | aug (i : Nat) (o : Bo) (e : X) | sat (o : X) (a : At) (e : X) | six (o i e : X)
  | ex (e : X) | ife (t : X) (a b : List S) | whl (t : X) (b : List S) | for_ (ts : List Nat) (tp : Bool) (it : X) (b : List S) | ret (e : X) | retN | raise (m : X) | tryM (b : List S) | bad
  deriving Inhabited

/-! ## from the model's trees -/
inductive Nm where
  | loc (i : Nat) | fn (a : Addr) | cl (a : Addr) | bi (b : Bi) | k (d : D)
noncomputable abbrev Vis := List (T × Nat)
noncomputable def metTab : List (T × Addr) := [([101,120,97,99,116], 442), ([112,97,114,116,105,97,108], 449), ([112,97,114,116,105,97,108,95,111,102], 456), ([112,111,115,105,116,105,111,110,97,108], 463), ([105,115,95,102,114,101,101], 470), ([114,101,115,116], 475)]
noncomputable def sEqL (a b : Str) : Bool := a.cps.toList == b.cps.toList
noncomputable def gLook (n : Str) : Option (Option Value) := (gTab.find? fun p => sEqL p.1 n).map (·.2)
noncomputable def isCl (a : Addr) : Bool := Nat.beq a 51 || Nat.beq a 318 || Nat.beq a 478
noncomputable def gVal : Value → Option Nm | .ref a => some (bif isCl a then .cl a else .fn a) | .int i _ => some (.k (.int i)) | _ => none
noncomputable def gName (n : Str) : Option Nm := (gLook n).bind fun o => match o with | some v => gVal v | none => (Bi.of n.cps.toList).map .bi
/-- own names of a scope (local or cell), numbered from n -/
noncomputable def ownL (sc : Scope) : List (Str × NameKind) := sc.names.filter fun x => (x.2 == .local || x.2 == .cell) && !(x.1.cps.toList == [46, 48])
noncomputable def ownIds (sc : Scope) (n : Nat) : Vis := ((ownL sc).map (·.1.cps.toList)).zipIdx n
noncomputable def oddName (x : Str) : Bool := x == ("__debug__" : Str) || x == ("__classdict__" : Str) || x.cps.toList == [46, 48]
noncomputable def kOf (sc : Scope) (x : Str) : Option NameKind := (sc.names.find? fun p => sEqL p.1 x).map (·.2)
noncomputable def nmK (k : NameKind) (a b : Option Nm) : Option Nm := match k with | .local => a | .cell => a | .free => a | .globalImplicit => b | _ => none
noncomputable def nmOf (vis : Vis) (sc : Scope) (x : Str) : Option Nm := if oddName x then none else (kOf sc x).bind fun k => nmK k ((vis.lookup x.cps.toList).map .loc) (gName x)
noncomputable def boOf : Operator → Option Bo | .Add => some .add | .Sub => some .sub | .Mult => some .mul | .FloorDiv => some .fdiv | .Mod => some .mod | .Pow => some .pow | _ => none
noncomputable def coOf : CmpOp → Co | .Eq => .eq | .NotEq => .ne | .Lt => .lt | .LtE => .le | .Gt => .gt | .GtE => .ge | .Is => .is | .IsNot => .isnot | .In => .isin | .NotIn => .notin
noncomputable def constD : Const → Option D | .none => some .none | .bool b => some (.bool b) | .int i => some (.int i) | .str s => some (.str s.cps.toList) | _ => none
noncomputable def isLocK : NameKind → Bool | .local => true | _ => false
noncomputable def isFreK : NameKind → Bool | .free => true | _ => false
noncomputable def isLocal (sc : Scope) (x : Str) : Bool := (kOf sc x).any isLocK
noncomputable def isFree (sc : Scope) (x : Str) : Bool := (kOf sc x).any isFreK
noncomputable def locI : Nm → Option Nat | .loc i => some i | _ => none
noncomputable def nmE : Expr → Option Str | .Name x _ => some x | _ => none
noncomputable def tupE : Expr → Option (List Expr) | .Tuple l _ _ => some l | _ => none
noncomputable def tgt (vis : Vis) (sc : Scope) (e : Expr) : Option Nat := (nmE e).bind fun x => if isFree sc x then none else (nmOf vis sc x).bind locI
noncomputable def ndS : List Str → Bool | [] => true | a :: r => !(r.any fun b => sEqL b a) && ndS r
/-- what a comprehension's scope must be -/
noncomputable def okComp (vis : Vis) (sc csc : Scope) : Bool := csc.kind == .function && ndS (csc.names.map (·.1)) && csc.names.all fun x => match x.2 with
  | .local | .cell | .globalImplicit => true
  | .free => (match nmOf vis sc x.1 with | some (.loc _) => true | _ => false) && !isLocal sc x.1
  | _ => false
noncomputable def tgts (vis : Vis) (sc : Scope) (e : Expr) : Option (List Nat × Bool) := match tupE e with
  | some l => (l.mapM (tgt vis sc)).map (·, true)
  | none => (tgt vis sc e).map ([·], false)
noncomputable def strC : Const → Option Str | .str s => some s | _ => none
noncomputable def strE : Expr → Option Str | .Constant c _ _ => strC c | _ => none
noncomputable def keyText (o : Option Expr) : Option T := (o.bind strE).map (·.cps.toList)
noncomputable def nmX : Nm → Option X | .loc i => some (.v i) | .k d => some (.k d) | .fn a => some (.k (.glo (.ref a))) | .cl a => some (.k (.glo (.ref a))) | .bi .tlist => some (.k (.glo (.type "list"))) | .bi _ => none
noncomputable def keptL : List Addr := [84, 140, 147, 230, 329, 336, 343, 350, 357, 371, 378, 385, 397, 402, 409, 421, 503, 514, 521, 527, 590, 604, 611, 637, 642, 656, 663, 670, 689, 696, 703, 708, 715, 729, 736, 743, 750, 757, 764, 771, 778, 785, 790, 795, 802, 810, 827, 834, 839, 846, 853, 872, 877, 884, 891, 896, 902, 907, 912, 919, 926, 933, 938, 945, 950, 955, 364, 48, 308, 315, 435, 442, 449, 456, 463, 470, 475]
noncomputable def keptF (a : Addr) : Bool := keptL.any fun p => Nat.beq p a
noncomputable def okBase : Expr → Bool | .Call (.Name _ _) [] [] _ => false | _ => true
noncomputable def isNm : Expr → Bool | .Name _ _ => true | _ => false
noncomputable def okCall (o : Expr) (args : List Expr) (ap pos : Pos) : Bool := okBase o && decide (args.length < 20) && ap.endLine == pos.line
noncomputable def optX (o : Option X) : X := o.getD .bad
noncomputable def cUn (op : UnaryOp) (x : X) : X := match op with | .Not => .not x | .USub => .neg x | _ => .bad
noncomputable def cBool (op : BoolOp) (l : List X) : X := match op with | .And => .and l | .Or => .or l
noncomputable def only {α : Type} : List α → Option α | [a] => some a | _ => none
noncomputable def cCmp (rc : Expr → X) (l : X) (ops : List CmpOp) (rs : List Expr) : X := optX ((only ops).bind fun op => (only rs).map fun r => .cmp (coOf op) l (rc r))
noncomputable def cCallN (rc : Expr → X) (vis : Vis) (sc : Scope) (f : Str) (args : List Expr) : X := match nmOf vis sc f with
  | some (.fn a) => if keptF a then .fn a (args.map rc) else .bad
  | some (.cl a) => if Nat.beq a 318 || Nat.beq a 478 then .cl a (args.map rc) else .bad
  | some (.bi b) => .bi b (args.map rc)
  | _ => .bad
noncomputable def cCallM (rc : Expr → X) (o : Expr) (m : Str) (ap : Pos) (args : List Expr) (pos : Pos) : X := if okCall o args ap pos then (match Mt.of m.cps.toList with
  | some mt => .mt mt (rc o) (args.map rc)
  | none => optX ((metTab.lookup m.cps.toList).map fun f => .me f (rc o) (args.map rc))) else .bad
noncomputable def atE : Expr → Option (Expr × Str × Pos) | .Attribute o m ap => some (o, m, ap) | _ => none
noncomputable def slE : Expr → Option (Option Expr × Option Expr × Option Expr) | .Slice lo hi st _ => some (lo, hi, st) | _ => none
noncomputable def subE : Expr → Option (Expr × Expr) | .Subscript o i _ => some (o, i) | _ => none
noncomputable def cCall (rc : Expr → X) (vis : Vis) (sc : Scope) (f : Expr) (args : List Expr) (kws : List Keyword) (pos : Pos) : X := if kws.isEmpty then (match nmE f with
  | some x => cCallN rc vis sc x args
  | none => match atE f with
    | some (o, m, ap) => cCallM rc o m ap args pos
    | none => .bad) else .bad
noncomputable def cAt (rc : Expr → X) (o : Expr) (a : Str) : X := if okBase o then optX ((At.of a.cps.toList).map fun a => .at (rc o) a) else .bad
noncomputable def cSub (rc : Expr → X) (o i : Expr) : X := match slE i with
  | some (lo, hi, st) => if isNm o && st.isNone then .sl (rc o) (lo.map rc) (hi.map rc) else .bad
  | none => .ix (rc o) (rc i)
noncomputable def cDict (rc : Expr → X) (ks : List (Option Expr)) (vs : List Expr) : X := if decide (ks.length = vs.length) then optX ((ks.mapM keyText).map fun ks => .dict ks (vs.map rc)) else .bad
noncomputable def cComp (rc : Vis → Scope → Expr → X) (vis : Vis) (sc : Scope) (elt : Expr) (gens : List Comprehension) (csc : Scope) : X := match only gens with
  | some g => if okComp vis sc csc && decide (g.is_async = 0) then optX ((tgts (ownIds csc vis.length ++ vis) csc g.target).map fun t => .comp vis.length t.1 t.2 (rc vis sc g.iter) (g.ifs.map (rc (ownIds csc vis.length ++ vis) csc)) (rc (ownIds csc vis.length ++ vis) csc elt)) else .bad
  | none => .bad
noncomputable def fmtE : Expr → Option Expr | .FormattedValue e c sp _ => if decide (c = -1) && sp.isNone then some e else none | _ => none
noncomputable def cF (rc : Expr → X) (e : Expr) : T ⊕ X := match strE e with
  | some s => .inl s.cps.toList
  | none => match fmtE e with
    | some x => .inr (rc x)
    | none => .inr .bad
noncomputable def compE : Nat → Vis → Scope → Expr → X
  | 0, _, _, _ => .bad
  | n + 1, vis, sc, e => match e with
    | .Constant c _ _ => optX ((constD c).map .k)
    | .Name x _ => optX ((nmOf vis sc x).bind nmX)
    | .BinOp l op r _ => optX ((boOf op).map fun o => .bin o (compE n vis sc l) (compE n vis sc r))
    | .UnaryOp op x _ => cUn op (compE n vis sc x)
    | .BoolOp op l _ => cBool op (l.map (compE n vis sc))
    | .Compare l ops rs _ => cCmp (compE n vis sc) (compE n vis sc l) ops rs
    | .IfExp t a b _ => .ite (compE n vis sc t) (compE n vis sc a) (compE n vis sc b)
    | .Call f args kws pos => cCall (compE n vis sc) vis sc f args kws pos
    | .Attribute o a _ => cAt (compE n vis sc) o a
    | .Subscript o i _ => cSub (compE n vis sc) o i
    | .List l _ => .list (l.map (compE n vis sc))
    | .Tuple l _ _ => .tup (l.map (compE n vis sc))
    | .Dict ks vs _ => cDict (compE n vis sc) ks vs
    | .ListComp elt gens csc _ => cComp (compE n) vis sc elt gens csc
    | .JoinedStr l _ => .fs (l.map (cF (compE n vis sc)))
    | _ => .bad
noncomputable def optS (o : Option S) : S := o.getD .bad
noncomputable def isLC : Expr → Bool | .ListComp .. => true | _ => false
noncomputable def cAsg (rx : Expr → X) (vis : Vis) (sc : Scope) (ts : List Expr) (e : Expr) : S := match only ts with
  | some t => (match nmE t with
    | some x => optS ((tgt vis sc (.Name x default)).map fun i => if isLC e then .asgC i (rx e) else .asg i (rx e))
    | none => match tupE t with
      | some l => if (tupE e).isNone then optS ((l.mapM (tgt vis sc)).map fun ts => .asgT ts (rx e)) else .bad
      | none => match atE t with
        | some (o, a, _) => optS ((At.of a.cps.toList).map fun a => .sat (rx o) a (rx e))
        | none => match subE t with
          | some (o, i) => .six (rx o) (rx i) (rx e)
          | none => .bad)
  | none => .bad
noncomputable def cAug (rx : Expr → X) (vis : Vis) (sc : Scope) (t : Expr) (op : Operator) (e : Expr) : S := optS ((nmE t).bind fun x => (tgt vis sc (.Name x default)).bind fun i => (boOf op).map fun o => .aug i o (rx e))
noncomputable def isCallE : Expr → Bool | .Call .. => true | _ => false
noncomputable def retE : Stmt → Option Expr | .Return e _ => e | _ => none
noncomputable def hanE : ExceptHandler → Option (Expr × Str × List Stmt) | .ExceptHandler t x b _ => t.bind fun t => x.map fun x => (t, x, b)
noncomputable def calE : Expr → Option (Expr × List Expr × List Keyword) | .Call f l k _ => some (f, l, k) | _ => none
noncomputable def isR : Option Nm → Bool | some (.cl a) => Nat.beq a 51 | _ => false
noncomputable def raiE (e : Expr) : Option (Str × Expr) := (calE e).bind fun q => if q.2.2.isEmpty then (nmE q.1).bind fun f => (only q.2.1).map fun m => (f, m) else none
noncomputable def tryE (hs : List ExceptHandler) : Option (Str × Str × Str × Str) := (only hs).bind fun h => (hanE h).bind fun q => (nmE q.1).bind fun f => (only q.2.2).bind fun s => (retE s).bind fun e => (atE e).bind fun r => (nmE r.1).map fun y => (f, q.2.1, y, r.2.1)
noncomputable def cRaise (rx : Expr → X) (vis : Vis) (sc : Scope) (e c : Option Expr) : S := if c.isNone then optS ((e.bind raiE).map fun q => if isR (nmOf vis sc q.1) then .raise (rx q.2) else .bad) else .bad
noncomputable def cTry (rs : Stmt → S) (vis : Vis) (sc : Scope) (b : List Stmt) (hs : List ExceptHandler) (o f : List Stmt) : S := if o.isEmpty && f.isEmpty then optS ((tryE hs).map fun q =>
    if isR (nmOf vis sc q.1) && ((sEqL q.2.1 q.2.2.1 && decide (At.of q.2.2.2.cps.toList = some .message)) && (isLocal sc q.2.1 && !oddName q.2.1)) then .tryM (b.map rs) else .bad) else .bad
noncomputable def compS : Nat → Vis → Scope → Stmt → S
  | 0, _, _, _ => .bad
  | n + 1, vis, sc, st => match st with
    | .Assign ts e _ => cAsg (compE n vis sc) vis sc ts e
    | .AugAssign t op e _ => cAug (compE n vis sc) vis sc t op e
    | .Expr e _ => if isCallE e then .ex (compE n vis sc e) else .bad
    | .If t a b _ => .ife (compE n vis sc t) (a.map (compS n vis sc)) (b.map (compS n vis sc))
    | .While t b o _ => if o.isEmpty then .whl (compE n vis sc t) (b.map (compS n vis sc)) else .bad
    | .For t it b o _ => if o.isEmpty then optS ((tgts vis sc t).map fun t => .for_ t.1 t.2 (compE n vis sc it) (b.map (compS n vis sc))) else .bad
    | .Return e _ => (match e with | some e => .ret (compE n vis sc e) | none => .retN)
    | .Raise e c _ => cRaise (compE n vis sc) vis sc e c
    | .Try b hs o f _ => cTry (compS n vis sc) vis sc b hs o f
    | _ => .bad
inductive P where
  | lst (plain : Bool) (l : List D) | dct (l : List (T × V)) | ins (c : Addr) (l : List (At × V)) | frz (d : D)
  deriving Inhabited
noncomputable abbrev Mu := List P
noncomputable abbrev Ev := List (Option V)
inductive Res (α : Type) where
  | ok (a : α) | exc (m : T) | no
  deriving Inhabited
noncomputable def orNo {α β : Type} (o : Option α) (f : α → Res β) : Res β := match o with | some a => f a | none => .no
noncomputable def Res.bind {α β : Type} : Res α → (α → Res β) → Res β
  | .ok a, f => f a
  | .exc m, _ => .exc m
  | .no, _ => .no
noncomputable def Res.opt {α : Type} : Res α → Option α | .ok a => some a | _ => none
theorem noR {α : Type} {y : α} {G : Prop} (h : Res.no = .ok y) : G := by cases h
theorem excR {α : Type} {m : T} {y : α} {G : Prop} (h : Res.exc m = .ok y) : G := by cases h
theorem noneE {α : Type} {y : α} {G : Prop} (h : none = some y) : G := by cases h
theorem falseE {G : Prop} (h : false = true) : G := by cases h
noncomputable def Res.of {α : Type} : Option α → Res α | some a => .ok a | none => .no
inductive Fl where
  | nxt | ret (v : V)
  deriving Inhabited
structure Fn where
  x : Ev → Mu → X → Res (V × Mu)
  s : Ev → Mu → S → Res (Fl × Ev × Mu)
  call : Addr → List V → Mu → Res (V × Mu)
  /-- what is raised: by a statement, by a call -/
  es : Ev → Mu → S → Option T
  ec : Addr → List V → Option T

noncomputable def vecA : Addr := 318
noncomputable def matA : Addr := 478
/-- an own object goes over to the fixed ones; what it was is told as data -/
noncomputable def fzL (f : Mu → V → Option (D × Mu)) : Mu → List V → Option (List D × Mu)
  | μ, [] => some ([], μ)
  | μ, v :: r => do let (d, μ) ← f μ v; let (ds, μ) ← fzL f μ r; return (d :: ds, μ)
noncomputable def isB : V → Bool | .c (.bool _) => true | _ => false
noncomputable def five : List (At × V) → Option (V × V × V)
  | [a, b, c, d, e] => if decide (a.1 = .kind ∧ b.1 = .items ∧ c.1 = .attrs ∧ d.1 = .shared ∧ e.1 = .loose) && (isB d.2 && isB e.2) then some (a.2, b.2, c.2) else none
  | _ => none
noncomputable def thr : List D → Option (D × D × D) | [a, b, c] => some (a, b, c) | _ => none
noncomputable def isDct : P → Bool | .dct _ => true | _ => false
noncomputable def isIns : P → Bool | .ins .. => true | _ => false
noncomputable def fzP (f : Mu → V → Option (D × Mu)) (μ : Mu) (i : Nat) : P → Option (D × Mu)
  | .frz d => some (d, μ)
  | .lst b ds => if b then some (.list ds, μ.set i (.frz (.list ds))) else none
  | .dct es => (fzL f μ (es.map (·.2))).bind fun q => q.2[i]?.bind fun p => if isDct p then some (D.dict ((es.map (·.1)).zip q.1), q.2.set i (.frz (D.dict ((es.map (·.1)).zip q.1)))) else none
  | .ins c l => if c = vecA then (five l).bind fun t => (fzL f μ [t.1, t.2.1, t.2.2]).bind fun q => (thr q.1).bind fun u => q.2[i]?.bind fun p => if isIns p then some (.vec u.1 u.2.1 u.2.2, q.2.set i (.frz (.vec u.1 u.2.1 u.2.2))) else none else none
noncomputable def fz : Nat → Mu → V → Option (D × Mu)
  | _, μ, .c d => some (d, μ)
  | 0, _, .r _ => none
  | n + 1, μ, .r i => μ[i]?.bind (fzP (fz n) μ i)
noncomputable def frz (μ : Mu) (v : V) : Res (D × Mu) := .of (fz 5 μ v)
noncomputable def frzs (μ : Mu) (l : List V) : Res (List D × Mu) := .of (fzL (fz 5) μ l)
/-- what is seen of a value -/
noncomputable def see (μ : Mu) : V → Option P
  | .c d => some (.frz d)
  | .r i => μ[i]?
noncomputable def lstD : D → Option (List D) | .list l => some l | _ => none
noncomputable def lstP : P → Option (List D) | .lst b l => if b then some l else none | .frz d => lstD d | _ => none
noncomputable def seqD : D → Option (List D) | .list l => some l | .tup l => some l | _ => none
noncomputable def seqP : P → Option (List D) | .lst _ l => some l | .frz d => seqD d | _ => none
noncomputable def dicD : D → Option (List (T × D)) | .dict l => some l | _ => none
noncomputable def dicP : P → Option (List (T × V)) | .dct l => some l | .frz d => (dicD d).map fun l => l.map fun p => (p.1, .c p.2) | _ => none
noncomputable def asList (μ : Mu) (v : V) : Option (List D) := (see μ v).bind lstP
noncomputable def asSeq (μ : Mu) (v : V) : Option (List D) := (see μ v).bind seqP
noncomputable def asDict (μ : Mu) (v : V) : Option (List (T × V)) := (see μ v).bind dicP
theorem seeB {α : Type} {f : P → Option α} {μ : Mu} {i : Nat} {p : P} (h : μ[i]? = some p) : (see μ (.r i)).bind f = f p := by
  show μ[i]?.bind f = _
  rw [h]; rfl
noncomputable def toI : V → Option Int | .c (.int i) => some i | _ => none
noncomputable def toT : V → Option T | .c (.str t) => some t | _ => none
noncomputable def toD : V → Option D | .c d => some d | .r _ => none
noncomputable def nul : V → Bool | .c .none => true | _ => false
noncomputable def matR (μ : Mu) : V → Option Nat
  | .r i => (match μ[i]? with | some (.ins c _) => if c = 478 then some i else none | _ => none)
  | .c _ => none
noncomputable def getV (ρ : Ev) (i : Nat) : Option V := match ρ[i]? with | some o => o | none => none
noncomputable def isVecD : D → Bool | .vec .. => true | _ => false
noncomputable def asBool : V → Option Bool | .c (.bool b) => some b | _ => none
noncomputable def nonD : D → Option Bool | .none => some true | .glo v => (match v with | .ref _ => some false | _ => none) | _ => some false
noncomputable def nonP : P → Option Bool | .frz d => nonD d | _ => some false
noncomputable def isNone (μ : Mu) (v : V) : Option Bool := (see μ v).bind nonP
noncomputable def tEq : T → T → Bool
  | [], [] => true
  | a :: r, b :: q => Nat.beq a b && tEq r q
  | _, _ => false
noncomputable def tLt : T → T → Bool
  | [], [] => false
  | [], _ :: _ => true
  | _ :: _, [] => false
  | a :: r, b :: q => Nat.blt a b || (Nat.beq a b && tLt r q)
/-- equality of simple data -/
noncomputable def eqS (d e : D) : Option Bool := match d with
  | .int a => (match e with | .int b => some (decide (a = b)) | _ => none)
  | .str a => (match e with | .str b => some (tEq a b) | .none => some false | _ => none)
  | .none => (match e with | .none => some true | .str _ => some false | _ => none)
  | _ => none
noncomputable def txts : List D → Option (List T)
  | [] => some []
  | d :: r => (toT (.c d)).bind fun t => (txts r).map (t :: ·)
noncomputable def eqL (l r : List D) : Option Bool := match l with
  | [] => some r.isEmpty
  | d :: l => match r with
    | [] => some false
    | e :: r => (eqS d e).bind fun a => (eqL l r).bind fun b => some (a && b)
noncomputable def isInL (d : D) : List D → Option Bool
  | [] => some false
  | e :: r => (eqS e d).bind fun a => (isInL d r).bind fun b => some (a || b)
noncomputable def countL (d : D) : List D → Option Nat
  | [] => some 0
  | e :: r => (eqS e d).bind fun a => (countL d r).map fun b => if a then b + 1 else b
noncomputable def indexL (d : D) : List D → Option Nat
  | [] => none
  | e :: r => (eqS e d).bind fun a => if a then some 0 else (indexL d r).map Nat.succ
noncomputable def dGet (es : List (T × V)) (k : T) : Option V := match es with
  | [] => none
  | (n, v) :: r => if tEq n k then some v else dGet r k
noncomputable def dPut (es : List (T × V)) (k : T) (v : V) : List (T × V) :=
  if es.any fun p => tEq p.1 k then es.map fun p => if tEq p.1 k then (p.1, v) else p else es ++ [(k, v)]
noncomputable def aGet (es : List (At × V)) (k : At) : Option V := match es with
  | [] => none
  | (n, v) :: r => if n = k then some v else aGet r k
noncomputable def aPut (es : List (At × V)) (k : At) (v : V) : List (At × V) := match es with
  | [] => [(k, v)]
  | (n, u) :: r => if n = k then (n, v) :: r else (n, u) :: aPut r k v
noncomputable def maxT : Nat := 1000
noncomputable def okT (t : T) : Bool := decide (t.length ≤ maxT)
noncomputable def small (i : Int) : Bool := decide (-1000000000000000000000000 ≤ i) && decide (i ≤ 1000000000000000000000000)
noncomputable def tiny (i : Int) : Bool := decide (-1000000000 ≤ i) && decide (i ≤ 1000000000)
noncomputable def fits (l : List D) : Bool := decide (l.length ≤ 1000000)
/-- the decimal text of a number below 100 -/
noncomputable def numT (n : Nat) : T := if n < 10 then [48 + n] else [48 + n / 10, 48 + n % 10]
noncomputable def intT (i : Int) : Option T := match i with
  | .ofNat n => if n < 100 then some (numT n) else none
  | _ => none
noncomputable def digit (n : Nat) : Bool := decide (48 ≤ n) && decide (n ≤ 57)
/-- repr of the simple items the law's lines hold -/
noncomputable def reprT (s : T) : Option T := match s with
  | [] => none
  | a :: r => (only r).bind fun n => if Nat.beq a 107 && digit n then some [39, a, n, 39] else none
noncomputable def reprS : D → Option T
  | .int i => intT i
  | .str s => reprT s
  | _ => none
noncomputable def joinT (sep : T) : List T → T
  | [] => []
  | [a] => a
  | a :: r => a ++ sep ++ joinT sep r
noncomputable def reprL (l : List D) : Option T := (l.mapM reprS).map fun ts => [91] ++ joinT [44, 32] ts ++ [93]
noncomputable def insT (a : T) : List T → List T
  | [] => [a]
  | b :: r => if tLt b a then b :: insT a r else a :: b :: r
noncomputable def sortT : List T → List T
  | [] => []
  | a :: r => insT a (sortT r)
noncomputable def rngL (lo hi st : Int) : List D := (PyProof.Rows.rangeInts lo st (Builtin.Range.rangeSize lo hi st).toNat).map .int
noncomputable def clampS (n : Nat) (i : Int) : Nat := if i < 0 then (i + n).toNat else min i.toNat n
noncomputable def atI (l : List D) (i : Int) : Option D := (seqIndex? i l.length).bind (l[·]?)
noncomputable def binop (μ : Mu) (o : Bo) (a b : V) : Res (V × Mu) := match o with
  | .add => (match toI a with
    | some x => orNo (toI b) fun y => .ok (.c (.int (x + y)), μ)
    | none => match toT a with
      | some x => orNo (toT b) fun y => if okT (x ++ y) then .ok (.c (.str (x ++ y)), μ) else .no
      | none => orNo (asList μ a) fun l => orNo (asList μ b) fun r => if fits (l ++ r) then .ok (.r μ.length, μ ++ [.lst true (l ++ r)]) else .no)
  | .sub => orNo (toI a) fun x => orNo (toI b) fun y => .ok (.c (.int (x - y)), μ)
  | .mul => orNo (toI b) fun y => (match toI a with
    | some x => if small x && small y then .ok (.c (.int (x * y)), μ) else .no
    | none => orNo (asList μ a) fun l => orNo (only l) fun d => if decide (0 ≤ y) && decide (y ≤ 1000) then .ok (.r μ.length, μ ++ [.lst true (List.replicate y.toNat d)]) else .no)
  | .mod => orNo (toI a) fun x => orNo (toI b) fun y => if decide (0 < y) && small y then .ok (.c (.int (x.fmod y)), μ) else .no
  | .pow => orNo (toI a) fun x => orNo (toI b) fun y => if decide (x = 10) && decide (y = 18) then .ok (.c (.int 1000000000000000000), μ) else .no
  | .fdiv => .no
noncomputable def cmpI (o : Co) (x y : Int) : Option Bool := match o with
  | .lt => some (decide (x < y)) | .le => some (decide (x ≤ y)) | .gt => some (decide (y < x)) | .ge => some (decide (y ≤ x)) | .eq => some (x == y) | .ne => some (x != y) | _ => none
noncomputable def cmpT (o : Co) (x y : T) : Option Bool := match o with
  | .lt => some (tLt x y) | .gt => some (tLt y x) | .eq => some (tEq x y) | .ne => some (!tEq x y) | _ => none
noncomputable def cmpN (o : Co) : Option Bool := match o with | .eq => some false | .ne => some true | _ => none
noncomputable def cmpL (o : Co) (l r : List D) : Option Bool := match o with | .eq => eqL l r | .ne => (eqL l r).map (!·) | _ => none
noncomputable def inop (μ : Mu) (a b : V) : Option Bool := match asSeq μ b with
  | some l => (toD a).bind fun d => isInL d l
  | none => (asDict μ b).bind fun es => (toT a).map fun k => (dGet es k).isSome
noncomputable def isop (μ : Mu) (a b : V) : Option Bool := if nul b then isNone μ a else none
noncomputable def cmpV (μ : Mu) (o : Co) (a b : V) : Option Bool := match toI a with
  | some x => (toI b).bind fun y => cmpI o x y
  | none => match toT a with
    | some x => (toT b).bind fun y => cmpT o x y
    | none => if nul a then (toT b).bind fun _ => cmpN o else (asList μ a).bind fun l => (asList μ b).bind fun r => cmpL o l r
noncomputable def cmpop (μ : Mu) (o : Co) (a b : V) : Option Bool := match o with
  | .is => isop μ a b
  | .isnot => (isop μ a b).map (!·)
  | .isin => inop μ a b
  | .notin => (inop μ a b).map (!·)
  | o => cmpV μ o a b
noncomputable def newL (μ : Mu) (l : List D) : Res (V × Mu) := if fits l then .ok (.r μ.length, μ ++ [.lst true l]) else .no
noncomputable def items (d : D) : Option (List D) := match d with
  | .list l => some l
  | .tup l => some l
  | .rng a b c => if tiny a && tiny b && (decide (c = 1) || decide (c = 2)) then some (rngL a b c) else none
  | _ => none
noncomputable def itemsT (tp : Bool) (d : D) : Option (List D) := if tp then (match d with | .list l => some l | _ => none) else items d
/-- the variables from b on are not set -/
noncomputable def clr (b : Nat) (ρ : Ev) : Ev := ρ.take b ++ List.replicate (ρ.length - b) none
noncomputable def one (l : List V) : Option V := only l
noncomputable def two (l : List V) : Option (V × V) := match l with | [] => none | a :: r => (only r).map fun b => (a, b)
noncomputable def biLen (μ : Mu) (v : V) : Res (V × Mu) := match asSeq μ v with
  | some l => if fits l then .ok (.c (.int l.length), μ) else .no
  | none => orNo (toT v) fun t => if okT t then .ok (.c (.int t.length), μ) else .no
noncomputable def biR (μ : Mu) (l : List Int) : Res (V × Mu) := match l with
  | [] => .no
  | a :: l => match l with
    | [] => .ok (.c (.rng 0 a 1), μ)
    | b :: l => match l with
      | [] => .ok (.c (.rng a b 1), μ)
      | c :: l => if l.isEmpty && decide (c = 2) then .ok (.c (.rng a b 2), μ) else .no
noncomputable def toRng : V → Option (Int × Int × Int) | .c (.rng a b c) => some (a, b, c) | _ => none
noncomputable def biList (μ : Mu) (v : V) : Res (V × Mu) := match asSeq μ v with
  | some l => newL μ l
  | none => orNo (toRng v) fun q => if decide (q.2.2 = 1) && (tiny q.1 && tiny q.2.1) then newL μ (rngL q.1 q.2.1 1) else .no
noncomputable def biStr (μ : Mu) (v : V) : Res (V × Mu) := match toI v with
  | some i => orNo (intT i) fun t => .ok (.c (.str t), μ)
  | none => orNo (asList μ v) fun l => if !l.isEmpty then orNo (reprL l) fun t => if okT t then .ok (.c (.str t), μ) else .no else .no
noncomputable def isVecP : P → Bool | .ins c _ => Nat.beq c vecA | .frz d => isVecD d | _ => false
noncomputable def isVec (μ : Mu) (v : V) : Bool := match see μ v with | some p => isVecP p | none => false
noncomputable def gloOf : V → Option Value | .c (.glo v) => some v | _ => none
noncomputable def isClsV : Value → Option Bool | .ref a => if Nat.beq a 318 then some true else none | .type s => if s = "list" then some false else none | _ => none
noncomputable def biIs (μ : Mu) (v c : V) : Res (V × Mu) := orNo (gloOf c) fun u => orNo (isClsV u) fun b => if (if b then isVec μ v else isB v) then .ok (.c (.bool b), μ) else .no
noncomputable def biSorted (μ : Mu) (v : V) : Res (V × Mu) := orNo ((asList μ v).bind txts) fun ts => if decide (ts.length < 64) then newL μ ((sortT ts).map .str) else .no
noncomputable def biop (μ : Mu) (b : Bi) (l : List V) : Res (V × Mu) := match b with
  | .len => orNo (one l) fun v => biLen μ v
  | .range => orNo (l.mapM toI) fun l => biR μ l
  | .tlist => orNo (one l) fun v => biList μ v
  | .str => orNo (one l) fun v => biStr μ v
  | .abs => orNo (one l) fun v => orNo (toI v) fun i => .ok (.c (.int (if i < 0 then -i else i)), μ)
  | .int => orNo (one l) fun v => orNo (toI v) fun i => .ok (.c (.int i), μ)
  | .isinstance => orNo (two l) fun q => biIs μ q.1 q.2
  | .sorted => orNo (one l) fun v => biSorted μ v
noncomputable def ownP : P → Option (List D) | .lst b l => if b then some l else none | _ => none
noncomputable def dctP : P → Option (List (T × V)) | .dct l => some l | _ => none
noncomputable def meAppend (μ : Mu) (i : Nat) (v : V) : Res (V × Mu) := (frz μ v).bind fun (d, μ) => orNo (μ[i]?.bind ownP) fun l => if fits l then .ok (.c .none, μ.set i (.lst true (l ++ [d]))) else .no
noncomputable def meReverse (μ : Mu) (i : Nat) : Res (V × Mu) := orNo (μ[i]?.bind ownP) fun l => if fits l then .ok (.c .none, μ.set i (.lst true l.reverse)) else .no
noncomputable def meCount (μ : Mu) (o : V) (d : D) : Res (V × Mu) := orNo ((asList μ o).bind (countL d)) fun n => .ok (.c (.int n), μ)
noncomputable def meIndex (μ : Mu) (o : V) (d : D) : Res (V × Mu) := orNo (asList μ o) fun l => orNo (isInL d l) fun _ => orNo (indexL d l) fun n => if fits l then .ok (.c (.int n), μ) else .no
noncomputable def meJoin (μ : Mu) (o v : V) : Res (V × Mu) := orNo (toT o) fun t => orNo (asList μ v) fun l => orNo (txts l) fun ts => if t.isEmpty && okT ts.flatten then .ok (.c (.str ts.flatten), μ) else .no
noncomputable def meGet (μ : Mu) (o : V) (k : T) (v : V) : Res (V × Mu) := orNo (asDict μ o) fun es => .ok (((dGet es k).getD v), μ)
noncomputable def meSetd (μ : Mu) (i : Nat) (k : T) (v : V) : Res (V × Mu) := orNo (μ[i]?.bind dctP) fun es => if decide (es.length ≤ 1000) then (match dGet es k with
    | some u => .ok (u, μ)
    | none => .ok (v, μ.set i (.dct (es ++ [(k, v)])))) else .no
noncomputable def toR : V → Option Nat | .r i => some i | _ => none
noncomputable def meop (μ : Mu) (m : Mt) (o : V) (l : List V) : Res (V × Mu) := match m with
  | .append => orNo (toR o) fun i => orNo (one l) fun v => meAppend μ i v
  | .reverse => if l.isEmpty then orNo (toR o) fun i => meReverse μ i else .no
  | .count => orNo ((one l).bind toD) fun d => meCount μ o d
  | .index => orNo ((one l).bind toD) fun d => meIndex μ o d
  | .join => orNo (one l) fun v => meJoin μ o v
  | .get => (match one l with
    | some k => orNo (toT k) fun k => meGet μ o k (.c .none)
    | none => orNo (two l) fun q => orNo (toT q.1) fun k => meGet μ o k q.2)
  | .setdefault => orNo (toR o) fun i => orNo (two l) fun q => orNo (toT q.1) fun k => meSetd μ i k q.2
noncomputable def mtOk (μ : Mu) (m : Mt) (x : V) : Bool := match m with
  | .join => (toT x).isSome
  | .get => (asDict μ x).isSome
  | .setdefault => (asDict μ x).isSome
  | _ => (asList μ x).isSome
noncomputable def noG : V → Bool | .c (.glo _) => false | _ => true
noncomputable def atV (k i t : D) : At → Option V | .kind => some (.c k) | .items => some (.c i) | .attrs => some (.c t) | _ => none
noncomputable def vecOf : D → Option (D × D × D) | .vec k i t => some (k, i, t) | _ => none
noncomputable def atP (a : At) : P → Option V | .ins c l => if Nat.beq c vecA || Nat.beq c matA then aGet l a else none | .frz d => (vecOf d).bind fun q => atV q.1 q.2.1 q.2.2 a | _ => none
noncomputable def atop (μ : Mu) (o : V) (a : At) : Option V := ((see μ o).bind (atP a)).bind fun v => if noG v then some v else none
noncomputable def ixop (μ : Mu) (o i : V) : Option V := match toI i with
  | some i => if tiny i then ((asSeq μ o).bind fun l => atI l i).map .c else none
  | none => (toT i).bind fun k => (asDict μ o).bind fun es => dGet es k
noncomputable def satP (μ : Mu) (i : Nat) (a : At) (v : V) : Mine.P → Option Mu
  | .ins c l => if (Nat.beq c vecA || Nat.beq c matA) && decide (l.length ≤ 100) then some (μ.set i (.ins c (aPut l a v))) else none
  | .frz d => if isVecD d && (decide (a = .shared) && isB v) then some μ else none
  | _ => none
noncomputable def satop (μ : Mu) (x : V) (a : At) (v : V) : Option Mu := match x with
  | .r i => μ[i]?.bind (satP μ i a v)
  | .c d => if isVecD d && (decide (a = .shared) && isB v) then some μ else none
noncomputable def sixL (μ : Mu) (i : Nat) (n : Int) (d : D) : Mine.P → Option Mu
  | .lst _ l => if decide (0 ≤ n) && (decide (n < l.length) && fits l) then some (μ.set i (.lst false (l.set n.toNat d))) else none
  | _ => none
noncomputable def sixD (μ : Mu) (i : Nat) (k : T) (v : V) : Mine.P → Option Mu
  | .dct es => if decide (es.length ≤ 1000) then some (μ.set i (.dct (dPut es k v))) else none
  | _ => none
noncomputable def sixop (μ : Mu) (x y v : V) : Option Mu := match x with
  | .c _ => none
  | .r i => match toI y with
    | some n => (toD v).bind fun d => μ[i]?.bind (sixL μ i n d)
    | none => (toT y).bind fun k => μ[i]?.bind (sixD μ i k v)
/-- items alone are known -/
noncomputable def arrD : D → Option (List D) | .arr l => some l | _ => none
noncomputable def asArr (μ : Mu) (v : V) : Option (List D) := match asList μ v with
  | some l => some l
  | none => (toD v).bind arrD
noncomputable def slop (μ : Mu) (o : V) (lo hi : Option V) : Res (V × Mu) := orNo (asArr μ o) fun l => match hi with
  | some h => orNo (toI h) fun b => if lo.isNone && (decide (0 ≤ b) && fits l) then newL μ (l.take b.toNat) else .no
  | none => orNo (lo.bind toI) fun b => if decide (0 ≤ b) && fits l then newL μ (l.drop b.toNat) else .no
section
variable (F : Fn)
noncomputable def evL (ρ : Ev) : Mu → List X → Res (List V × Mu)
  | μ, [] => .ok ([], μ)
  | μ, e :: r => (F.x ρ μ e).bind fun (v, μ) => (evL ρ μ r).bind fun (vs, μ) => .ok (v :: vs, μ)
noncomputable def evB (ρ : Ev) (μ : Mu) (e : X) : Res (Bool × Mu) := (F.x ρ μ e).bind fun (v, μ) => orNo (asBool v) fun b => .ok (b, μ)
noncomputable def evO (ρ : Ev) (μ : Mu) : Option X → Res (Option V × Mu)
  | none => .ok (none, μ)
  | some e => (F.x ρ μ e).bind fun (v, μ) => .ok (some v, μ)
/-- and (stop := false) | or (stop := true) of Bools -/
noncomputable def evAO (stop : Bool) (ρ : Ev) : Mu → List X → Res (Bool × Mu)
  | _, [] => .no
  | μ, [e] => evB F ρ μ e
  | μ, e :: r => (evB F ρ μ e).bind fun (b, μ) => if b == stop then .ok (b, μ) else evAO stop ρ μ r
noncomputable def tupD : D → Option (List D) | .tup l => some l | _ => none
noncomputable def bindT (ρ : Ev) (ts : List Nat) (tp : Bool) (d : D) : Option Ev :=
  if tp then (tupD d).bind fun ds => if ts.length = ds.length then some ((ts.zip ds).foldl (fun ρ p => ρ.set p.1 (some (.c p.2))) ρ) else none
  else (only ts).map fun i => ρ.set i (some (.c d))
noncomputable def allB (ρ : Ev) : Mu → List X → Res (Bool × Mu)
  | μ, [] => .ok (true, μ)
  | μ, e :: r => (evB F ρ μ e).bind fun (b, μ) => if b then allB ρ μ r else .ok (false, μ)
noncomputable def compL (ρ : Ev) (ts : List Nat) (tp : Bool) (ifs : List X) (e : X) (acc : Nat) : Mu → List D → Res Mu
  | μ, [] => .ok μ
  | μ, d :: r => orNo (bindT ρ ts tp d) fun ρ' => (allB F ρ' μ ifs).bind fun (b, μ) =>
      if b then (F.x ρ' μ e).bind fun (v, μ) => (meAppend μ acc v).bind fun (_, μ) => compL ρ ts tp ifs e acc μ r
      else compL ρ ts tp ifs e acc μ r
noncomputable def txtV (v : V) : Option T := match toI v with | some i => intT i | none => toT v
noncomputable def evF (ρ : Ev) : Mu → List (T ⊕ X) → Res (T × Mu)
  | μ, [] => .ok ([], μ)
  | μ, .inl t :: r => (evF ρ μ r).bind fun (u, μ) => .ok (t ++ u, μ)
  | μ, .inr e :: r => (F.x ρ μ e).bind fun (v, μ) => orNo (txtV v) fun t => (evF ρ μ r).bind fun (u, μ) => .ok (t ++ u, μ)
noncomputable def stepX (ρ : Ev) (μ : Mu) (e : X) : Res (V × Mu) := match e with
  | .k d => .ok (.c d, μ)
  | .v i => orNo (getV ρ i) fun v => .ok (v, μ)
  | .bin o a b => (F.x ρ μ a).bind fun (x, μ) => (F.x ρ μ b).bind fun (y, μ) => binop μ o x y
  | .not a => (evB F ρ μ a).bind fun (b, μ) => .ok (.c (.bool (!b)), μ)
  | .neg a => (F.x ρ μ a).bind fun (v, μ) => orNo (toI v) fun i => .ok (.c (.int (-i)), μ)
  | .and l => (evAO F false ρ μ l).bind fun (b, μ) => .ok (.c (.bool b), μ)
  | .or l => (evAO F true ρ μ l).bind fun (b, μ) => .ok (.c (.bool b), μ)
  | .cmp o a b => (F.x ρ μ a).bind fun (x, μ) => (F.x ρ μ b).bind fun (y, μ) => orNo (cmpop μ o x y) fun r => .ok (.c (.bool r), μ)
  | .ite t a b => (evB F ρ μ t).bind fun (c, μ) => if c then F.x ρ μ a else F.x ρ μ b
  | .bi b l => (evL F ρ μ l).bind fun (vs, μ) => biop μ b vs
  | .fn f l => (evL F ρ μ l).bind fun (vs, μ) => (frzs μ vs).bind fun (ds, μ) => (F.call f (ds.map .c) []).bind fun (v, μ') => (frz μ' v).bind fun (d, _) => .ok (.c d, μ)
  | .cl c l => (evL F ρ μ l).bind fun (vs, μ) => (frzs μ vs).bind fun (ds, μ) =>
      orNo (if c = vecA then some 308 else if c = matA then some 435 else none) fun f => (F.call f (.r μ.length :: ds.map .c) (μ ++ [.ins c []])).bind fun (v, μ') => if nul v then .ok (.r μ.length, μ') else .no
  | .mt m o l => (F.x ρ μ o).bind fun (x, μ) => if mtOk μ m x then (evL F ρ μ l).bind fun (vs, μ) => meop μ m x vs else .no
  | .me f o l => (F.x ρ μ o).bind fun (x, μ) => orNo (matR μ x) fun i => (evL F ρ μ l).bind fun (vs, μ) => (frzs μ vs).bind fun (ds, μ) => (F.call f (.r i :: ds.map .c) μ).bind fun (v, μ) => (frz μ v).bind fun (d, μ) => .ok (.c d, μ)
  | .at o a => (F.x ρ μ o).bind fun (x, μ) => orNo (atop μ x a) fun v => .ok (v, μ)
  | .ix o i => (F.x ρ μ o).bind fun (x, μ) => (F.x ρ μ i).bind fun (y, μ) => orNo (ixop μ x y) fun v => .ok (v, μ)
  | .sl o lo hi => (F.x ρ μ o).bind fun (x, μ) => (evO F ρ μ lo).bind fun (l, μ) => (evO F ρ μ hi).bind fun (h, μ) => slop μ x l h
  | .list l => (evL F ρ μ l).bind fun (vs, μ) => (frzs μ vs).bind fun (ds, μ) => newL μ ds
  | .tup l => (evL F ρ μ l).bind fun (vs, μ) => (frzs μ vs).bind fun (ds, μ) => if fits ds then .ok (.c (.tup ds), μ) else .no
  | .dict ks l => (evL F ρ μ l).bind fun (vs, μ) => (frzs μ vs).bind fun (ds, μ) =>
      if ks.length = ds.length ∧ ks.Nodup ∧ ks.length ≤ 10 then .ok (.r μ.length, μ ++ [.dct (ks.zip (ds.map .c))]) else .no
  | .comp b ts tp it ifs e => (F.x ρ μ it).bind fun (x, μ) => (frz μ x).bind fun (d, μ) => orNo (itemsT tp d) fun l => (compL F (clr b ρ) ts tp ifs e μ.length (μ ++ [.lst true []]) l).bind fun μ' => .ok (.r μ.length, μ')
  | .fs l => if decide (2 ≤ l.length) then (evF F ρ μ l).bind fun (t, μ) => if okT t then .ok (.c (.str t), μ) else .no else .no
  | .bad => .no
noncomputable def evSs : Ev → Mu → List S → Res (Fl × Ev × Mu)
  | ρ, μ, [] => .ok (.nxt, ρ, μ)
  | ρ, μ, s :: r => (F.s ρ μ s).bind fun (f, ρ, μ) => match f with | .nxt => evSs ρ μ r | f => .ok (f, ρ, μ)
noncomputable def forL (ts : List Nat) (tp : Bool) (b : List S) : Ev → Mu → List D → Res (Fl × Ev × Mu)
  | ρ, μ, [] => .ok (.nxt, ρ, μ)
  | ρ, μ, d :: r => orNo (bindT ρ ts tp d) fun ρ => (evSs F ρ μ b).bind fun (f, ρ, μ) => match f with | .nxt => forL ts tp b ρ μ r | f => .ok (f, ρ, μ)
noncomputable def whlL (t : X) (b : List S) : Nat → Ev → Mu → Res (Fl × Ev × Mu)
  | 0, _, _ => .no
  | n + 1, ρ, μ => (evB F ρ μ t).bind fun (c, μ) => if c then (evSs F ρ μ b).bind fun (f, ρ, μ) => (match f with | .nxt => whlL t b n ρ μ | f => .ok (f, ρ, μ)) else .ok (.nxt, ρ, μ)
/-! what is raised -/
noncomputable def thn (o : Option T) (r : Res (Fl × Ev × Mu)) (k : Ev → Mu → Option T) : Option T := match o with
  | some m => some m
  | none => match r with
    | .ok q => (match q.1 with | .nxt => k q.2.1 q.2.2 | .ret _ => none)
    | _ => none
noncomputable def exSs : Ev → Mu → List S → Option T
  | _, _, [] => none
  | ρ, μ, s :: r => thn (F.es ρ μ s) (F.s ρ μ s) fun ρ μ => exSs ρ μ r
noncomputable def exFor (ts : List Nat) (tp : Bool) (b : List S) : Ev → Mu → List D → Option T
  | _, _, [] => none
  | ρ, μ, d :: r => (bindT ρ ts tp d).bind fun ρ => thn (exSs F ρ μ b) (evSs F ρ μ b) fun ρ μ => exFor ts tp b ρ μ r
noncomputable def exFn (ρ : Ev) (μ : Mu) (f : Addr) (l : List X) : Option T := ((evL F ρ μ l).bind fun (vs, μ) => frzs μ vs).opt.bind fun q => F.ec f (q.1.map .c)
noncomputable def exE (ρ : Ev) (μ : Mu) : X → Option T | .fn f l => exFn F ρ μ f l | _ => none
noncomputable def stepE (ρ : Ev) (μ : Mu) (s : S) : Option T := match s with
  | .ife t a b => (evB F ρ μ t).opt.bind fun q => if q.1 then exSs F ρ q.2 a else exSs F ρ q.2 b
  | .for_ ts tp it b => ((F.x ρ μ it).bind fun (x, μ) => frz μ x).opt.bind fun q => (itemsT tp q.1).bind fun l => exFor F ts tp b ρ q.2 l
  | .raise m => (F.x ρ μ m).opt.bind fun q => toT q.1
  | .asg _ e => exE F ρ μ e
  | .ret e => exE F ρ μ e
  | _ => none
noncomputable def tryR (r : Res (Fl × Ev × Mu)) (o : Option T) : Res (Fl × Ev × Mu) := match r with
  | .ok r => .ok r
  | _ => orNo o fun m => .ok (.ret (.c (.str m)), [], [])
noncomputable def stepS (ρ : Ev) (μ : Mu) (s : S) : Res (Fl × Ev × Mu) := match s with
  | .asgC i e => (stepX F ρ μ e).bind fun (v, μ) => .ok (.nxt, ρ.set i (some v), μ)
  | .asg i e => (F.x ρ μ e).bind fun (v, μ) => .ok (.nxt, ρ.set i (some v), μ)
  | .asgT ts e => (F.x ρ μ e).bind fun (v, μ) => orNo (asSeq μ v) fun ds => if ts.length = ds.length then .ok (.nxt, (ts.zip ds).foldl (fun ρ p => ρ.set p.1 (some (.c p.2))) ρ, μ) else .no
  | .aug i o e => orNo (getV ρ i) fun v => (F.x ρ μ e).bind fun (y, μ) => orNo (toI v) fun a => orNo (toI y) fun b => if o = .add then .ok (.nxt, ρ.set i (some (.c (.int (a + b)))), μ) else .no
  | .sat o a e => (F.x ρ μ e).bind fun (v, μ) => (F.x ρ μ o).bind fun (x, μ) => orNo (satop μ x a v) fun μ => .ok (.nxt, ρ, μ)
  | .six o i e => (F.x ρ μ e).bind fun (v, μ) => (F.x ρ μ o).bind fun (x, μ) => (F.x ρ μ i).bind fun (y, μ) => orNo (sixop μ x y v) fun μ => .ok (.nxt, ρ, μ)
  | .ex e => (F.x ρ μ e).bind fun (_, μ) => .ok (.nxt, ρ, μ)
  | .ife t a b => (evB F ρ μ t).bind fun (c, μ) => if c then evSs F ρ μ a else evSs F ρ μ b
  | .whl t b => whlL F t b 64 ρ μ
  | .for_ ts tp it b => (F.x ρ μ it).bind fun (x, μ) => (frz μ x).bind fun (d, μ) => orNo (itemsT tp d) fun l => forL F ts tp b ρ μ l
  | .ret e => (F.x ρ μ e).bind fun (v, μ) => .ok (.ret v, ρ, μ)
  | .retN => .ok (.ret (.c .none), ρ, μ)
  | .raise _ => .no
  | .tryM b => if μ.isEmpty then tryR (evSs F ρ [] b) (exSs F ρ [] b) else .no
  | .bad => .no
end
/-- a function of the text: how many arguments it takes, the defaults of the last of them, how many variables, its body -/
structure Fd where
  np : Nat
  dfl : List D
  nv : Nat
  body : List S
noncomputable def Fd.args (fd : Fd) (vs : List V) : Option Ev :=
  if vs.length ≤ fd.np ∧ fd.np ≤ vs.length + fd.dfl.length then
    some ((vs ++ (fd.dfl.drop (fd.dfl.length - (fd.np - vs.length))).map V.c).map some ++ List.replicate (fd.nv - fd.np) none)
  else none
noncomputable def callF (F : Fn) (fd : Fd) (vs : List V) (μ : Mu) : Res (V × Mu) := match fd.args vs with
  | some ρ => (evSs F ρ μ fd.body).bind fun (f, _, μ) => match f with | .nxt => .ok (.c .none, μ) | .ret v => .ok (v, μ)
  | none => .no
noncomputable def callE (F : Fn) (fd : Fd) (vs : List V) : Option T := match fd.args vs with
  | some ρ => exSs F ρ [] fd.body
  | none => none
noncomputable def stepF (tab : Addr → Option Fd) (F : Fn) : Fn where
  x := stepX F
  s := stepS F
  call f vs μ := match tab f with | some fd => callF F fd vs μ | none => .no
  es := stepE F
  ec f vs := match tab f with | some fd => callE F fd vs | none => none
noncomputable def evN (tab : Addr → Option Fd) : Nat → Fn
  | 0 => ⟨fun _ _ _ => .no, fun _ _ _ => .no, fun _ _ _ => .no, fun _ _ _ => none, fun _ _ => none⟩
  | n + 1 => stepF tab (evN tab n)
end
local macro_rules | `(tactic| cases $h:ident) => `(tactic| first | exact noR $h | exact noneE $h | exact falseE $h | cases ($h))
section
open PySem PySem.W PyProof.Rows PySem.Calls
noncomputable abbrev sT (t : T) : Str := ⟨t.toArray⟩
/-! ## lists alike -/
noncomputable def AlR {α β : Type} (R : α → β → Prop) (l : List α) (r : List β) : Prop := l.length = r.length ∧ ∀ (i : Nat) a b, l[i]? = some a → r[i]? = some b → R a b
section
variable {α β : Type} {R R' : α → β → Prop} {l l' : List α} {r r' : List β}
theorem AlR.nil : AlR R [] [] := ⟨rfl, fun i a b h => by simp at h⟩
theorem AlR.cons {a : α} {b : β} (h : R a b) (t : AlR R l r) : AlR R (a :: l) (b :: r) := by
  refine ⟨by simp [t.1], fun i x y hx hy => ?_⟩
  rcases i with _ | i
  · simp at hx hy; subst hx hy; exact h
  · simp at hx hy; exact t.2 i x y hx hy
theorem AlR.inv_cons {a : α} {b : β} (h : AlR R (a :: l) (b :: r)) : R a b ∧ AlR R l r :=
  ⟨h.2 0 a b rfl rfl, ⟨by have := h.1; simp at this; exact this, fun i x y hx hy => h.2 (i + 1) x y (by simpa using hx) (by simpa using hy)⟩⟩
theorem AlR.cases_nil (h : AlR R l []) : l = [] := List.length_eq_zero_iff.mp h.1
theorem AlR.cases_nil' (h : AlR R [] r) : r = [] := List.length_eq_zero_iff.mp h.1.symm
theorem AlR.cases_cons {b : β} (h : AlR R l (b :: r)) : ∃ a t, l = a :: t ∧ R a b ∧ AlR R t r := by
  rcases l with _ | ⟨a, t⟩
  · have := h.1; simp at this
  · exact ⟨a, t, rfl, h.inv_cons⟩
theorem AlR.mono (h : AlR R l r) (k : ∀ a b, R a b → R' a b) : AlR R' l r := ⟨h.1, fun i a b x y => k _ _ (h.2 i a b x y)⟩
theorem AlR.append (h : AlR R l r) (h' : AlR R l' r') : AlR R (l ++ l') (r ++ r') := by
  induction l generalizing r with
  | nil => rw [AlR.cases_nil' h]; exact h'
  | cons a t ih =>
    rcases r with _ | ⟨b, r⟩
    · have := h.1; simp at this
    · exact AlR.cons h.inv_cons.1 (ih h.inv_cons.2)
theorem AlR.one {a : α} {b : β} (h : R a b) : AlR R [a] [b] := .cons h .nil
theorem AlR.get (h : AlR R l r) {i : Nat} {b : β} (e : r[i]? = some b) : ∃ a, l[i]? = some a ∧ R a b := by
  have hi : i < l.length := by rw [h.1]; exact (List.getElem?_eq_some_iff.mp e).1
  exact ⟨l[i], List.getElem?_eq_getElem hi, h.2 i _ _ (List.getElem?_eq_getElem hi) e⟩
theorem AlR.get' (h : AlR R l r) {i : Nat} {a : α} (e : l[i]? = some a) : ∃ b, r[i]? = some b ∧ R a b := by
  have hi : i < r.length := by rw [← h.1]; exact (List.getElem?_eq_some_iff.mp e).1
  exact ⟨r[i], List.getElem?_eq_getElem hi, h.2 i _ _ e (List.getElem?_eq_getElem hi)⟩
theorem AlR.set (h : AlR R l r) {a : α} {b : β} (x : R a b) (i : Nat) : AlR R (l.set i a) (r.set i b) := by
  refine ⟨by simp [h.1], fun j a' b' ha hb => ?_⟩
  rw [List.getElem?_set] at ha hb
  by_cases e : i = j
  · subst e
    simp only [if_true] at ha hb
    have hl := h.1
    split at ha <;> split at hb <;> first | (cases ha; cases hb; exact x) | (cases ha; done) | (cases hb; done) | lia
  · rw [if_neg e] at ha hb; exact h.2 j _ _ ha hb
theorem AlR.take (h : AlR R l r) (n : Nat) : AlR R (l.take n) (r.take n) := by
  refine ⟨by simp [h.1], fun j a b ha hb => ?_⟩
  rw [List.getElem?_take] at ha hb
  split at ha <;> split at hb <;> first | exact h.2 j _ _ ha hb | cases ha | cases hb
theorem AlR.drop (h : AlR R l r) (n : Nat) : AlR R (l.drop n) (r.drop n) := by
  refine ⟨by simp [h.1], fun j a b ha hb => ?_⟩
  rw [List.getElem?_drop] at ha hb
  exact h.2 _ _ _ ha hb
theorem AlR.reverse (h : AlR R l r) : AlR R l.reverse r.reverse := by
  induction l generalizing r with
  | nil => rw [AlR.cases_nil' h]; exact .nil
  | cons a t ih =>
    rcases r with _ | ⟨b, r⟩
    · have := h.1; simp at this
    · rw [List.reverse_cons, List.reverse_cons]; exact (ih h.inv_cons.2).append (.one h.inv_cons.1)
theorem AlR.replicate {a : α} {b : β} (h : R a b) (n : Nat) : AlR R (List.replicate n a) (List.replicate n b) := by
  induction n with
  | zero => exact .nil
  | succ n ih => exact .cons h ih
theorem AlR.map_right {γ : Type} {f : γ → β} {c : List γ} (h : AlR (fun a x => R a (f x)) l c) : AlR R l (c.map f) := by
  refine ⟨by simp [h.1], fun i a b ha hb => ?_⟩
  rw [List.getElem?_map] at hb
  obtain ⟨x, hx, rfl⟩ := Option.map_eq_some_iff.mp hb
  exact h.2 i _ _ ha hx
theorem AlR.of_map_right {γ : Type} {f : γ → β} {c : List γ} (h : AlR R l (c.map f)) : AlR (fun a x => R a (f x)) l c :=
  ⟨by simpa using h.1, fun i a x ha hx => h.2 i _ _ ha (by rw [List.getElem?_map, hx]; rfl)⟩
end
/-! ## what is known of the heap -/
inductive FO where
  | ex (o : Obj) | vd (k i t : Value)
noncomputable def InsD : List DictEntry → List (At × Value) → Prop
  | [], [] => True
  | e :: es, p :: l => (∃ t, e.key = .str (sT p.1.name) t) ∧ e.val = p.2 ∧ InsD es l
  | _, _ => False
noncomputable def InsO (l : List (At × Value)) (o : Obj) : Prop := ∃ es n, o = dictOf es n ∧ InsD es l
noncomputable def VecD (k i t : Value) (o : Obj) : Prop := ∃ b c, InsO [(.kind, k), (.items, i), (.attrs, t), (.shared, .bool b), (.loose, .bool c)] o
noncomputable def FO.Holds : FO → Option Obj → Prop
  | .ex o, x => x = some o
  | .vd k i t, x => ∃ o, x = some o ∧ VecD k i t o
noncomputable abbrev ZM := Addr → Option FO
noncomputable abbrev GM := Addr → Option Obj
noncomputable def ListO (o : Obj) (vs : List Value) : Prop := ∃ n, o = { cls := .type "list", dict := none, data := .seq vs.toArray n, slots := #[] }
noncomputable def TupO (o : Obj) (vs : List Value) : Prop := o.cls = .type "tuple" ∧ o.dict = none ∧ ∃ n, o.data = .seq vs.toArray n
noncomputable def RngO (o : Obj) (a b c : Int) : Prop := ∃ t u v, o = { cls := .type "range", dict := none, data := .fields #[.int a t, .int b u, .int c v], slots := #[] }
/-- a value stands for plain data: by objects that are never changed any more (but for a Vector's flag) -/
inductive Rep (w : World) (Z : ZM) : Value → D → Prop
  | none : Rep w Z .none .none
  | bool (b : Bool) : Rep w Z (.bool b) (.bool b)
  | int (i : Int) (t : Tok) : Rep w Z (.int i t) (.int i)
  | str (s : T) (t : Tok) : Rep w Z (.str (sT s) t) (.str s)
  | list {a : Addr} {o : Obj} {vs : List Value} {ds : List D} : Z a = some (.ex o) → ListO o vs → vs.length = ds.length → (∀ (i : Nat) v d, vs[i]? = some v → ds[i]? = some d → Rep w Z v d) → Rep w Z (.ref a) (.list ds)
  | tup {a : Addr} {o : Obj} {vs : List Value} {ds : List D} : Z a = some (.ex o) → TupO o vs → vs.length = ds.length → (∀ (i : Nat) v d, vs[i]? = some v → ds[i]? = some d → Rep w Z v d) → Rep w Z (.ref a) (.tup ds)
  | dict {a : Addr} {o : Obj} {kvs : List (Str × Value)} {ds : List (T × D)} : a ≠ sysModules → Z a = some (.ex o) → o.IsDictOf (strKind pT w) kvs → kvs.length = ds.length →
      (∀ (i : Nat) v d, kvs[i]? = some v → ds[i]? = some d → v.1 = sT d.1) → (∀ (i : Nat) v d, kvs[i]? = some v → ds[i]? = some d → Rep w Z v.2 d.2) → Rep w Z (.ref a) (.dict ds)
  | vec {a dx : Addr} {k i t : Value} {dk di dt : D} : a ≠ dx → Z a = some (.ex (instObj vecA dx)) → Z dx = some (.vd k i t) → Rep w Z k dk → Rep w Z i di → Rep w Z t dt → Rep w Z (.ref a) (.vec dk di dt)
  | rng {a : Addr} {o : Obj} {lo hi st : Int} : Z a = some (.ex o) → RngO o lo hi st → Rep w Z (.ref a) (.rng lo hi st)
  | glo (v : Value) : Rep w Z v (.glo v)
  | arr {a : Addr} {o : Obj} {vs : List Value} {ds : List D} : Z a = some (.ex o) → o.cls = .type "list" → (∃ n, o.data = .seq vs.toArray n) → vs.length = ds.length → (∀ (i : Nat) v d, vs[i]? = some v → ds[i]? = some d → Rep w Z v d) → Rep w Z (.ref a) (.arr ds)
noncomputable def ZLe (Z Z' : ZM) : Prop := ∀ a f, Z a = some f → Z' a = some f
theorem ZLe.refl (Z : ZM) : ZLe Z Z := fun _ _ e => e
theorem ZLe.trans {Z Z' Z'' : ZM} (a : ZLe Z Z') (b : ZLe Z' Z'') : ZLe Z Z'' := fun _ _ e => b _ _ (a _ _ e)
theorem Rep.mono {w : World} {Z Z' : ZM} (k : ZLe Z Z') {v : Value} {d : D} (h : Rep w Z v d) : Rep w Z' v d := by
  induction h with
  | none => exact .none
  | bool b => exact .bool b
  | int i t => exact .int i t
  | str s t => exact .str s t
  | list z o l _ ih => exact .list (k _ _ z) o l ih
  | tup z o l _ ih => exact .tup (k _ _ z) o l ih
  | dict ns z o l x _ ih => exact .dict ns (k _ _ z) o l x ih
  | vec n z y _ _ _ a b c => exact .vec n (k _ _ z) (k _ _ y) a b c
  | rng z o => exact .rng (k _ _ z) o
  | glo v => exact .glo v
  | arr z c o l _ ih => exact .arr (k _ _ z) c o l ih
noncomputable abbrev AS := List (Addr × Addr)
noncomputable def VRep (w : World) (Z : ZM) (as : AS) (x : Value) : V → Prop
  | .c d => Rep w Z x d
  | .r i => ∃ q, as[i]? = some q ∧ x = .ref q.1
theorem VRep.mono {w : World} {Z Z' : ZM} {as as' : AS} (k : ZLe Z Z') (p : as <+: as') {x : Value} {v : V} (h : VRep w Z as x v) : VRep w Z' as' x v := by
  rcases v with d | i
  · exact Rep.mono k h
  ·
    obtain ⟨q, e, rfl⟩ := h
    obtain ⟨t, rfl⟩ := p
    exact ⟨q, by rw [List.getElem?_append_left (List.getElem?_eq_some_iff.mp e).1]; exact e, rfl⟩
noncomputable def PRep (w : World) (Z : ZM) (as : AS) (h : Heap) : P → Addr × Addr → Prop
  | .lst pl ds, q => ∃ o vs n, h.get? q.1 = some o ∧ o.cls = .type "list" ∧ (pl = true → o.dict = none ∧ o.slots = #[]) ∧ o.data = .seq (List.toArray vs) n ∧ AlR (Rep w Z) vs ds
  | .dct es, q => q.1 ≠ sysModules ∧ ∃ o kvs, h.get? q.1 = some o ∧ o.IsDictOf (strKind pT w) kvs ∧ AlR (fun (kv : Str × Value) e => kv.1 = sT e.1 ∧ VRep w Z as kv.2 e.2) kvs es
  | .ins C l, q => q.1 ≠ q.2 ∧ h.get? q.1 = some (instObj C q.2) ∧ ∃ od lv, h.get? q.2 = some od ∧ InsO lv od ∧ AlR (fun (kv : At × Value) e => kv.1 = e.1 ∧ VRep w Z as kv.2 e.2) lv l
  | .frz d, q => Rep w Z (.ref q.1) d
noncomputable def fpP : P → Addr × Addr → List Addr
  | .ins _ _, q => [q.1, q.2]
  | .frz _, _ => []
  | _, q => [q.1]
theorem PRep.keep {w : World} {Z Z' : ZM} {as as' : AS} {h h' : Heap} {p : P} {q : Addr × Addr} (x : PRep w Z as h p q) (z : ZLe Z Z') (y : as <+: as') (k : ∀ a ∈ fpP p q, ∀ o, h.get? a = some o → h'.get? a = some o) : PRep w Z' as' h' p q := by
  rcases p with ⟨pl, ds⟩ | es | ⟨C, l⟩ | d
  ·
    obtain ⟨o, vs, n, a, b, c, d, e⟩ := x
    exact ⟨o, vs, n, k _ (by simp [fpP]) _ a, b, c, d, e.mono fun _ _ r => r.mono z⟩
  ·
    obtain ⟨ns, o, vs, a, b, e⟩ := x
    exact ⟨ns, o, vs, k _ (by simp [fpP]) _ a, b, e.mono fun _ _ r => ⟨r.1, r.2.mono z y⟩⟩
  ·
    obtain ⟨n, a, o, lv, b, c, e⟩ := x
    exact ⟨n, k _ (by simp [fpP]) _ a, o, lv, k _ (by simp [fpP]) _ b, c, e.mono fun _ _ r => ⟨r.1, r.2.mono z y⟩⟩
  · exact Rep.mono z x
theorem PRep.alive {w : World} {Z : ZM} {as : AS} {h : Heap} {p : P} {q : Addr × Addr} (x : PRep w Z as h p q) {a : Addr} (ha : a ∈ fpP p q) : ∃ o, h.get? a = some o := by
  rcases p with ⟨pl, ds⟩ | es | ⟨C, l⟩ | d
  · obtain ⟨o, vs, n, e, _⟩ := x; simp [fpP] at ha; subst ha; exact ⟨o, e⟩
  · obtain ⟨_, o, vs, e, _⟩ := x; simp [fpP] at ha; subst ha; exact ⟨o, e⟩
  ·
    obtain ⟨n, e, o, lv, b, _⟩ := x
    simp [fpP] at ha
    rcases ha with rfl | rfl
    · exact ⟨_, e⟩
    · exact ⟨_, b⟩
  · simp [fpP] at ha
noncomputable def MARK : Array (Option Value) := #[some .none, none, none, none, none, none, none]
/-- what is guarded stays; a marked frame's slots may change -/
noncomputable def GEq (N : Nat) (a : Addr) (o : Obj) (x : Option Obj) : Prop := x = some o ∨ (N ≤ a ∧ o.slots = MARK ∧ ∃ sl, x = some { o with slots := sl })
theorem GEq.keep {N : Nat} {a : Addr} {o : Obj} {x y : Option Obj} (h : GEq N a o x) (k : ∀ o', x = some o' → y = some o') : GEq N a o y := by
  rcases h with h | ⟨h1, h2, sl, h3⟩
  · exact .inl (k _ h)
  · exact .inr ⟨h1, h2, sl, k _ h3⟩
theorem GEq.to {N : Nat} {a : Addr} {o : Obj} {x : Option Obj} (h : GEq N a o x) : ∃ sl, x = some { o with slots := sl } := by
  rcases h with h | ⟨_, _, sl, h⟩
  · exact ⟨o.slots, h⟩
  · exact ⟨sl, h⟩
theorem GEq.low {N : Nat} {a : Addr} {o : Obj} {x : Option Obj} (h : GEq N a o x) (l : a < N) : x = some o := by
  rcases h with h | ⟨h1, _⟩
  · exact h
  · exact absurd l (Nat.not_lt.mpr h1)
theorem GEq.noM {N : Nat} {a : Addr} {o : Obj} {x : Option Obj} (h : GEq N a o x) (l : o.slots ≠ MARK) : x = some o := by
  rcases h with h | ⟨_, h1, _⟩
  · exact h
  · exact absurd h1 l
/-- the state of what is known: fixed objects Z, guarded objects G, own extra places ex, own objects μ at as -/
structure StC (w : World) (N : Nat) (Z : ZM) (G : GM) (ex : List Addr) (as : AS) (μ : Mu) (h : Heap) : Prop where
  z : ∀ a f, Z a = some f → f.Holds (h.get? a)
  g : ∀ a o, G a = some o → GEq N a o (h.get? a)
  vd : ∀ a f, Z a = some f → G a = none
  exA : ∀ a ∈ ex, (∃ o, h.get? a = some o) ∧ Z a = none ∧ G a = none
  len : as.length = μ.length
  priv : ∀ (i : Nat) p q, μ[i]? = some p → as[i]? = some q → PRep w Z as h p q
  own : ∀ (i : Nat) p q, μ[i]? = some p → as[i]? = some q → ∀ a ∈ fpP p q, Z a = none ∧ G a = none ∧ a ∉ ex
  sep : ∀ (i j : Nat) p q p' q', i ≠ j → μ[i]? = some p → as[i]? = some q → μ[j]? = some p' → as[j]? = some q' → ∀ a ∈ fpP p q, a ∉ fpP p' q'
theorem FO.Holds.keep {f : FO} {x y : Option Obj} (h : f.Holds x) (k : ∀ o, x = some o → y = some o) : f.Holds y := by
  cases f with
  | ex o => exact k _ h
  | vd a b c => obtain ⟨o, e, r⟩ := h; exact ⟨o, k _ e, r⟩
theorem FO.Holds.alive {f : FO} {x : Option Obj} (h : f.Holds x) : ∃ o, x = some o := by
  cases f with
  | ex o => exact ⟨_, h⟩
  | vd a b c => obtain ⟨o, e, r⟩ := h; exact ⟨o, e⟩
section
variable {w : World} {N : Nat} {Z Z' : ZM} {G : GM} {ex : List Addr} {as : AS} {μ : Mu} {h h' : Heap}
theorem StC.ext (S : StC w N Z G ex as μ h) (k : ∀ b o, h.get? b = some o → h'.get? b = some o) : StC w N Z G ex as μ h' where
  z a f e := (S.z a f e).keep (k a)
  g a o e := (S.g a o e).keep fun _ q => k _ _ q
  vd := S.vd
  exA a m := let ⟨⟨o, e⟩, r⟩ := S.exA a m; ⟨⟨o, k _ _ e⟩, r⟩
  len := S.len
  priv i p q a b := (S.priv i p q a b).keep (.refl _) (List.prefix_refl _) fun c _ o e => k _ _ e
  own := S.own
  sep := S.sep
/-- a step that changes one of the extra places alone -/
theorem StC.setEx (S : StC w N Z G ex as μ h) {x : Addr} (hx : x ∈ ex) (k : ∀ b o, b ≠ x → h.get? b = some o → h'.get? b = some o) (al : ∃ o, h'.get? x = some o) : StC w N Z G ex as μ h' where
  z a f e := (S.z a f e).keep fun o q => k a o (fun r => by rw [r, (S.exA x hx).2.1] at e; cases e) q
  g a o e := (S.g a o e).keep fun _ q => k _ _ (fun r => by rw [r, (S.exA x hx).2.2] at e; cases e) q
  vd := S.vd
  exA a m := by
    obtain ⟨⟨o, e⟩, r⟩ := S.exA a m
    by_cases q : a = x
    · subst q; exact ⟨al, r⟩
    · exact ⟨⟨o, k _ _ q e⟩, r⟩
  len := S.len
  priv i p q a b := (S.priv i p q a b).keep (.refl _) (List.prefix_refl _) fun c m o e => k _ _ (fun r => (S.own i p q a b c m).2.2 (r ▸ hx)) e
  own := S.own
  sep := S.sep
/-- a step that changes a Vector's flag alone -/
theorem StC.setVd (S : StC w N Z G ex as μ h) {x : Addr} {kk ii tt : Value} (hx : Z x = some (.vd kk ii tt)) (k : ∀ b o, b ≠ x → h.get? b = some o → h'.get? b = some o) (al : ∃ o, h'.get? x = some o ∧ VecD kk ii tt o) : StC w N Z G ex as μ h' where
  z a f e := by
    by_cases q : a = x
    · subst q; rw [hx] at e; cases e; exact al
    · exact (S.z a f e).keep fun o y => k a o q y
  g a o e := (S.g a o e).keep fun _ q => k _ _ (fun r => by rw [r, S.vd _ _ hx] at e; cases e) q
  vd := S.vd
  exA a m := by
    obtain ⟨⟨o, e⟩, r⟩ := S.exA a m
    exact ⟨⟨o, k _ _ (fun q => by rw [q, hx] at r; exact absurd r.1 (by simp)) e⟩, r⟩
  len := S.len
  priv i p q a b := (S.priv i p q a b).keep (.refl _) (List.prefix_refl _) fun c m o e => k _ _ (fun r => by have := (S.own i p q a b c m).1; rw [r, hx] at this; cases this) e
  own := S.own
  sep := S.sep
/-- a step that changes one own object -/
theorem StC.setP (S : StC w N Z G ex as μ h) {i : Nat} {p p' : P} {q : Addr × Addr} {x : Addr} (hp : μ[i]? = some p) (hq : as[i]? = some q) (hx : x ∈ fpP p q) (hf : ∀ a ∈ fpP p' q, a ∈ fpP p q)
    (k : ∀ b o, b ≠ x → h.get? b = some o → h'.get? b = some o) (r : PRep w Z as h' p' q) : StC w N Z G ex as (μ.set i p') h' where
  z a f e := (S.z a f e).keep fun o y => k a o (fun r => by rw [r, (S.own i p q hp hq x hx).1] at e; cases e) y
  g a o e := (S.g a o e).keep fun _ q' => k _ _ (fun r => by rw [r, (S.own i p q hp hq x hx).2.1] at e; cases e) q'
  vd := S.vd
  exA a m := by
    obtain ⟨⟨o, e⟩, r⟩ := S.exA a m
    exact ⟨⟨o, k _ _ (fun q' => (S.own i p q hp hq x hx).2.2 (q' ▸ m)) e⟩, r⟩
  len := by rw [List.length_set]; exact S.len
  priv j p₁ q₁ a b := by
    rw [List.getElem?_set] at a
    by_cases e : i = j
    · subst e
      rw [if_pos rfl] at a
      split at a
      · cases a; rw [hq] at b; cases b; exact r
      · cases a
    · rw [if_neg e] at a
      exact (S.priv j p₁ q₁ a b).keep (.refl _) (List.prefix_refl _) fun c m o y => k _ _ (fun r' => S.sep i j p q p₁ q₁ e hp hq a b x hx (r' ▸ m)) y
  own j p₁ q₁ a b c m := by
    rw [List.getElem?_set] at a
    by_cases e : i = j
    · subst e
      rw [if_pos rfl] at a
      split at a
      · cases a; rw [hq] at b; cases b; exact S.own i p q hp hq c (hf c m)
      · cases a
    · rw [if_neg e] at a; exact S.own j p₁ q₁ a b c m
  sep j l p₁ q₁ p₂ q₂ n a b a' b' c m m' := by
    have red : ∀ {j : Nat} {p₁ : P} {q₁ : Addr × Addr}, (μ.set i p')[j]? = some p₁ → as[j]? = some q₁ → ∃ p₀, μ[j]? = some p₀ ∧ ∀ a ∈ fpP p₁ q₁, a ∈ fpP p₀ q₁ := by
      intro j p₁ q₁ a b
      rw [List.getElem?_set] at a
      by_cases e : i = j
      · subst e
        rw [if_pos rfl] at a
        split at a
        · cases a; rw [hq] at b; cases b; exact ⟨p, hp, hf⟩
        · cases a
      · rw [if_neg e] at a; exact ⟨p₁, a, fun _ m => m⟩
    obtain ⟨p₀, e₀, f₀⟩ := red a b
    obtain ⟨p₃, e₃, f₃⟩ := red a' b'
    exact S.sep j l p₀ q₁ p₃ q₂ n e₀ b e₃ b' c (f₀ c m) (f₃ c m')
/-- an address that nothing here speaks of -/
noncomputable def Fresh (Z : ZM) (G : GM) (ex : List Addr) (as : AS) (μ : Mu) (a : Addr) : Prop := Z a = none ∧ G a = none ∧ a ∉ ex ∧ ∀ (i : Nat) p q, μ[i]? = some p → as[i]? = some q → a ∉ fpP p q
theorem StC.fresh (S : StC w N Z G ex as μ h) {a : Addr} (e : h.get? a = none) : Fresh Z G ex as μ a := by
  refine ⟨?_, ?_, fun m => ?_, fun i p q x y m => ?_⟩
  · cases hz : Z a with
    | none => rfl
    | some f => obtain ⟨o, e'⟩ := (S.z a f hz).alive; rw [e] at e'; cases e'
  · cases hz : G a with
    | none => rfl
    | some f => obtain ⟨sl, this⟩ := (S.g a f hz).to; rw [e] at this; cases this
  · obtain ⟨⟨o, e'⟩, _⟩ := S.exA a m; rw [e] at e'; cases e'
  · obtain ⟨o, e'⟩ := (S.priv i p q x y).alive m
    rw [e] at e'; cases e'
/-- a new own object -/
theorem StC.pushF (S : StC w N Z G ex as μ h) {p : P} {q : Addr × Addr} (fr : ∀ a ∈ fpP p q, Fresh Z G ex as μ a) (r : PRep w Z (as ++ [q]) h p q) : StC w N Z G ex (as ++ [q]) (μ ++ [p]) h := by
  have lt : ∀ {i : Nat} {p₁ : P} {q₁ : Addr × Addr}, (μ ++ [p])[i]? = some p₁ → (as ++ [q])[i]? = some q₁ → (μ[i]? = some p₁ ∧ as[i]? = some q₁) ∨ (i = μ.length ∧ p₁ = p ∧ q₁ = q) := by
    intro i p₁ q₁ a b
    by_cases e : i < μ.length
    · rw [List.getElem?_append_left e] at a
      rw [List.getElem?_append_left (by rw [S.len]; exact e)] at b
      exact .inl ⟨a, b⟩
    · have e' : i = μ.length := by
        have := (List.getElem?_eq_some_iff.mp a).1
        simp at this; lia
      subst e'
      rw [List.getElem?_append_right (Nat.le_refl _)] at a
      rw [List.getElem?_append_right (by rw [S.len]; exact Nat.le_refl _), S.len] at b
      simp at a b
      exact .inr ⟨rfl, a.symm, b.symm⟩
  refine ⟨S.z, S.g, S.vd, S.exA, by simp [S.len], fun i p₁ q₁ a b => ?_, fun i p₁ q₁ a b c m => ?_, fun i j p₁ q₁ p₂ q₂ n a b a' b' c m m' => ?_⟩
  · rcases lt a b with ⟨a1, b1⟩ | ⟨e1, e2, e3⟩
    · exact (S.priv i p₁ q₁ a1 b1).keep (.refl _) (List.prefix_append _ _) fun _ _ _ e => e
    · rw [e2, e3]; exact r
  · rcases lt a b with ⟨a1, b1⟩ | ⟨e1, e2, e3⟩
    · exact S.own i p₁ q₁ a1 b1 c m
    · rw [e2, e3] at m
      exact ⟨(fr c m).1, (fr c m).2.1, (fr c m).2.2.1⟩
  · rcases lt a b with ⟨a1, b1⟩ | ⟨e1, e2, e3⟩
    · rcases lt a' b' with ⟨a2, b2⟩ | ⟨e4, e5, e6⟩
      · exact S.sep i j p₁ q₁ p₂ q₂ n a1 b1 a2 b2 c m m'
      · rw [e5, e6] at m'
        exact (fr c m').2.2.2 i p₁ q₁ a1 b1 m
    · rcases lt a' b' with ⟨a2, b2⟩ | ⟨e4, e5, e6⟩
      · rw [e2, e3] at m
        exact (fr c m).2.2.2 j p₂ q₂ a2 b2 m'
      · exact n (e1.trans e4.symm)
theorem StC.pushP (S : StC w N Z G ex as μ h) {p : P} {q : Addr × Addr} (k : ∀ b o, h.get? b = some o → h'.get? b = some o) (fr : ∀ a ∈ fpP p q, h.get? a = none) (r : PRep w Z (as ++ [q]) h' p q) : StC w N Z G ex (as ++ [q]) (μ ++ [p]) h' :=
  (S.ext k).pushF (fun a m => S.fresh (fr a m)) r
/-- more is known to be fixed -/
theorem StC.addZ (S : StC w N Z G ex as μ h) {a : Addr} {f : FO} (hz : Z a = none) (hg : G a = none) (hx : a ∉ ex) (hf : f.Holds (h.get? a)) (ho : ∀ (i : Nat) p q, μ[i]? = some p → as[i]? = some q → a ∉ fpP p q) :
    StC w N (fun b => if b = a then some f else Z b) G ex as μ h ∧ ZLe Z (fun b => if b = a then some f else Z b) := by
  have le : ZLe Z (fun b => if b = a then some f else Z b) := fun b g e => by
    show (if b = a then some f else Z b) = some g
    rw [if_neg (fun q => by rw [q, hz] at e; cases e)]; exact e
  refine ⟨⟨fun b g e => ?_, S.g, fun b f' e => ?_, fun b m => ?_, S.len, fun i p q x y => (S.priv i p q x y).keep le (List.prefix_refl _) fun _ _ _ e => e, fun i p q x y c m => ?_, S.sep⟩, le⟩
  · by_cases q : b = a
    · subst q; simp at e; subst e; exact hf
    · simp [q] at e; exact S.z b g e
  · by_cases q : b = a
    · subst q; exact hg
    · simp [q] at e; exact S.vd b f' e
  · obtain ⟨x, y, z⟩ := S.exA b m
    refine ⟨x, ?_, z⟩
    show (if b = a then some f else Z b) = none
    rw [if_neg (fun (q : b = a) => hx (q ▸ m))]; exact y
  · obtain ⟨x₁, y₁, z₁⟩ := S.own i p q x y c m
    refine ⟨?_, y₁, z₁⟩
    show (if c = a then some f else Z c) = none
    rw [if_neg (fun (r : c = a) => ho i p q x y (r ▸ m))]; exact x₁
theorem StC.vrep_alive (S : StC w N Z G ex as μ h) {i : Nat} {p : P} (hp : μ[i]? = some p) : ∃ q, as[i]? = some q ∧ PRep w Z as h p q := by
  have : i < as.length := by rw [S.len]; exact (List.getElem?_eq_some_iff.mp hp).1
  exact ⟨as[i], List.getElem?_eq_getElem this, S.priv i p _ hp (List.getElem?_eq_getElem this)⟩
end
section
variable {w : World} {N : Nat} {Z Z' : ZM} {G : GM} {ex : List Addr} {as : AS} {μ : Mu} {h h' : Heap}
theorem StC.frzP (S : StC w N Z G ex as μ h) {i : Nat} {p : P} {q : Addr × Addr} {d : D} (hp : μ[i]? = some p) (hq : as[i]? = some q) (le : ZLe Z Z')
    (hz : ∀ a f, Z' a = some f → Z a = some f ∨ (a ∈ fpP p q ∧ f.Holds (h.get? a))) (r : Rep w Z' (.ref q.1) d) : StC w N Z' G ex as (μ.set i (.frz d)) h where
  z a f e := (hz a f e).elim (S.z a f) fun y => y.2
  g := S.g
  vd a f e := (hz a _ e).elim (fun y => S.vd a f y) fun y => (S.own i p q hp hq a y.1).2.1
  exA a m := by
    obtain ⟨x, y, z⟩ := S.exA a m
    refine ⟨x, ?_, z⟩
    cases e : Z' a with
    | none => rfl
    | some f =>
      rcases hz a f e with e' | e'
      · rw [y] at e'; cases e'
      · exact absurd m (S.own i p q hp hq a e'.1).2.2
  len := by rw [List.length_set]; exact S.len
  priv j p₁ q₁ a b := by
    rw [List.getElem?_set] at a
    by_cases e : i = j
    · subst e
      rw [if_pos rfl] at a
      split at a
      · cases a; rw [hq] at b; cases b; exact r
      · cases a
    · rw [if_neg e] at a
      exact (S.priv j p₁ q₁ a b).keep le (List.prefix_refl _) fun c m o y => y
  own j p₁ q₁ a b c m := by
    rw [List.getElem?_set] at a
    by_cases e : i = j
    · subst e
      rw [if_pos rfl] at a
      split at a
      · cases a; simp [fpP] at m
      · cases a
    · rw [if_neg e] at a
      obtain ⟨x, y, z⟩ := S.own j p₁ q₁ a b c m
      refine ⟨?_, y, z⟩
      cases e' : Z' c with
      | none => rfl
      | some f =>
        rcases hz c f e' with e'' | e''
        · rw [x] at e''; cases e''
        · exact absurd m (S.sep i j p q p₁ q₁ e hp hq a b c e''.1)
  sep j l p₁ q₁ p₂ q₂ n a b a' b' c m m' := by
    rw [List.getElem?_set] at a a'
    by_cases e : i = j
    · rw [if_pos e] at a
      split at a
      · cases a; simp [fpP] at m
      · cases a
    · by_cases e' : i = l
      · rw [if_pos e'] at a'
        split at a'
        · cases a'; simp [fpP] at m'
        · cases a'
      · rw [if_neg e] at a; rw [if_neg e'] at a'
        exact S.sep j l p₁ q₁ p₂ q₂ n a b a' b' c m m'
/-- a freezing function is sound -/
noncomputable def FzOk (w : World) (N : Nat) (f : Mu → V → Option (D × Mu)) : Prop := ∀ μ v d μ', f μ v = some (d, μ') → ∀ Z G ex as h, StC w N Z G ex as μ h → ∀ x, VRep w Z as x v → ∃ Z', ZLe Z Z' ∧ StC w N Z' G ex as μ' h ∧ Rep w Z' x d
theorem fzL_ok {f : Mu → V → Option (D × Mu)} (ok : FzOk w N f) : ∀ (vs : List V) (μ : Mu) ds μ', fzL f μ vs = some (ds, μ') → ∀ Z G ex as h, StC w N Z G ex as μ h → ∀ xs, AlR (VRep w Z as) xs vs → ∃ Z', ZLe Z Z' ∧ StC w N Z' G ex as μ' h ∧ AlR (Rep w Z') xs ds
  | [], μ, ds, μ', e, Z, G, ex, as, h, S, xs, R => by
    simp [fzL] at e; obtain ⟨rfl, rfl⟩ := e
    rw [AlR.cases_nil R]; exact ⟨Z, .refl _, S, .nil⟩
  | v :: vs, μ, ds, μ', e, Z, G, ex, as, h, S, xs, R => by
    simp only [fzL, Option.bind_eq_bind, Option.bind_eq_some_iff, Prod.exists] at e
    obtain ⟨d, μ₁, e₁, ds₁, μ₂, e₂, e₃⟩ := e
    cases e₃
    obtain ⟨x, t, rfl, r, R⟩ := R.cases_cons
    obtain ⟨Z₁, l₁, S₁, r₁⟩ := ok _ _ _ _ e₁ _ _ _ _ _ S x r
    obtain ⟨Z₂, l₂, S₂, R₂⟩ := fzL_ok ok vs _ _ _ e₂ _ _ _ _ _ S₁ t (R.mono fun _ _ y => y.mono l₁ (List.prefix_refl _))
    exact ⟨Z₂, l₁.trans l₂, S₂, .cons (r₁.mono l₂) R₂⟩
theorem InsD.two {es : List DictEntry} {l : List (At × Value)} (h : InsD es l) : es.length = l.length := by
  induction es generalizing l with
  | nil => cases l with | nil => rfl | cons _ _ => exact h.elim
  | cons e es ih => cases l with | nil => exact h.elim | cons p l => simp [ih h.2.2]
noncomputable def up (Z : ZM) (a : Addr) (f : FO) : ZM := fun b => if b = a then some f else Z b
theorem up_at {Z : ZM} {a : Addr} {f : FO} : up Z a f a = some f := if_pos rfl
theorem up_le {Z : ZM} {a : Addr} {f : FO} (h : Z a = none) : ZLe Z (up Z a f) := fun b g e => by
  unfold up
  rw [if_neg (fun y => by rw [y, h] at e; exact noneE e)]; exact e
theorem up_of {Z : ZM} {a b : Addr} {f g : FO} (e : up Z a f b = some g) : Z b = some g ∨ (b = a ∧ g = f) := by
  unfold up at e
  by_cases y : b = a
  · rw [if_pos y] at e; exact .inr ⟨y, (Option.some.inj e).symm⟩
  · rw [if_neg y] at e; exact .inl e
theorem isB_v {v : V} (h : isB v = true) : ∃ b, v = .c (.bool b) := by
  rcases v with d | _
  · cases d <;> first | exact falseE h | exact ⟨_, rfl⟩
  · exact falseE h
theorem optB {α β : Type} {o : Option α} {g : α → Option β} {b : β} {G : Prop} (h : o.bind g = some b) (k : ∀ a, o = some a → g a = some b → G) : G := by
  rcases o with _ | a
  · exact noneE h
  · exact k a rfl h
theorem optI {α : Type} {c : Prop} [Decidable c] {x y : α} {G : Prop} (h : (if c then some x else none) = some y) (k : c → x = y → G) : G := by
  by_cases q : c
  · rw [if_pos q] at h; exact k q (Option.some.inj h)
  · rw [if_neg q] at h; exact noneE h
theorem andB {a b : Bool} {G : Prop} (h : (a && b) = true) (k : a = true → b = true → G) : G := by
  cases a
  · exact falseE h
  · exact k rfl h
theorem five_v {l : List (At × V)} {k t a : V} (h : five l = some (k, t, a)) : ∃ b c, l = [(.kind, k), (.items, t), (.attrs, a), (.shared, .c (.bool b)), (.loose, .c (.bool c))] := by
  match l, h with
  | [(a1, v1), (a2, v2), (a3, v3), (a4, v4), (a5, v5)], h =>
    refine optI h fun hc e => andB hc fun h1 h2 => andB h2 fun h3 h4 => ?_
    obtain ⟨b, e4⟩ := isB_v h3
    obtain ⟨c, e5⟩ := isB_v h4
    obtain ⟨q1, q2, q3, q4, q5⟩ := of_decide_eq_true h1
    simp only at q1 q2 q3 q4 q5 e4 e5
    subst q1 q2 q3 q4 q5 e4 e5
    cases e
    exact ⟨b, c, rfl⟩
theorem thr_v {l : List D} {k t a : D} (h : thr l = some (k, t, a)) : l = [k, t, a] := by
  match l, h with
  | [x, y, z], h => cases h; rfl
theorem al1 {w : World} {Z : ZM} {as : AS} {lv : List (At × Value)} {a : At} {v : V} {l : List (At × V)} {G : Prop} (e : AlR (fun (kv : At × Value) (e : At × V) => kv.1 = e.1 ∧ VRep w Z as kv.2 e.2) lv ((a, v) :: l)) (k : ∀ x r, lv = (a, x) :: r → VRep w Z as x v → AlR (fun (kv : At × Value) (e : At × V) => kv.1 = e.1 ∧ VRep w Z as kv.2 e.2) r l → G) : G := by
  obtain ⟨⟨b, x⟩, r, h, ⟨h1, h2⟩, f⟩ := e.cases_cons
  cases (show b = a from h1)
  exact k x r h h2 f
theorem fzP_dct {f : Mu → V → Option (D × Mu)} (ih : FzOk w N f) {i : Nat} {es : List (T × V)} {d : D} {μ' : Mu} (e : fzP f μ i (.dct es) = some (d, μ')) (S : StC w N Z G ex as μ h) {q : Addr × Addr} (hp : μ[i]? = some (.dct es)) (hq : as[i]? = some q) : ∃ Z', ZLe Z Z' ∧ StC w N Z' G ex as μ' h ∧ Rep w Z' (.ref q.1) d := by
  refine optB e fun ⟨ds, μ₁⟩ e₁ e => optB e fun p hp' e => optI e fun hc e => ?_
  cases e
  rcases p with ⟨_, _⟩ | es' | ⟨_, _⟩ | _
  · exact falseE hc
  ·
    obtain ⟨ns, o, kvs, e1, e2, e3⟩ := S.priv i _ q hp hq
    obtain ⟨Z₁, l₁, S₁, R₁⟩ := fzL_ok ih _ _ _ _ e₁ _ _ _ _ _ S (kvs.map (·.2)) ⟨by rw [List.length_map, List.length_map, e3.1], fun j a b ha hb => by
      rw [List.getElem?_map] at ha hb
      obtain ⟨kv, hkv, rfl⟩ := Option.map_eq_some_iff.mp ha
      obtain ⟨u, hu, rfl⟩ := Option.map_eq_some_iff.mp hb
      exact (e3.2 j _ _ hkv hu).2⟩
    have own := (S₁.own i _ q hp' hq q.1 (.head _)).1
    have len : kvs.length = ((es.map (·.1)).zip ds).length := by
      have := R₁.1
      rw [List.length_map] at this
      rw [List.length_zip, List.length_map, ← this, e3.1, Nat.min_self]
    have rr : Rep w (up Z₁ q.1 (.ex o)) (.ref q.1) (.dict ((es.map (·.1)).zip ds)) := by
      refine .dict (o := o) (kvs := kvs) ns up_at e2 len (fun j kv d hk hd => ?_) fun j kv d hk hd => ?_
      · obtain ⟨h1, h2⟩ := List.getElem?_zip_eq_some.mp hd
        rw [List.getElem?_map] at h1
        obtain ⟨u, hu, h3⟩ := Option.map_eq_some_iff.mp h1
        exact h3 ▸ (e3.2 j _ _ hk hu).1
      · obtain ⟨h1, h2⟩ := List.getElem?_zip_eq_some.mp hd
        exact (R₁.2 j _ _ (by rw [List.getElem?_map, hk]; rfl) h2).mono (up_le own)
    refine ⟨_, l₁.trans (up_le own), S₁.frzP hp' hq (up_le own) (fun a f e => (up_of e).imp_right fun y => ?_) rr, rr⟩
    obtain ⟨rfl, rfl⟩ := y
    exact ⟨.head _, e1⟩
  · exact falseE hc
  · exact falseE hc
theorem repB {x : Value} {b : Bool} (r : Rep w Z x (.bool b)) : x = .bool b := by cases r; rfl
theorem fzP_ins0 {f : Mu → V → Option (D × Mu)} (ih : FzOk w N f) {i : Nat} {k it a : V} {b1 b2 : Bool} {dk di dt : D} {μ₁ : Mu} {c' : Addr} {l' : List (At × V)} (S : StC w N Z G ex as μ h) {q : Addr × Addr}
    (hp : μ[i]? = some (.ins vecA [(.kind, k), (.items, it), (.attrs, a), (.shared, .c (.bool b1)), (.loose, .c (.bool b2))])) (hq : as[i]? = some q) (e₁ : fzL f μ [k, it, a] = some ([dk, di, dt], μ₁)) (hp' : μ₁[i]? = some (.ins c' l')) :
    ∃ Z', ZLe Z Z' ∧ StC w N Z' G ex as (μ₁.set i (.frz (.vec dk di dt))) h ∧ Rep w Z' (.ref q.1) (.vec dk di dt) := by
  obtain ⟨nq, e1, od, lv, e2, e3, e4⟩ := S.priv i _ q hp hq
  refine al1 e4 fun xk _ g1 rk f => al1 f fun xi _ g2 ri f => al1 f fun xa _ g3 ra f => al1 f fun xs _ g4 rs f => al1 f fun xl _ g5 rl f => ?_
  have g : lv = [(.kind, xk), (.items, xi), (.attrs, xa), (.shared, .bool b1), (.loose, .bool b2)] := by rw [g1, g2, g3, g4, g5, f.cases_nil, repB rs, repB rl]
  clear g1 g2 g3 g4 g5 rs rl f e4
  obtain ⟨Z₁, l₁, S₁, R₁⟩ := fzL_ok ih _ _ _ _ e₁ _ _ _ _ _ S [xk, xi, xa] (.cons rk (.cons ri (.cons ra .nil)))
  have own1 := (S₁.own i _ q hp' hq q.1 (.head _)).1
  have own2 := (S₁.own i _ q hp' hq q.2 (.tail _ (.head _))).1
  have l₂ : ZLe Z₁ (up Z₁ q.2 (.vd xk xi xa)) := up_le own2
  have l₃ : ZLe (up Z₁ q.2 (.vd xk xi xa)) (up (up Z₁ q.2 (.vd xk xi xa)) q.1 (.ex (instObj vecA q.2))) := up_le ((if_neg nq).trans own1)
  have le := l₂.trans l₃
  have rr : Rep w (up (up Z₁ q.2 (.vd xk xi xa)) q.1 (.ex (instObj vecA q.2))) (.ref q.1) (.vec dk di dt) := .vec nq up_at (l₃ _ _ up_at) (R₁.inv_cons.1.mono le) (R₁.inv_cons.2.inv_cons.1.mono le) (R₁.inv_cons.2.inv_cons.2.inv_cons.1.mono le)
  exact ⟨_, l₁.trans le, S₁.frzP hp' hq le (fun a f e => (up_of e).elim (fun e => (up_of e).imp_right fun y => by
    rw [y.1, y.2]
    exact ⟨.tail _ (.head _), od, e2, b1, b2, g ▸ e3⟩) fun y => .inr (by rw [y.1, y.2]; exact ⟨.head _, e1⟩)) rr, rr⟩
theorem fzP_ins {f : Mu → V → Option (D × Mu)} (ih : FzOk w N f) {i : Nat} {l : List (At × V)} {d : D} {μ' : Mu} (e : fzP f μ i (.ins vecA l) = some (d, μ')) (S : StC w N Z G ex as μ h) {q : Addr × Addr} (hp : μ[i]? = some (.ins vecA l)) (hq : as[i]? = some q) : ∃ Z', ZLe Z Z' ∧ StC w N Z' G ex as μ' h ∧ Rep w Z' (.ref q.1) d := by
  refine optB (o := five l) e fun t h5 e => optB e fun r e₁ e => optB e fun u ht e => optB e fun p hp' e => optI e fun hc e' => ?_
  obtain ⟨b1, b2, hl⟩ := five_v (k := t.1) (t := t.2.1) (a := t.2.2) h5
  rcases p with ⟨_, _⟩ | _ | ⟨c', l'⟩ | _
  · exact falseE hc
  · exact falseE hc
  ·
    have := fzP_ins0 ih (dk := u.1) (di := u.2.1) (dt := u.2.2) (μ₁ := r.2) S (hl ▸ hp) hq (e₁.trans (congrArg some (Prod.ext (thr_v ht) rfl))) hp'
    rw [← (Prod.mk.inj e').1, ← (Prod.mk.inj e').2]
    exact this
  · exact falseE hc
theorem fz_ok : ∀ n, FzOk w N (fz n)
  | n, μ, .c d', d, μ', e, Z, G, ex, as, h, S, x, r => by
    have e : some (d', μ) = some (d, μ') := by cases n <;> exact e
    cases e
    exact ⟨Z, .refl _, S, r⟩
  | 0, μ, .r i, d, μ', e, Z, G, ex, as, h, S, x, r => noneE e
  | n + 1, μ, .r i, d, μ', e, Z, G, ex, as, h, S, x, r => by
    obtain ⟨q, hq, rfl⟩ := r
    refine optB e fun p hp e => ?_
    rcases p with ⟨b, ds⟩ | es | ⟨c, l⟩ | d'
    ·
      refine optI e fun hb e => ?_
      cases e
      subst hb
      obtain ⟨o, vs, k, e1, e2, e3, e4, e5⟩ := S.priv i _ q hp hq
      have le : ZLe Z (up Z q.1 (.ex o)) := up_le (S.own i _ q hp hq q.1 (.head _)).1
      have lo : ListO o vs := ⟨k, by obtain ⟨oc, od, oda, os⟩ := o; obtain ⟨x, y⟩ := e3 rfl; dsimp only at e2 x y e4; subst e2 x y e4; rfl⟩
      have rr : Rep w (up Z q.1 (.ex o)) (.ref q.1) (.list ds) := .list (o := o) (vs := vs) up_at lo e5.1 fun i v d x y => (e5.2 i v d x y).mono le
      refine ⟨_, le, S.frzP hp hq le (fun a f e => (up_of e).imp_right fun y => ?_) rr, rr⟩
      obtain ⟨rfl, rfl⟩ := y
      exact ⟨.head _, e1⟩
    · exact fzP_dct (fz_ok n) e S hp hq
    ·
      by_cases hc : c = vecA
      · subst hc; exact fzP_ins (fz_ok n) e S hp hq
      · exact noneE ((if_neg hc).symm.trans e)
    · cases e; exact ⟨Z, .refl _, S, S.priv i _ q hp hq⟩
theorem frz_ok {μ μ' : Mu} {v : V} {d : D} (e : frz μ v = .ok (d, μ')) (S : StC w N Z G ex as μ h) {x : Value} (r : VRep w Z as x v) : ∃ Z', ZLe Z Z' ∧ StC w N Z' G ex as μ' h ∧ Rep w Z' x d := by
  unfold frz Res.of at e
  split at e
  · rename_i y; cases e; exact fz_ok 5 _ _ _ _ y _ _ _ _ _ S x r
  · cases e
theorem frzs_ok {μ μ' : Mu} {vs : List V} {ds : List D} (e : frzs μ vs = .ok (ds, μ')) (S : StC w N Z G ex as μ h) {xs : List Value} (r : AlR (VRep w Z as) xs vs) : ∃ Z', ZLe Z Z' ∧ StC w N Z' G ex as μ' h ∧ AlR (Rep w Z') xs ds := by
  unfold frzs Res.of at e
  split at e
  · rename_i y; cases e; exact fzL_ok (fz_ok 5) _ _ _ _ y _ _ _ _ _ S xs r
  · cases e
/-! ## what is seen -/
theorem see_ok (S : StC w N Z G ex as μ h) {x : Value} {v : V} (r : VRep w Z as x v) {p : P} (e : see μ v = some p) : (∃ d, p = .frz d ∧ Rep w Z x d) ∨ ∃ i q, v = .r i ∧ μ[i]? = some p ∧ as[i]? = some q ∧ x = .ref q.1 ∧ PRep w Z as h p q := by
  rcases v with d | i
  · cases e; exact .inl ⟨d, rfl, r⟩
  · obtain ⟨q, hq, rfl⟩ := r; exact .inr ⟨i, q, rfl, e, hq, rfl, S.priv i p q e hq⟩
theorem see_ok' (S : StC w N Z G ex as μ h) {x : Value} {v : V} (r : VRep w Z as x v) {d : D} (e : see μ v = some (.frz d)) : Rep w Z x d := by
  rcases see_ok S r e with ⟨d', e', y⟩ | ⟨i, q, rfl, hp, hq, rfl, y⟩
  · cases e'; exact y
  · exact y
theorem lstP_v {p : P} {l : List D} (e : lstP p = some l) : p = .lst true l ∨ p = .frz (.list l) := by
  rcases p with ⟨b, m⟩ | _ | ⟨_, _⟩ | d
  · exact optI e fun hb e' => by subst hb e'; exact .inl rfl
  · exact noneE e
  · exact noneE e
  · cases d <;> first | exact noneE e | (cases Option.some.inj e; exact .inr rfl)
theorem seqP_v {p : P} {l : List D} (e : seqP p = some l) : (∃ b, p = .lst b l) ∨ p = .frz (.list l) ∨ p = .frz (.tup l) := by
  rcases p with ⟨b, m⟩ | _ | ⟨_, _⟩ | d
  · cases Option.some.inj e; exact .inl ⟨b, rfl⟩
  · exact noneE e
  · exact noneE e
  · cases d <;> first | exact noneE e | (cases Option.some.inj e; exact .inr (.inl rfl)) | (cases Option.some.inj e; exact .inr (.inr rfl))
theorem dicP_v {p : P} {l : List (T × V)} (e : dicP p = some l) : p = .dct l ∨ ∃ m, p = .frz (.dict m) ∧ l = m.map fun p => (p.1, .c p.2) := by
  rcases p with ⟨_, _⟩ | m | ⟨_, _⟩ | d
  · exact noneE e
  · cases Option.some.inj e; exact .inl rfl
  · exact noneE e
  · cases d <;> first | exact noneE e | exact .inr ⟨_, rfl, (Option.some.inj e).symm⟩
theorem asList_ok (S : StC w N Z G ex as μ h) {x : Value} {v : V} (r : VRep w Z as x v) {ds : List D} (e : asList μ v = some ds) :
    ∃ a vs n, x = .ref a ∧ h.get? a = some { cls := .type "list", dict := none, data := .seq (List.toArray vs) n, slots := #[] } ∧ AlR (Rep w Z) vs ds := by
  refine optB e fun p hs e => ?_
  rcases lstP_v e with rfl | rfl
  · rcases see_ok S r hs with ⟨d', e', y⟩ | ⟨i, q, rfl, hp, hq, rfl, y⟩
    · cases e'
    · obtain ⟨⟨oc, od, oda, os⟩, vs, n, a, b, c, d, e⟩ := y
      obtain ⟨c1, c2⟩ := c rfl
      dsimp only at b c1 c2 d
      subst b c1 c2 d
      exact ⟨_, vs, n, rfl, a, e⟩
  · cases see_ok' S r hs with
    | list z o l y => obtain ⟨n, rfl⟩ := o; exact ⟨_, _, n, rfl, S.z _ _ z, l, y⟩
theorem asArr_ok (S : StC w N Z G ex as μ h) {x : Value} {v : V} (r : VRep w Z as x v) {ds : List D} (e : asArr μ v = some ds) :
    ∃ a vs, x = .ref a ∧ h.IsList a (List.toArray vs) ∧ AlR (Rep w Z) vs ds := by
  unfold asArr at e
  generalize hl : asList μ v = o at e
  rcases o with _ | l
  ·
    rcases v with d | _
    ·
      cases d <;> first | exact noneE e | skip
      cases Option.some.inj e
      cases (show Rep w Z x (.arr ds) from r) with
      | arr z c o l y => exact ⟨_, _, rfl, ⟨_, S.z _ _ z, c, o⟩, l, y⟩
    · exact noneE e
  ·
    cases Option.some.inj e
    obtain ⟨a, vs, n, rfl, g, r⟩ := asList_ok S r hl
    exact ⟨a, vs, rfl, ⟨_, g, rfl, _, rfl⟩, r⟩
theorem asSeq_ok (S : StC w N Z G ex as μ h) {x : Value} {v : V} (r : VRep w Z as x v) {ds : List D} (e : asSeq μ v = some ds) :
    ∃ a o vs n, x = .ref a ∧ h.get? a = some o ∧ (o.cls = .type "list" ∨ o.cls = .type "tuple") ∧ o.data = .seq (List.toArray vs) n ∧ AlR (Rep w Z) vs ds := by
  refine optB e fun p hs e => ?_
  rcases seqP_v e with ⟨b, rfl⟩ | rfl | rfl
  · rcases see_ok S r hs with ⟨d', e', y⟩ | ⟨i, q, rfl, hp, hq, rfl, y⟩
    · cases e'
    · obtain ⟨o, vs, n, a, b, c, d, e⟩ := y
      exact ⟨_, o, vs, n, rfl, a, .inl b, d, e⟩
  · cases see_ok' S r hs with
    | list z o l y => obtain ⟨n, rfl⟩ := o; exact ⟨_, _, _, n, rfl, S.z _ _ z, .inl rfl, rfl, l, y⟩
  · cases see_ok' S r hs with
    | tup z o l y => obtain ⟨o1, o2, n, o3⟩ := o; exact ⟨_, _, _, n, rfl, S.z _ _ z, .inr o1, o3, l, y⟩
theorem asDict_ok (S : StC w N Z G ex as μ h) {x : Value} {v : V} (r : VRep w Z as x v) {es : List (T × V)} (e : asDict μ v = some es) :
    ∃ a o kvs, x = .ref a ∧ a ≠ sysModules ∧ h.get? a = some o ∧ o.IsDictOf (strKind pT w) kvs ∧ AlR (fun (kv : Str × Value) e => kv.1 = sT e.1 ∧ VRep w Z as kv.2 e.2) kvs es := by
  refine optB e fun p hs e => ?_
  rcases dicP_v e with rfl | ⟨m, rfl, rfl⟩
  · rcases see_ok S r hs with ⟨d', e', y⟩ | ⟨i, q, rfl, hp, hq, rfl, y⟩
    · cases e'
    · obtain ⟨ns, o, vs, a, b, e⟩ := y
      exact ⟨_, o, vs, rfl, ns, a, b, e⟩
  · cases see_ok' S r hs with
    | dict ns z o l y1 y2 => exact ⟨_, _, _, rfl, ns, S.z _ _ z, o, ⟨l.trans (List.length_map _).symm, fun i a b ha hb => by
        rw [List.getElem?_map] at hb
        obtain ⟨u, hu, rfl⟩ := Option.map_eq_some_iff.mp hb
        exact ⟨y1 i _ _ ha hu, y2 i _ _ ha hu⟩⟩⟩

end
/-- where a scope's variables lie -/
structure Lay where
  fr : Addr
  cs : List Addr
  pl : Nat → Option (Str ⊕ Addr)
structure Loc (w : World) (Z : ZM) (as : AS) (L : Lay) (ρ : Ev) (h : Heap) : Prop where
  ns : ∃ m, h.Ns L.fr m ∧ ∀ (i : Nat) n v, L.pl i = some (.inl n) → ρ[i]? = some (some v) → ∃ x, m n = some x ∧ VRep w Z as x v
  cel : ∀ (i : Nat) c v, L.pl i = some (.inr c) → ρ[i]? = some (some v) → ∃ x, h.IsCell c (some x) ∧ VRep w Z as x v
  own : ∀ c ∈ L.cs, ∃ x, h.IsCell c x
structure LayOk (G : GM) (L : Lay) (env : Env) (vis : Vis) (sc : Scope) : Prop where
  kind : env.scope.kind = .function
  gl : env.globals = mainGlobals
  bl : env.builtins = builtinsNs
  fr : env.locals = L.fr
  loc : ∀ x i, nmOf vis sc x = some (.loc i) → (env.kindOf x = some .local ∧ L.pl i = some (.inl x)) ∨ ((env.kindOf x = some .cell ∨ env.kindOf x = some .free) ∧ ∃ c, env.cells.lookup x = some c ∧ L.pl i = some (.inr c))
  glo : ∀ x nm, nmOf vis sc x = some nm → (∀ i, nm ≠ .loc i) → env.kindOf x = some .globalImplicit
  cel : ∀ i c, L.pl i = some (.inr c) → c ∈ L.cs ∨ ∃ o, G c = some o
  inj : ∀ i j p, L.pl i = some p → L.pl j = some p → i = j
  nd : (L.fr :: L.cs).Nodup
  nloc : ∀ x i, nmOf vis sc x = some (.loc i) → isLocal sc x = false → env.kindOf x ≠ some .local
  sto : ∀ x i, nmOf vis sc x = some (.loc i) → isFree sc x = false → env.kindOf x ≠ some .free ∧ ∀ c, L.pl i = some (.inr c) → c ∈ L.cs
  vl : ∀ i p, L.pl i = some p → i < vis.length
structure AOk (n : Nat) (A : Around) : Prop where
  handled : A.handled = none
  guards : A.guards = some []
  depth : A.depth + 2 * n + 40 < recursionLimit
  units : A.units + 12 * n + 200 < cLine
structure Cx where
  w : World
  mg : Str → Option Value
  mb : Str → Option Value
  h₀ : Heap
  os : OsState
  G : GM
  A : Around
  Fs : List Env
  env : Env
  L : Lay
  vis : Vis
  sc : Scope
structure Cx.Ok (C : Cx) (n : Nat) : Prop where
  gnd : Gnd C.w C.mg C.mb C.h₀
  base : ∀ b o, C.h₀.get? b = some o → C.G b = some o
  ao : AOk n C.A
  lay : LayOk C.G C.L C.env C.vis C.sc
  frs : C.A.frames = some C.Fs
  abv : C.h₀.objs.size ≤ C.L.fr
  fok : ∀ e ∈ C.Fs, e.scope.kind ≠ .module ∧ ∃ L, e.frame = some L ∧ C.h₀.get? L = none ∧ (L = C.L.fr ∨ ∃ o, C.G L = some o ∧ (∀ vs, o.data ≠ .fields vs) ∧ o.slots = MARK ∧ C.h₀.objs.size ≤ L)
theorem AOk.le {n m : Nat} {A : Around} (h : AOk n A) (k : m ≤ n) : AOk m A := ⟨h.handled, h.guards, by have := h.depth; lia, by have := h.units; lia⟩
theorem Cx.Ok.le {C : Cx} {n m : Nat} (h : C.Ok n) (k : m ≤ n) : C.Ok m := ⟨h.gnd, h.base, h.ao.le k, h.lay, h.frs, h.abv, h.fok⟩
structure St (C : Cx) (Z : ZM) (as : AS) (ρ : Ev) (μ : Mu) (s : Shared) : Prop where
  c : StC C.w C.h₀.objs.size Z C.G (C.L.fr :: C.L.cs) as μ s.heap
  l : Loc C.w Z as C.L ρ s.heap
  os : s.os = C.os
  gens : s.gens = #[]
theorem Gnd.keeps {w : World} {mg mb : Str → Option Value} {h h' : Heap} (g : Gnd w mg mb h) (k : ∀ b o, h.get? b = some o → h'.get? b = some o) : Gnd w mg mb h' :=
  ⟨g.g.keeps k, g.b.keeps k, g.nolimit.keeps k, let ⟨mc, a, b⟩ := g.nodigits; ⟨mc, a.keeps k, b⟩, g.builtins, g.sys.keeps k⟩
section
variable {C : Cx} {n : Nat} {Z : ZM} {as : AS} {ρ : Ev} {μ : Mu} {s : Shared}
theorem St.base (S : St C Z as ρ μ s) (K : C.Ok n) : ∀ b o, C.h₀.get? b = some o → s.heap.get? b = some o := fun b o e => (S.c.g b o (K.base b o e)).low (Heap.lt_size e)
theorem St.gnd (S : St C Z as ρ μ s) (K : C.Ok n) : Gnd C.w C.mg C.mb s.heap := K.gnd.keeps (S.base K)
/-- the same but for the slots -/
noncomputable def UpS (x y : Option Obj) : Prop := ∀ o, x = some o → ∃ sl, y = some { o with slots := sl }
theorem UpS.of {x y : Option Obj} (k : ∀ o, x = some o → y = some o) : UpS x y := fun o e => ⟨o.slots, k o e⟩
theorem Loc.monoS {w : World} {Z Z' : ZM} {as as' : AS} {L : Lay} {ρ : Ev} {h h' : Heap} (l : Loc w Z as L ρ h) (z : ZLe Z Z') (p : as <+: as') (k : ∀ b, (b = L.fr ∨ b ∈ L.cs ∨ ∃ i, L.pl i = some (.inr b)) → UpS (h.get? b) (h'.get? b)) : Loc w Z' as' L ρ h' where
  ns := by
    obtain ⟨m, ⟨o, es, ep, e, hd, r⟩, y⟩ := l.ns
    obtain ⟨sl, e'⟩ := k _ (.inl rfl) o e
    exact ⟨m, ⟨_, es, ep, e', hd, r⟩, fun i n v a b => let ⟨x, e, v⟩ := y i n v a b; ⟨x, e, v.mono z p⟩⟩
  cel i c v a b := by
    obtain ⟨x, ⟨o, e, d⟩, r⟩ := l.cel i c v a b
    obtain ⟨sl, e'⟩ := k _ (.inr (.inr ⟨i, a⟩)) o e
    exact ⟨x, ⟨_, e', d⟩, r.mono z p⟩
  own c m := by
    obtain ⟨x, o, e, d⟩ := l.own c m
    obtain ⟨sl, e'⟩ := k _ (.inr (.inl m)) o e
    exact ⟨x, _, e', d⟩
theorem Loc.mono {w : World} {Z Z' : ZM} {as as' : AS} {L : Lay} {ρ : Ev} {h h' : Heap} (l : Loc w Z as L ρ h) (z : ZLe Z Z') (p : as <+: as') (k : ∀ b o, (b = L.fr ∨ b ∈ L.cs ∨ ∃ i, L.pl i = some (.inr b)) → h.get? b = some o → h'.get? b = some o) : Loc w Z' as' L ρ h' := l.monoS z p fun b m => .of fun o e => k b o m e
/-- the state stays when the heap only grows -/
theorem St.ext (S : St C Z as ρ μ s) {h' : Heap} {tk : Nat} {dr : Drawn} (k : ∀ b o, s.heap.get? b = some o → h'.get? b = some o) : St C Z as ρ μ { s with heap := h', toks := tk, drawn := dr } :=
  ⟨S.c.ext k, S.l.mono (.refl _) (List.prefix_refl _) fun b o _ e => k b o e, S.os, S.gens⟩
theorem St.tok (S : St C Z as ρ μ s) {tk : Nat} : St C Z as ρ μ { s with toks := tk } := S.ext (h' := s.heap) (dr := s.drawn) fun _ _ e => e
theorem St.frAlive (S : St C Z as ρ μ s) : ∃ o, s.heap.get? C.L.fr = some o := (S.c.exA _ (.head _)).1
/-- places that a changed address is not -/
theorem St.notCell (S : St C Z as ρ μ s) (K : C.Ok n) {x : Addr} (h1 : x ∉ C.L.fr :: C.L.cs) (h2 : C.G x = none) : ∀ b, (b = C.L.fr ∨ b ∈ C.L.cs ∨ ∃ i, C.L.pl i = some (.inr b)) → b ≠ x := by
  rintro b (rfl | m | ⟨i, e⟩) rfl
  · exact h1 (.head _)
  · exact h1 (.tail _ m)
  · rcases K.lay.cel i b e with m | ⟨o, g⟩
    · exact h1 (.tail _ m)
    · rw [h2] at g; cases g
/-- one own object changes -/
theorem St.setP (S : St C Z as ρ μ s) (K : C.Ok n) {h' : Heap} {tk : Nat} {dr : Drawn} {i : Nat} {p p' : P} {q : Addr × Addr} {x : Addr} (hp : μ[i]? = some p) (hq : as[i]? = some q) (hx : x ∈ fpP p q) (hf : ∀ a ∈ fpP p' q, a ∈ fpP p q)
    (k : ∀ b o, b ≠ x → s.heap.get? b = some o → h'.get? b = some o) (r : PRep C.w Z as h' p' q) : St C Z as ρ (μ.set i p') { s with heap := h', toks := tk, drawn := dr } :=
  have ow := S.c.own i p q hp hq x hx
  ⟨S.c.setP hp hq hx hf k r, S.l.mono (.refl _) (List.prefix_refl _) fun b o m e => k b o (S.notCell K ow.2.2 ow.2.1 b m) e, S.os, S.gens⟩
/-- a new own object -/
theorem St.pushP (S : St C Z as ρ μ s) {h' : Heap} {tk : Nat} {dr : Drawn} {p : P} {q : Addr × Addr} (k : ∀ b o, s.heap.get? b = some o → h'.get? b = some o) (fr : ∀ a ∈ fpP p q, s.heap.get? a = none) (r : PRep C.w Z (as ++ [q]) h' p q) : St C Z (as ++ [q]) ρ (μ ++ [p]) { s with heap := h', toks := tk, drawn := dr } :=
  ⟨S.c.pushP k fr r, S.l.mono (.refl _) (List.prefix_append _ _) fun b o _ e => k b o e, S.os, S.gens⟩
/-- own objects go over to the fixed ones -/
theorem St.frz (S : St C Z as ρ μ s) {v : V} {d : D} {μ' : Mu} (e : frz μ v = .ok (d, μ')) {x : Value} (r : VRep C.w Z as x v) : ∃ Z', ZLe Z Z' ∧ St C Z' as ρ μ' s ∧ Rep C.w Z' x d := by
  obtain ⟨Z', l, c, y⟩ := frz_ok e S.c r
  exact ⟨Z', l, ⟨c, S.l.mono l (List.prefix_refl _) fun _ _ _ e => e, S.os, S.gens⟩, y⟩
theorem St.frzs (S : St C Z as ρ μ s) {vs : List V} {ds : List D} {μ' : Mu} (e : frzs μ vs = .ok (ds, μ')) {xs : List Value} (r : AlR (VRep C.w Z as) xs vs) : ∃ Z', ZLe Z Z' ∧ St C Z' as ρ μ' s ∧ AlR (Rep C.w Z') xs ds := by
  obtain ⟨Z', l, c, y⟩ := frzs_ok e S.c r
  exact ⟨Z', l, ⟨c, S.l.mono l (List.prefix_refl _) fun _ _ _ e => e, S.os, S.gens⟩, y⟩
end
/-- what may be said behind an expression -/
noncomputable def Post (C : Cx) (Z : ZM) (as : AS) (ρ : Ev) (μ' : Mu) (v : V) (Q : Value → Shared → Prop) : Prop :=
  ∀ Z' as' s' x, ZLe Z Z' → as <+: as' → St C Z' as' ρ μ' s' → VRep C.w Z' as' x v → Q x s'
theorem Post.up {C : Cx} {Z Z' : ZM} {as as' : AS} {ρ : Ev} {μ' : Mu} {v : V} {Q : Value → Shared → Prop} (h : Post C Z as ρ μ' v Q) (l : ZLe Z Z') (p : as <+: as') : Post C Z' as' ρ μ' v Q :=
  fun Z₂ as₂ s₂ x l' p' => h Z₂ as₂ s₂ x (l.trans l') (p.trans p')
/-- the evaluator's words about expressions hold of the model -/
noncomputable def SoundX (F : Fn) (n : Nat) : Prop := ∀ (k : Nat) (e : Expr) (C : Cx) (ρ : Ev) (μ : Mu) (v : V) (μ' : Mu), F.x ρ μ (compE k C.vis C.sc e) = .ok (v, μ') → C.Ok n →
  ∀ Z as s Q E, St C Z as ρ μ s → Post C Z as ρ μ' v Q → wpAny (model pT C.w) C.A (eval e C.env) Q E s
noncomputable def SoundB (F : Fn) (n : Nat) : Prop := ∀ (k : Nat) (e : Expr) (C : Cx) (ρ : Ev) (μ : Mu) (b : Bool) (μ' : Mu), evB F ρ μ (compE k C.vis C.sc e) = .ok (b, μ') → C.Ok n →
  ∀ Z as s (Q : Bool → Shared → Prop) E, St C Z as ρ μ s → (∀ Z' as' s', ZLe Z Z' → as <+: as' → St C Z' as' ρ μ' s' → Q b s') → wpAny (model pT C.w) C.A (isTrue e C.env (eval e C.env)) Q E s
theorem Res.bind_ok {α β : Type} {r : Res α} {f : α → Res β} {b : β} (h : r.bind f = .ok b) : ∃ a, r = .ok a ∧ f a = .ok b := by
  rcases r with a | m | _
  · exact ⟨a, rfl, h⟩
  · cases h
  · cases h
/-! inversions in the form of a rule: the goal is named once -/
theorem hold {P : Prop} (h : ∀ G : Prop, (P → G) → G) : P := h P id
theorem Res.bind2 {α β γ : Type} {r : Res (α × β)} {f : α × β → Res γ} {y : γ} {G : Prop} (h : r.bind f = .ok y) (k : ∀ a b, r = .ok (a, b) → f (a, b) = .ok y → G) : G := by
  obtain ⟨⟨a, b⟩, h1, h2⟩ := Res.bind_ok h
  exact k a b h1 h2
theorem Res.bind1 {α γ : Type} {r : Res α} {f : α → Res γ} {y : γ} {G : Prop} (h : r.bind f = .ok y) (k : ∀ a, r = .ok a → f a = .ok y → G) : G := by
  obtain ⟨a, h1, h2⟩ := Res.bind_ok h
  exact k a h1 h2
theorem iteR {α : Type} {c : Prop} [Decidable c] {x : Res α} {y : α} {G : Prop} (h : (if c then x else .no) = .ok y) (k : c → x = .ok y → G) : G := by
  by_cases q : c
  · rw [if_pos q] at h; exact k q h
  · rw [if_neg q] at h; cases h
theorem optR {α β : Type} {o : Option α} {f : α → Res β} {y : β} {G : Prop} (h : orNo o f = .ok y) (k : ∀ a, o = some a → f a = .ok y → G) : G := by
  rcases o with _ | a
  · cases h
  · exact k a rfl h
theorem toI_v {v : V} {i : Int} (h : toI v = some i) : v = .c (.int i) := by
  rcases v with d | _
  · cases d <;> cases h; rfl
  · cases h
theorem toD_v {v : V} {d : D} (h : toD v = some d) : v = .c d := by
  rcases v with d | _
  · cases h; rfl
  · cases h
theorem toT_v {v : V} {t : T} (h : toT v = some t) : v = .c (.str t) := by
  rcases v with d | _
  · cases d <;> cases h; rfl
  · cases h
theorem isVecD_v {d : D} (h : isVecD d = true) : ∃ k t u, d = .vec k t u := by
  cases d <;> first | exact falseE h | exact ⟨_, _, _, rfl⟩
theorem getV_v {ρ : Ev} {i : Nat} {v : V} (h : getV ρ i = some v) : ρ[i]? = some (some v) := by
  unfold getV at h
  generalize ρ[i]? = o at h
  rcases o with _ | o
  · exact noneE h
  · exact congrArg some h
theorem ite1 {α : Type} {c : Prop} [Decidable c] {x y : α} {G : Prop} (h : (if c then some x else none) = some y) (k : c → x = y → G) : G := by
  by_cases q : c
  · rw [if_pos q] at h; exact k q (Option.some.inj h)
  · rw [if_neg q] at h; exact noneE h
theorem nul_v {v : V} (h : nul v = true) : v = .c .none := by
  rcases v with d | _
  · cases d <;> cases h; rfl
  · cases h
theorem matR_v {μ : Mu} {v : V} {i : Nat} (h : matR μ v = some i) : v = .r i ∧ ∃ l, μ[i]? = some (.ins 478 l) := by
  rcases v with d | j
  · cases h
  ·
    change (match μ[j]? with | some (.ins c _) => if c = 478 then some j else none | _ => none) = some i at h
    generalize hp : μ[j]? = o at h
    rcases o with _ | p
    · cases h
    ·
      rcases p with ⟨_, _⟩ | _ | ⟨c, l⟩ | _
      · cases h
      · cases h
      ·
        by_cases q : c = 478
        · subst q; cases h; exact ⟨rfl, l, hp⟩
        · rw [show (match some (Mine.P.ins c l) with | some (.ins c _) => if c = 478 then some j else none | _ => none) = none from if_neg q] at h; cases h
      · cases h
theorem someE {α : Type} {o : Option α} {G : Prop} (h : o.isSome = true) (k : ∀ a, o = some a → G) : G := by
  rcases o with _ | a
  · cases h
  · exact k a rfl
theorem Option.map1 {α β : Type} {o : Option α} {g : α → β} {b : β} {G : Prop} (h : o.map g = some b) (k : ∀ a, o = some a → g a = b → G) : G := by
  obtain ⟨a, h1, h2⟩ := Option.map_eq_some_iff.mp h
  exact k a h1 h2
theorem Option.bind1 {α β : Type} {o : Option α} {g : α → Option β} {b : β} {G : Prop} (h : o.bind g = some b) (k : ∀ a, o = some a → g a = some b → G) : G := by
  obtain ⟨a, h1, h2⟩ := Option.bind_eq_some_iff.mp h
  exact k a h1 h2
theorem and2 {a b : Bool} {G : Prop} (h : (a && b) = true) (k : a = true → b = true → G) : G := by
  cases a
  · cases h
  · exact k rfl h
theorem Post.ok {C : Cx} {Z : ZM} {as : AS} {ρ : Ev} {μ' μ₁ : Mu} {v w : V} {Q : Value → Shared → Prop} (P : Post C Z as ρ μ' v Q) (h : Res.ok (w, μ₁) = .ok (v, μ')) : Post C Z as ρ μ₁ w Q := by
  cases h; exact P
/-! ## names -/
theorem sEqL_iff {a b : Str} : sEqL a b = true ↔ a = b := by
  unfold sEqL
  rw [beq_iff_eq]
  constructor
  · intro h
    obtain ⟨⟨a⟩⟩ := a
    obtain ⟨⟨b⟩⟩ := b
    exact congrArg (fun l => (⟨⟨l⟩⟩ : Str)) h
  · rintro rfl; rfl
theorem gLook_mem {x : Str} {v : Option Value} (h : gLook x = some v) : (x, v) ∈ gTab := by
  unfold gLook at h
  obtain ⟨p, hp, rfl⟩ := Option.map_eq_some_iff.mp h
  have := List.find?_some hp
  rw [← sEqL_iff.mp this]
  exact List.mem_of_find?_eq_some hp
theorem isLocal_v {sc : Scope} {x : Str} (h : isLocal sc x = true) : kOf sc x = some .local := by
  unfold isLocal at h
  generalize kOf sc x = o at *
  rcases o with _ | k
  · exact falseE h
  · cases k <;> first | rfl | exact falseE h
theorem gName_inv {x : Str} {nm : Nm} (h : gName x = some nm) : (∃ a, gLook x = some (some (.ref a)) ∧ nm = bif isCl a then .cl a else .fn a) ∨ (∃ i t, gLook x = some (some (.int i t)) ∧ nm = .k (.int i)) ∨ ∃ b, gLook x = some none ∧ Bi.of x.cps.toList = some b ∧ nm = .bi b := by
  refine Option.bind1 h fun o ho h => ?_
  rcases o with _ | v
  · exact Option.map1 h fun b hb h => .inr (.inr ⟨b, ho, hb, h.symm⟩)
  · cases v with
    | ref a => exact .inl ⟨a, ho, (Option.some.inj h).symm⟩
    | int i t => exact .inr (.inl ⟨i, t, ho, (Option.some.inj h).symm⟩)
    | _ => exact noneE h
theorem gName_noloc {x : Str} {i : Nat} (h : gName x = some (.loc i)) : False := by
  rcases gName_inv h with ⟨a, -, e⟩ | ⟨_, _, -, e⟩ | ⟨b, -, -, e⟩
  · cases hb : isCl a <;> rw [hb] at e <;> exact nomatch e
  · exact nomatch e
  · exact nomatch e
theorem nmOf_inv {vis : Vis} {sc : Scope} {x : Str} {nm : Nm} (h : nmOf vis sc x = some nm) : oddName x = false ∧ ((∃ k i, kOf sc x = some k ∧ (k = .local ∨ k = .cell ∨ k = .free) ∧ vis.lookup x.cps.toList = some i ∧ nm = .loc i) ∨ (kOf sc x = some .globalImplicit ∧ gName x = some nm)) := by
  by_cases q : oddName x = true
  · exact noneE ((if_pos q).symm.trans h)
  · refine ⟨Bool.eq_false_iff.mpr q, Option.bind1 ((if_neg q).symm.trans h) fun k hk h => ?_⟩
    have l : (k = .local ∨ k = .cell ∨ k = .free) → Option.map Nm.loc (vis.lookup x.cps.toList) = some nm → (∃ k i, kOf sc x = some k ∧ (k = .local ∨ k = .cell ∨ k = .free) ∧ vis.lookup x.cps.toList = some i ∧ nm = .loc i) ∨ (kOf sc x = some .globalImplicit ∧ gName x = some nm) := fun hk' h => Option.map1 h fun i hi e => .inl ⟨k, i, hk, hk', hi, e.symm⟩
    cases k with
    | «local» => exact l (.inl rfl) h
    | cell => exact l (.inr (.inl rfl)) h
    | free => exact l (.inr (.inr rfl)) h
    | globalImplicit => exact .inr ⟨hk, h⟩
    | _ => exact noneE h
theorem nmOf_odd {vis : Vis} {sc : Scope} {x : Str} {nm : Nm} (h : nmOf vis sc x = some nm) : (x == ("__debug__" : Str)) = false ∧ (x == ("__classdict__" : Str)) = false := by
  have h := (nmOf_inv h).1
  unfold oddName at h
  exact Bool.or_eq_false_iff.mp (Bool.or_eq_false_iff.mp h).1
theorem nmOf_glo {vis : Vis} {sc : Scope} {x : Str} {nm : Nm} (h : nmOf vis sc x = some nm) (hn : ∀ i, nm ≠ .loc i) : gName x = some nm := by
  rcases (nmOf_inv h).2 with ⟨_, i, -, -, -, e⟩ | ⟨-, e⟩
  · exact absurd e (hn i)
  · exact e
noncomputable def Bi.val : Bi → Value
  | .len => .builtin "len" | .range => .type "range" | .tlist => .type "list" | .str => .type "str" | .abs => .builtin "abs" | .int => .type "int" | .isinstance => .builtin "isinstance" | .sorted => .builtin "sorted"
theorem bi_boot (b : Bi) : bootBuiltins (sT b.name) = some b.val := by cases b <;> kernel_rfl
theorem bi_notname (b : Bi) : sT b.name ≠ "__name__" := by cases b <;> decide +kernel
/-- what a name means -/
noncomputable def NmVal (x : Value) : Nm → Prop
  | .fn a => x = .ref a
  | .cl a => x = .ref a
  | .bi b => x = b.val
  | .k (.int i) => ∃ t, x = .int i t
  | _ => False
theorem Bi.of_name {n : T} {b : Bi} (h : Bi.of n = some b) : n = b.name := by
  have := List.find?_some h
  exact (of_decide_eq_true this).symm
theorem name_glo {C : Cx} {A : Around} {n : Nat} {Z : ZM} {as : AS} {ρ : Ev} {μ : Mu} {s : Shared} (S : St C Z as ρ μ s) (K : C.Ok n) {x : Str} {nm : Nm} (hn : nmOf C.vis C.sc x = some nm) (hl : ∀ i, nm ≠ .loc i) {pos : Pos} {Q : Value → Shared → Prop} {E : Value → Shared → Prop}
    (h : ∀ v, NmVal v nm → Q v s) : wpAny (model pT C.w) A (eval (.Name x pos) C.env) Q E s := by
  have G := S.gnd K
  have hg := nmOf_glo hn hl
  have gN : s.heap.Ns C.env.globals C.mg := by rw [K.lay.gl]; exact G.g
  have bN : s.heap.Ns C.env.builtins C.mb := by rw [K.lay.bl]; exact G.b
  refine Name_function_global K.lay.kind (K.lay.glo x nm hn hl) ?_ (nmOf_odd hn).1
  rcases gName_inv hg with ⟨a, hl', rfl⟩ | ⟨i, t, hl', rfl⟩ | ⟨b, hl', hb, rfl⟩
  · refine loadGlobal_global gN (G.sys.glob G.g (gLook_mem hl')) (h _ ?_)
    cases isCl a <;> rfl
  · exact loadGlobal_global gN (G.sys.glob G.g (gLook_mem hl')) (h _ ⟨t, rfl⟩)
  · have e := G.sys.glob G.g (gLook_mem hl')
    have hx : x = sT b.name := by rw [← Bi.of_name hb]
    subst hx
    exact loadGlobal_builtin gN e bN ((G.builtins _ (bi_notname b)).trans (bi_boot b)) (h _ rfl)
theorem name_loc {C : Cx} {n : Nat} {Z : ZM} {as : AS} {ρ : Ev} {μ : Mu} {s : Shared} (S : St C Z as ρ μ s) (K : C.Ok n) {x : Str} {i : Nat} (hn : nmOf C.vis C.sc x = some (.loc i)) {v : V} (hv : ρ[i]? = some (some v)) {Q : Value → Shared → Prop} {E : Value → Shared → Prop}
    (h : ∀ y, VRep C.w Z as y v → Q y s) : wpAny (model pT C.w) C.A (loadName C.env x) Q E s := by
  rcases K.lay.loc x i hn with ⟨hk, hp⟩ | ⟨hk, c, hc, hp⟩
  · obtain ⟨m, hm, y⟩ := S.l.ns
    obtain ⟨z, e, r⟩ := y i x v hp hv
    exact wpAny_loadName_local K.lay.kind hk (by rw [K.lay.fr]; exact hm) e (h z r)
  · obtain ⟨z, e, r⟩ := S.l.cel i c v hp hv
    rcases hk with hk | hk
    · exact wpAny_loadName_cell K.lay.kind hk hc e (h z r)
    · exact wpAny_loadName_free K.lay.kind hk hc e (h z r) (nmOf_odd hn).2
theorem set_get {ρ : Ev} {i j : Nat} {v w : V} (h : (ρ.set i (some v))[j]? = some (some w)) : (i = j ∧ w = v) ∨ (i ≠ j ∧ ρ[j]? = some (some w)) := by
  rw [List.getElem?_set] at h
  by_cases e : i = j
  · rw [if_pos e] at h
    exact ite1 h fun _ h => .inl ⟨e, (Option.some.inj h).symm⟩
  · rw [if_neg e] at h; exact .inr ⟨e, h⟩
theorem name_store {C : Cx} {n : Nat} {Z : ZM} {as : AS} {ρ : Ev} {μ : Mu} {s : Shared} (S : St C Z as ρ μ s) (K : C.Ok n) {x : Str} {i : Nat} (hn : nmOf C.vis C.sc x = some (.loc i)) (hf : C.env.kindOf x ≠ some .free) {v : V} {y : Value} (hv : VRep C.w Z as y v) {Q : Unit → Shared → Prop} {E : Value → Shared → Prop}
    (own : ∀ c, C.L.pl i = some (.inr c) → c ∈ C.L.cs)
    (h : ∀ s', St C Z as (ρ.set i (some v)) μ s' → Q () s') : wpAny (model pT C.w) C.A (storeName C.env x y) Q E s := by
  have nd := K.lay.nd
  rcases K.lay.loc x i hn with ⟨hk, hp⟩ | ⟨hk, c, hc, hp⟩
  · obtain ⟨m, hm, yy⟩ := S.l.ns
    have hm' : s.heap.Ns C.env.locals m := by rw [K.lay.fr]; exact hm
    refine wpAny_storeName_local hk hm' (fun h' hn' hs => h _ ?_) (by rw [K.lay.kind]; rfl)
    rw [K.lay.fr] at hn' hs
    have al : ∃ o, h'.get? C.L.fr = some o := let ⟨o, _, _, e, _⟩ := hn'; ⟨o, e⟩
    have kk : ∀ b o, b ≠ C.L.fr → s.heap.get? b = some o → h'.get? b = some o := fun b o ne e => (hs.2 b ne).trans e
    refine ⟨S.c.setEx (.head _) kk al, ⟨⟨_, hn', fun j n' v' a b => ?_⟩, fun j c' v' a b => ?_, fun c' m' => ?_⟩, S.os, S.gens⟩
    · rcases set_get b with ⟨rfl, rfl⟩ | ⟨ne, b⟩
      · rw [hp] at a; cases a
        exact ⟨y, by simp, hv⟩
      · obtain ⟨z, e, r⟩ := yy j n' v' a b
        have : n' ≠ x := fun q => ne (K.lay.inj i j _ hp (q ▸ a))
        exact ⟨z, by simp [this, e], r⟩
    · rcases set_get b with ⟨rfl, rfl⟩ | ⟨ne, b⟩
      · rw [hp] at a; cases a
      · obtain ⟨z, ⟨o, e, d⟩, r⟩ := S.l.cel j c' v' a b
        have : c' ≠ C.L.fr := by
          rintro rfl
          rcases K.lay.cel j _ a with m' | ⟨o', g⟩
          · exact (List.nodup_cons.mp nd).1 m'
          · have := (S.c.exA _ (.head _)).2.2; rw [this] at g; cases g
        exact ⟨z, ⟨o, kk _ _ this e, d⟩, r⟩
    · obtain ⟨z, o, e, d⟩ := S.l.own c' m'
      exact ⟨z, o, kk _ _ (fun q => (List.nodup_cons.mp nd).1 (q ▸ m')) e, d⟩
  · rcases hk with hk | hk
    · have hm := own c hp
      obtain ⟨z₀, hz⟩ := S.l.own c hm
      refine wpAny_storeName_cell K.lay.kind hk hc hz fun h' hv' hs => h _ ?_
      have al : ∃ o, h'.get? c = some o := let ⟨o, e, _⟩ := hv'; ⟨o, e⟩
      have kk : ∀ b o, b ≠ c → s.heap.get? b = some o → h'.get? b = some o := fun b o ne e => (hs.2 b ne).trans e
      refine ⟨S.c.setEx (.tail _ hm) kk al, ⟨?_, fun j c' v' a b => ?_, fun c' m' => ?_⟩, S.os, S.gens⟩
      · obtain ⟨m, ⟨o, es, ep, e, r⟩, yy⟩ := S.l.ns
        refine ⟨m, ⟨o, es, ep, kk _ _ (fun q => (List.nodup_cons.mp nd).1 (q ▸ hm)) e, r⟩, fun j n' v' a b => ?_⟩
        rcases set_get b with ⟨rfl, rfl⟩ | ⟨ne, b⟩
        · rw [hp] at a; cases a
        · exact yy j n' v' a b
      · rcases set_get b with ⟨rfl, rfl⟩ | ⟨ne, b⟩
        · rw [hp] at a; cases a; exact ⟨y, hv', hv⟩
        · obtain ⟨z, ⟨o, e, d⟩, r⟩ := S.l.cel j c' v' a b
          have : c' ≠ c := fun q => ne (K.lay.inj i j _ hp (q ▸ a))
          exact ⟨z, ⟨o, kk _ _ this e, d⟩, r⟩
      · by_cases q : c' = c
        · subst q; exact ⟨_, hv'⟩
        · obtain ⟨z, o, e, d⟩ := S.l.own c' m'
          exact ⟨z, o, kk _ _ q e, d⟩
    · exact absurd hk hf
/-- every object but the frame's, as the kit's ledger -/
noncomputable def ledger (h₀ h : Heap) (L : Addr) : List (Addr × Obj) := (List.range h.objs.size).filterMap fun a => match h.get? a, h₀.get? a with
  | some o, none => if a = L then none else some (a, o)
  | _, _ => none
theorem mem_ledger {h₀ h : Heap} {L a : Addr} {o : Obj} : (a, o) ∈ ledger h₀ h L ↔ h.get? a = some o ∧ a ≠ L ∧ h₀.get? a = none := by
  unfold ledger
  rw [List.mem_filterMap]
  constructor
  · rintro ⟨b, hb, e⟩
    split at e
    · rename_i o' h1 h2
      split at e
      · cases e
      · rename_i ne; cases e; exact ⟨h1, ne, h2⟩
    · cases e
  · rintro ⟨h1, ne, h2⟩
    refine ⟨a, List.mem_range.mpr (Heap.lt_size h1), ?_⟩
    rw [h1, h2]
    simp [ne]
section
variable {C : Cx} {n : Nat} {Z : ZM} {as : AS} {ρ : Ev} {μ : Mu} {s : Shared}
theorem ledger_news (h₀ h : Heap) (L : Addr) : News h₀ L h (ledger h₀ h L) := fun p hp => mem_ledger.mp hp
/-- the kit's frame and ledger for a state -/
theorem St.fr (S : St C Z as ρ μ s) (K : C.Ok n) : ∃ m, Fr C.h₀ C.L.fr s.heap m ∧ News C.h₀ C.L.fr s.heap (ledger C.h₀ s.heap C.L.fr) ∧
    ∀ h' tk pre, Fr C.h₀ C.L.fr h' m → News C.h₀ C.L.fr h' (pre ++ ledger C.h₀ s.heap C.L.fr) → St C Z as ρ μ { s with heap := h', toks := tk } := by
  obtain ⟨m, hm, y⟩ := S.l.ns
  refine ⟨m, ⟨hm, S.base K, K.abv⟩, ledger_news _ _ _, fun h' tk pre F N => ?_⟩
  have kk : ∀ b o, b ≠ C.L.fr → s.heap.get? b = some o → h'.get? b = some o := fun b o ne e => by
    cases q : C.h₀.get? b with
    | some o' => have := S.base K _ _ q; rw [e] at this; cases this; exact F.keep _ _ q
    | none => exact (N (b, o) (List.mem_append_right _ (mem_ledger.mpr ⟨e, ne, q⟩))).1
  have al : ∃ o, h'.get? C.L.fr = some o := let ⟨o, _, _, e, _⟩ := F.ns; ⟨o, e⟩
  refine ⟨S.c.setEx (.head _) kk al, ⟨⟨m, F.ns, y⟩, fun j c' v' a b => ?_, fun c' m' => ?_⟩, S.os, S.gens⟩
  · obtain ⟨z, ⟨o, e, d⟩, r⟩ := S.l.cel j c' v' a b
    refine ⟨z, ⟨o, kk _ _ ?_ e, d⟩, r⟩
    rintro rfl
    rcases K.lay.cel j _ a with m' | ⟨o', g⟩
    · exact (List.nodup_cons.mp K.lay.nd).1 m'
    · have := (S.c.exA _ (.head _)).2.2; rw [this] at g; cases g
  · obtain ⟨z, o, e, d⟩ := S.l.own c' m'
    exact ⟨z, o, kk _ _ (fun q => (List.nodup_cons.mp K.lay.nd).1 (q ▸ m')) e, d⟩
theorem St.fresh (S : St C Z as ρ μ s) {a : Addr} (e : s.heap.get? a = none) : Fresh Z C.G (C.L.fr :: C.L.cs) as μ a := S.c.fresh e
theorem St.pushF (S : St C Z as ρ μ s) {p : P} {q : Addr × Addr} (fr : ∀ a ∈ fpP p q, Fresh Z C.G (C.L.fr :: C.L.cs) as μ a) (r : PRep C.w Z (as ++ [q]) s.heap p q) : St C Z (as ++ [q]) ρ (μ ++ [p]) s :=
  ⟨S.c.pushF fr r, S.l.mono (.refl _) (List.prefix_append _ _) fun _ _ _ e => e, S.os, S.gens⟩
theorem no_at_size (h : Heap) : h.get? h.objs.size = none := by
  cases e : h.get? h.objs.size with
  | none => rfl
  | some o => exact absurd (Heap.lt_size e) (Nat.lt_irrefl _)
theorem vrep_new {w : World} {Z : ZM} {as : AS} {q : Addr × Addr} {μ : Mu} (e : as.length = μ.length) : VRep w Z (as ++ [q]) (.ref q.1) (.r μ.length) :=
  ⟨q, by rw [List.getElem?_append_right (by lia), e]; simp, rfl⟩
theorem prep_list {w : World} {Z : ZM} {as : AS} {h : Heap} {a : Addr} {vs : List Value} {k : Nat} {ds : List D} (e : h.get? a = some { cls := .type "list", dict := none, data := .seq (List.toArray vs) k, slots := #[] }) (r : AlR (Rep w Z) vs ds) : PRep w Z as h (.lst true ds) (a, a) :=
  ⟨_, vs, k, e, rfl, fun _ => ⟨rfl, rfl⟩, rfl, r⟩
/-- a new list at the heap's end, by the kit's ledger -/
theorem St.newL (S : St C Z as ρ μ s) (K : C.Ok n) {h' : Heap} {tk : Nat} {m : Str → Option Value} {pre : List (Addr × Obj)} {vs : List Value} {k : Nat} {ds : List D} (S' : St C Z as ρ μ { s with heap := h', toks := tk })
    (e : h'.get? s.heap.objs.size = some { cls := .type "list", dict := none, data := .seq (List.toArray vs) k, slots := #[] }) (r : AlR (Rep C.w Z) vs ds) :
    St C Z (as ++ [(s.heap.objs.size, s.heap.objs.size)]) ρ (μ ++ [.lst true ds]) { s with heap := h', toks := tk } :=
  S'.pushF (fun a m => by simp [fpP] at m; subst m; exact S.fresh (no_at_size _)) (prep_list e r)
theorem sT_app (a b : T) : (sT a ++ sT b : Str) = sT (a ++ b) := by
  show (⟨a.toArray ++ b.toArray⟩ : Str) = ⟨(a ++ b).toArray⟩
  rw [List.append_toArray]
theorem sT_len (a : T) : (sT a).length = a.length := List.size_toArray
theorem okT_le {t : T} (h : okT t = true) : t.length ≤ 1000 := of_decide_eq_true h
theorem small_le {i : Int} (h : small i = true) : -1000000000000000000000000 ≤ i ∧ i ≤ 1000000000000000000000000 := by
  unfold small at h
  refine and2 h fun a b => ?_
  exact ⟨of_decide_eq_true a, of_decide_eq_true b⟩
theorem mulOk {a b : Int} (ha : small a = true) (hb : small b = true) : IntMulOk a b := by
  have big : ∀ i : Int, small i = true → Builtin.Int.intBits i ≤ 80 := by
    intro i hi
    obtain ⟨x, y⟩ := small_le hi
    unfold Builtin.Int.intBits
    split
    · exact Nat.zero_le _
    · have hn : i.natAbs < 2 ^ 80 := by lia
      have : i.natAbs.log2 < 80 := by
        rcases Nat.eq_zero_or_pos i.natAbs with h0 | hp
        · rw [h0]; decide
        · exact (Nat.log2_lt (Nat.ne_of_gt hp)).mpr hn
      lia
  have h1 := big a ha
  have h2 := big b hb
  unfold IntMulOk
  intro h
  simp only [Bool.and_eq_true, decide_eq_true_eq] at h
  have := h.2
  unfold Builtin.Int.intTooBig at this
  rw [decide_eq_true_eq] at this
  have hb : (bitsLine : Int) = 2 ^ 27 := rfl
  lia

noncomputable def Bo.op : Bo → Operator | .add => .Add | .sub => .Sub | .mul => .Mult | .fdiv => .FloorDiv | .mod => .Mod | .pow => .Pow
theorem boOf_op {op : Operator} {o : Bo} (h : boOf op = some o) : op = o.op := by cases op <;> first | (cases h; rfl) | cases h
theorem fits_le {l : List D} (h : fits l = true) : l.length ≤ 1000000 := of_decide_eq_true h
theorem vint {w : World} {Z : ZM} {as : AS} {x : Value} {i : Int} (r : VRep w Z as x (.c (.int i))) : ∃ t, x = .int i t := by cases r with | int i t => exact ⟨t, rfl⟩
theorem vstr {w : World} {Z : ZM} {as : AS} {x : Value} {i : T} (r : VRep w Z as x (.c (.str i))) : ∃ t, x = .str (sT i) t := by cases r with | str i t => exact ⟨t, rfl⟩
theorem vbool {w : World} {Z : ZM} {as : AS} {x : Value} {i : Bool} (r : VRep w Z as x (.c (.bool i))) : x = .bool i := by cases r; rfl
theorem vnone {w : World} {Z : ZM} {as : AS} {x : Value} (r : VRep w Z as x (.c .none)) : x = .none := by cases r; rfl
theorem fold_reps {α : Type} (l : List α) (n : Nat) : (List.foldl (fun (x1 x2 : Array α) => x1 ++ x2) #[] (List.replicate n l.toArray)) = ((List.replicate n l).flatten).toArray := by
  have : ∀ (n : Nat) (acc : List α), List.foldl (fun (x1 x2 : Array α) => x1 ++ x2) acc.toArray (List.replicate n l.toArray) = (acc ++ (List.replicate n l).flatten).toArray := by
    intro n
    induction n with
    | zero => intro acc; simp
    | succ n ih => intro acc; rw [List.replicate_succ, List.foldl_cons, List.append_toArray, ih, List.replicate_succ, List.flatten_cons, List.append_assoc]
  simpa using this n []
theorem rep_one {α : Type} (y : α) (j : Nat) : (List.foldl (fun x1 x2 => x1 ++ x2) #[] (List.replicate (if ([y] : List α).toArray.isEmpty = true then 0 else j) ([y] : List α).toArray)) = (List.replicate j y).toArray := by
  rw [show ([y] : List α).toArray.isEmpty = false from rfl, if_neg (by decide), fold_reps]
  congr 1
  induction j with
  | zero => rfl
  | succ j ih => rw [List.replicate_succ, List.flatten_cons, ih, List.replicate_succ]; rfl
theorem only1 {α : Type} {l : List α} {a : α} (h : only l = some a) : l = [a] := by
  rcases l with _ | ⟨b, r⟩
  · exact noneE h
  ·
    rcases r with _ | ⟨_, _⟩
    · exact congrArg (· :: []) (Option.some.inj h)
    · exact noneE h
theorem Post.now {v : V} {μ' : Mu} {Q : Value → Shared → Prop} (P : Post C Z as ρ μ' v Q) {s' : Shared} {x : Value} (S : St C Z as ρ μ' s') (r : VRep C.w Z as x v) : Q x s' := P _ _ _ _ (.refl _) (List.prefix_refl _) S r
theorem add_ok {E : Value → Shared → Prop} (S : St C Z as ρ μ s) (K : C.Ok n) {a b v : V} {μ' : Mu} (e : binop μ .add a b = .ok (v, μ')) {x y : Value} (ra : VRep C.w Z as x a) (rb : VRep C.w Z as y b) {Q : Value → Shared → Prop} (P : Post C Z as ρ μ' v Q) :
    wpAny (model pT C.w) C.A (binaryOp .Add x y) Q E s := by
  refine hold fun G out => ?_
  unfold binop at e
  dsimp only at e
  generalize ha : toI a = o at e
  rcases o with _ | i
  ·
    dsimp only at e
    generalize ha : toT a = o at e
    rcases o with _ | i
    ·
      refine optR e fun l hl e => optR e fun r hr e => iteR e fun hf e => ?_
      obtain ⟨a1, vs, k, rfl, g1, r1⟩ := asList_ok S.c ra hl
      obtain ⟨a2, ws, k2, rfl, g2, r2⟩ := asList_ok S.c rb hr
      obtain ⟨m, F, N, back⟩ := S.fr K
      have hf := fits_le hf
      rw [List.length_append] at hf
      refine out (add_arrays F N ⟨_, g1, rfl, _, rfl⟩ ⟨_, g2, rfl, _, rfl⟩ (fun h' F' N' => ?_) (by rw [List.size_toArray, List.size_toArray, r1.1, r2.1, sizeLine_eq]; lia))
      have S' := back h' s.toks [_] F' N'
      have g := (N' _ (.head _)).1
      exact (P.ok e) _ _ _ _ (.refl _) (List.prefix_append _ _) (S.newL K (m := m) (pre := []) (vs := vs ++ ws) S' g (r1.append r2)) (vrep_new S.c.len)
    ·
      refine optR e fun j hb e => iteR e fun h e => ?_
      obtain ⟨t, rfl⟩ := vstr (toT_v ha ▸ ra)
      obtain ⟨u, rfl⟩ := vstr (toT_v hb ▸ rb)
      have := okT_le h
      rw [List.length_append] at this
      exact out (add_str (fun t' tk => (P.ok e).now S.tok (by rw [sT_app]; exact .str _ _)) (by rw [sT_len, sT_len, sizeLine_eq]; lia))
  ·
    refine optR e fun j hb e => ?_
    obtain ⟨t, rfl⟩ := vint (toI_v ha ▸ ra)
    obtain ⟨u, rfl⟩ := vint (toI_v hb ▸ rb)
    exact out (add_int ((P.ok e).now S.tok (.int _ _)))
theorem mul_ok {E : Value → Shared → Prop} (S : St C Z as ρ μ s) (K : C.Ok n) {a b v : V} {μ' : Mu} (e : binop μ .mul a b = .ok (v, μ')) {x y : Value} (ra : VRep C.w Z as x a) (rb : VRep C.w Z as y b) {Q : Value → Shared → Prop} (P : Post C Z as ρ μ' v Q) :
    wpAny (model pT C.w) C.A (binaryOp .Mult x y) Q E s := by
  refine hold fun G out => ?_
  unfold binop at e
  refine optR e fun nn hb e => ?_
  obtain ⟨u, rfl⟩ := vint (toI_v hb ▸ rb)
  generalize ha : toI a = o at e
  rcases o with _ | i
  ·
    refine optR e fun l hl e => optR e fun d hd e => iteR e fun h e => and2 h fun h1 h2 => ?_
    have h1 := of_decide_eq_true h1
    have h2 := of_decide_eq_true h2
    obtain ⟨a1, vs, k, rfl, g1, r1⟩ := asList_ok S.c ra (only1 hd ▸ hl)
    obtain ⟨m, F, N, back⟩ := S.fr K
    obtain ⟨y, t, rfl, ry, rt⟩ := r1.cases_cons
    have := rt.cases_nil; subst this
    refine out (mul_list F N g1 (by lia) (by lia) (by show 1 * _ ≤ _; lia) fun h' F' N' => ?_)
    have S' := back h' s.toks [_] F' N'
    have g := (N' _ (.head _)).1
    dsimp only at g
    rw [rep_one] at g
    exact (P.ok e) _ _ _ _ (.refl _) (List.prefix_append _ _) (S.newL K (m := m) (pre := []) S' g (AlR.replicate ry _)) (vrep_new S.c.len)
  ·
    refine iteR e fun h e => and2 h fun h1 h2 => ?_
    obtain ⟨t, rfl⟩ := vint (toI_v ha ▸ ra)
    exact out (mul_int ((P.ok e).now S.tok (.int _ _)) (mulOk h1 h2))
theorem binop_ok {E : Value → Shared → Prop} (S : St C Z as ρ μ s) (K : C.Ok n) {o : Bo} {a b v : V} {μ' : Mu} (e : binop μ o a b = .ok (v, μ')) {x y : Value} (ra : VRep C.w Z as x a) (rb : VRep C.w Z as y b) {Q : Value → Shared → Prop} (P : Post C Z as ρ μ' v Q) :
    wpAny (model pT C.w) C.A (binaryOp o.op x y) Q E s := by
  cases o with
  | add => exact add_ok S K e ra rb P
  | mul => exact mul_ok S K e ra rb P
  | fdiv => exact noR e
  | sub =>
    refine optR e fun i ha e => optR e fun j hb e => ?_
    obtain ⟨t, rfl⟩ := vint (toI_v ha ▸ ra)
    obtain ⟨u, rfl⟩ := vint (toI_v hb ▸ rb)
    exact sub_int ((P.ok e).now S.tok (.int _ _))
  | mod =>
    refine optR e fun i ha e => optR e fun j hb e => iteR e fun h e => and2 h fun h1 h2 => ?_
    obtain ⟨t, rfl⟩ := vint (toI_v ha ▸ ra)
    obtain ⟨u, rfl⟩ := vint (toI_v hb ▸ rb)
    exact mod_int (Int.ne_of_gt (of_decide_eq_true h1)) ((P.ok e).now S.tok (.int _ _))
  | pow =>
    refine optR e fun i ha e => optR e fun j hb e => iteR e fun h e => and2 h fun h1 h2 => ?_
    have h1 := of_decide_eq_true h1
    have h2 := of_decide_eq_true h2
    subst h1 h2
    obtain ⟨t, rfl⟩ := vint (toI_v ha ▸ ra)
    obtain ⟨u, rfl⟩ := vint (toI_v hb ▸ rb)
    exact pow_int_small (by decide) (by decide) (by decide) ((P.ok e).now S.tok (by
      rw [show (10 : Int) ^ (18 : Int).toNat = 1000000000000000000 by decide +kernel]; exact .int _ _))
end
theorem tEq_iff : ∀ {a b : T}, tEq a b = true ↔ a = b
  | [], [] => ⟨fun _ => rfl, fun _ => rfl⟩
  | [], _ :: _ => ⟨fun h => falseE h, fun h => nomatch h⟩
  | _ :: _, [] => ⟨fun h => falseE h, fun h => nomatch h⟩
  | a :: r, b :: q => by
    show (Nat.beq a b && tEq r q) = true ↔ _
    rw [Bool.and_eq_true, tEq_iff, Nat.beq_eq]
    exact List.cons_eq_cons.symm
theorem tEq_dec (a b : T) : tEq a b = decide (a = b) := by
  by_cases h : a = b
  · rw [decide_eq_true h]; exact tEq_iff.mpr h
  · rw [decide_eq_false h]
    cases e : tEq a b with
    | false => rfl
    | true => exact absurd (tEq_iff.mp e) h
theorem sT_inj {a b : T} : sT a = sT b ↔ a = b := by
  constructor
  · intro h
    have := congrArg (fun s => s.cps.toList) h
    simpa using this
  · rintro rfl; rfl
theorem sT_beq (a b : T) : (sT a == sT b) = tEq a b := by
  rw [tEq_dec]
  by_cases h : a = b
  · subst h; simp
  · rw [decide_eq_false h]; exact beq_eq_false_iff_ne.mpr fun q => h (sT_inj.mp q)
noncomputable def eqV : Value → Value → Bool
  | .int a _, .int b _ => a == b
  | .str a _, .str b _ => a == b
  | .none, .none => true
  | _, _ => false
theorem dec_beq (a b : Int) : decide (a = b) = (a == b) := by
  by_cases q : a = b
  · subst q; rw [decide_eq_true rfl, beq_self_eq_true]
  · rw [decide_eq_false q]; exact (beq_eq_false_iff_ne.mpr q).symm
theorem eqS_at {w : World} {Z : ZM} {d e : D} {b : Bool} (h : eqS d e = some b) {x y : Value} (rx : Rep w Z x d) (ry : Rep w Z y e) (A : Around) (s : Shared) : SeqAt.EqAt A s x y b ∧ eqV x y = b := by
  rcases d with _ | _ | i | i | _ | _ | _ | ⟨_, _, _⟩ | ⟨_, _, _⟩ | _ | _
  ·
    cases vnone (as := []) rx
    rcases e with _ | _ | _ | j | _ | _ | _ | ⟨_, _, _⟩ | ⟨_, _, _⟩ | _ | _
    ·
      cases vnone (as := []) ry
      rw [← Option.some.inj h]
      exact ⟨SeqAt.EqAt.same _, rfl⟩
    · exact noneE h
    · exact noneE h
    ·
      obtain ⟨u, rfl⟩ := vstr (as := []) ry
      rw [← Option.some.inj h]
      exact ⟨SeqAt.EqAt.none_str _ _, rfl⟩
    · exact noneE h
    · exact noneE h
    · exact noneE h
    · exact noneE h
    · exact noneE h
    · exact noneE h
    · exact noneE h
  · exact noneE h
  ·
    rcases e with _ | _ | j | _ | _ | _ | _ | ⟨_, _, _⟩ | ⟨_, _, _⟩ | _ | _
    · exact noneE h
    · exact noneE h
    ·
      obtain ⟨t, rfl⟩ := vint (as := []) rx
      obtain ⟨u, rfl⟩ := vint (as := []) ry
      rw [← Option.some.inj h, dec_beq]
      exact ⟨SeqAt.EqAt.int_int _ _ _ _, rfl⟩
    · exact noneE h
    · exact noneE h
    · exact noneE h
    · exact noneE h
    · exact noneE h
    · exact noneE h
    · exact noneE h
    · exact noneE h
  ·
    rcases e with _ | _ | _ | j | _ | _ | _ | ⟨_, _, _⟩ | ⟨_, _, _⟩ | _ | _
    ·
      obtain ⟨t, rfl⟩ := vstr (as := []) rx
      cases vnone (as := []) ry
      rw [← Option.some.inj h]
      exact ⟨SeqAt.EqAt.str_none _ _, rfl⟩
    · exact noneE h
    · exact noneE h
    ·
      obtain ⟨t, rfl⟩ := vstr (as := []) rx
      obtain ⟨u, rfl⟩ := vstr (as := []) ry
      rw [← Option.some.inj h, ← sT_beq]
      exact ⟨(eqGives_str _ _ _ _).at A s, rfl⟩
    · exact noneE h
    · exact noneE h
    · exact noneE h
    · exact noneE h
    · exact noneE h
    · exact noneE h
    · exact noneE h
  · exact noneE h
  · exact noneE h
  · exact noneE h
  · exact noneE h
  · exact noneE h
  · exact noneE h
  · exact noneE h
theorem isInL_at {w : World} {Z : ZM} {d : D} {x : Value} (rx : Rep w Z x d) (A : Around) (s : Shared) : ∀ {l : List D} {b : Bool} {vs : List Value}, isInL d l = some b → AlR (Rep w Z) vs l → (∀ y ∈ vs, SeqAt.EqAt A s y x (eqV y x)) ∧ vs.any (fun y => eqV y x) = b
  | [], b, vs, h, r => by
    cases r.cases_nil; cases h
    exact ⟨fun _ m => (nomatch m), rfl⟩
  | e :: l, b, vs, h, r => by
    obtain ⟨y, t, rfl, ry, rt⟩ := r.cases_cons
    refine Option.bind1 h fun a h1 h => Option.bind1 h fun b' h2 h => ?_
    obtain ⟨p, q⟩ := eqS_at h1 ry rx A s
    obtain ⟨p', q'⟩ := isInL_at rx A s h2 rt
    refine ⟨fun z m => ?_, by rw [List.any_cons, q, q']; exact Option.some.inj h⟩
    rcases List.mem_cons.mp m with rfl | m
    · rw [q]; exact p
    · exact p' z m
theorem countL_at {w : World} {Z : ZM} {d : D} {x : Value} (rx : Rep w Z x d) (A : Around) (s : Shared) : ∀ {l : List D} {k : Nat} {vs : List Value}, countL d l = some k → AlR (Rep w Z) vs l → (∀ y ∈ vs, SeqAt.EqAt A s y x (eqV y x)) ∧ vs.countP (fun y => eqV y x) = k
  | [], b, vs, h, r => by
    cases r.cases_nil; cases h
    exact ⟨fun _ m => (nomatch m), rfl⟩
  | e :: l, b, vs, h, r => by
    obtain ⟨y, t, rfl, ry, rt⟩ := r.cases_cons
    refine Option.bind1 h fun a h1 h => Option.map1 h fun b' h2 h => ?_
    obtain ⟨p, q⟩ := eqS_at h1 ry rx A s
    obtain ⟨p', q'⟩ := countL_at rx A s h2 rt
    refine ⟨fun z m => ?_, by rw [List.countP_cons, q, q', ← h]; cases a <;> rfl⟩
    rcases List.mem_cons.mp m with rfl | m
    · rw [q]; exact p
    · exact p' z m
theorem indexL_at {w : World} {Z : ZM} {d : D} {x : Value} (rx : Rep w Z x d) (A : Around) (s : Shared) : ∀ {l : List D} {k : Nat} {vs : List Value}, indexL d l = some k → AlR (Rep w Z) vs l →
    ∃ h : k < vs.length, eqV vs[k] x = true ∧ ∀ (m : Nat) (h : m < vs.length), m < k → eqV vs[m] x = false
  | [], b, vs, h, r => noneE h
  | e :: l, k, vs, h, r => by
    obtain ⟨y, t, rfl, ry, rt⟩ := r.cases_cons
    refine Option.bind1 h fun a h1 h => ?_
    have q := (eqS_at h1 ry rx A s).2
    rcases a with _ | _
    ·
      refine Option.map1 h fun k' h2 h => ?_
      subst h
      obtain ⟨p1, p2, p3⟩ := indexL_at rx A s h2 rt
      refine ⟨Nat.succ_lt_succ p1, p2, fun m hm hk => ?_⟩
      rcases m with _ | m
      · exact q
      · exact p3 m (Nat.lt_of_succ_lt_succ hm) (Nat.lt_of_succ_lt_succ hk)
    ·
      cases Option.some.inj h
      exact ⟨Nat.zero_lt_succ _, q, fun m _ hm => absurd hm (Nat.not_lt_zero m)⟩
theorem eqL_at {w : World} {Z : ZM} (A : Around) (s : Shared) : ∀ {l r : List D} {b : Bool} {vs ws : List Value}, eqL l r = some b → AlR (Rep w Z) vs l → AlR (Rep w Z) ws r →
    (vs.length ≠ ws.length ∧ b = false) ∨ (vs.length = ws.length ∧ (∀ (j : Nat) x y, vs[j]? = some x → ws[j]? = some y → SeqAt.EqAt A s x y (eqV x y)) ∧ (List.range vs.length).all (fun j => eqV (vs.getD j .none) (ws.getD j .none)) = b)
  | [], [], b, vs, ws, h, r1, r2 => by
    cases r1.cases_nil; cases r2.cases_nil; cases h
    exact .inr ⟨rfl, fun j x y e => noneE e, rfl⟩
  | [], _ :: _, b, vs, ws, h, r1, r2 => .inl ⟨fun e => (nomatch r1.1.symm.trans (e.trans r2.1)), (Option.some.inj h).symm⟩
  | _ :: _, [], b, vs, ws, h, r1, r2 => .inl ⟨fun e => (nomatch r1.1.symm.trans (e.trans r2.1)), (Option.some.inj h).symm⟩
  | d :: l, e :: r, b, vs, ws, h, r1, r2 => by
    obtain ⟨x, vs, rfl, rx, r3⟩ := r1.cases_cons
    obtain ⟨y, ws, rfl, ry, r4⟩ := r2.cases_cons
    refine Option.bind1 h fun a h1 h => Option.bind1 h fun b' h2 h => ?_
    rw [← Option.some.inj h]
    obtain ⟨p, q⟩ := eqS_at h1 rx ry A s
    rcases eqL_at A s h2 r3 r4 with ⟨n, rfl⟩ | ⟨n, k, c⟩
    · exact .inl ⟨fun e => n (Nat.succ.inj e), Bool.and_false _⟩
    · refine .inr ⟨congrArg Nat.succ n, fun j u v hu hv => ?_, ?_⟩
      · rcases j with _ | j
        · cases hu; cases hv; rw [q]; exact p
        · exact k j u v hu hv
      · rw [List.length_cons, List.range_succ_eq_map, List.all_cons, List.all_map]
        exact (congrArg (· && _) q).trans (congrArg (a && ·) c)
theorem txts_strs {w : World} {Z : ZM} : ∀ {l : List D} {ts : List T} {vs : List Value}, txts l = some ts → AlR (Rep w Z) vs l → StrsAre vs (ts.map sT)
  | [], ts, vs, h, r => by cases r.cases_nil; cases h; exact .nil
  | d :: l, ts, vs, h, r => by
    obtain ⟨x, vs, rfl, rx, r3⟩ := r.cases_cons
    refine Option.bind1 h fun t ht h => Option.map1 h fun ts' h2 h => ?_
    subst h
    obtain ⟨u, rfl⟩ := vstr (as := []) (x := x) (show VRep w Z [] x (.c (.str t)) from toT_v ht ▸ (show VRep w Z [] x (.c d) from rx))
    exact .cons _ _ (txts_strs h2 r3)
section
variable {C : Cx} {n : Nat} {Z : ZM} {as : AS} {ρ : Ev} {μ : Mu} {s : Shared} {E : Value → Shared → Prop}
noncomputable def Co.op : Co → CmpOp | .eq => .Eq | .ne => .NotEq | .lt => .Lt | .le => .LtE | .gt => .Gt | .ge => .GtE | .is => .Is | .isnot => .IsNot | .isin => .In | .notin => .NotIn
theorem coOf_op (op : CmpOp) : (coOf op).op = op := by cases op <;> rfl
theorem blt_dec (a b : Nat) : Nat.blt a b = decide (a < b) := by
  by_cases h : a < b
  · rw [decide_eq_true h]; exact Nat.ble_eq_true_of_le h
  · rw [decide_eq_false h]
    cases q : Nat.blt a b with
    | false => rfl
    | true => exact absurd (Nat.le_of_ble_eq_true q) h
theorem tLt_iff : ∀ {a b : T}, tLt a b = decide (a < b)
  | [], [] => by simp [tLt]
  | [], _ :: _ => by simp [tLt]
  | _ :: _, [] => by simp [tLt]
  | a :: r, b :: q => by
    rw [tLt, tLt_iff, blt_dec]
    by_cases h2 : a = b
    · subst h2; simp [List.cons_lt_cons_iff]
    · have : Nat.beq a b = false := by
        cases q : Nat.beq a b with
        | false => rfl
        | true => exact absurd (Nat.eq_of_beq_eq_true q) h2
      simp [List.cons_lt_cons_iff, h2, this]
theorem nonD_ok {w : World} {Z : ZM} {x : Value} {d : D} {b : Bool} (r : Rep w Z x d) (e : nonD d = some b) : (x == Value.none) = b := by
  cases r <;> first | exact Option.some.inj e | (cases x <;> first | exact noneE e | exact Option.some.inj e)
theorem isNone_ok (S : StC C.w C.h₀.objs.size Z C.G (C.L.fr :: C.L.cs) as μ s.heap) {v : V} {b : Bool} (e : isNone μ v = some b) {x : Value} (r : VRep C.w Z as x v) : (x == Value.none) = b := by
  refine Option.bind1 e fun p h e' => ?_
  rcases p with ⟨_, _⟩ | _ | ⟨_, _⟩ | d
  ·
    rcases see_ok S r h with ⟨d, h, y⟩ | ⟨i, q, rfl, _, _, rfl, _⟩
    · cases h
    · exact Option.some.inj (show some false = some b from e')
  ·
    rcases see_ok S r h with ⟨d, h, y⟩ | ⟨i, q, rfl, _, _, rfl, _⟩
    · cases h
    · exact Option.some.inj (show some false = some b from e')
  ·
    rcases see_ok S r h with ⟨d, h, y⟩ | ⟨i, q, rfl, _, _, rfl, _⟩
    · cases h
    · exact Option.some.inj (show some false = some b from e')
  · exact nonD_ok (see_ok' S r h) e'
theorem MapAt {h : Heap} {a : Addr} {o : Obj} {w : World} {kvs : List (Str × Value)} (e : h.get? a = some o) (d : o.IsDictOf (strKind pT w) kvs) : h.DictOf (strKind pT w) a kvs := Heap.dictOf_iff.mpr ⟨o, e, d⟩
theorem dGet_ok {w : World} {Z : ZM} {as : AS} {k : T} : ∀ {kvs : List (Str × Value)} {es : List (T × V)}, AlR (fun (kv : Str × Value) e => kv.1 = sT e.1 ∧ VRep w Z as kv.2 e.2) kvs es →
    (dGet es k = none ∧ valueAt kvs (sT k) = none) ∨ ∃ v x, dGet es k = some v ∧ valueAt kvs (sT k) = some x ∧ VRep w Z as x v
  | kvs, [], r => by cases r.cases_nil; exact .inl ⟨rfl, rfl⟩
  | kvs, (n, v) :: es, r => by
    obtain ⟨⟨m, x⟩, kvs, rfl, ⟨e, rx⟩, r3⟩ := r.cases_cons
    simp only at e rx
    subst e
    unfold dGet valueAt
    rw [List.find?_cons, tEq_dec]
    by_cases q : n = k
    · subst q
      right; exact ⟨v, x, by simp, by simp, rx⟩
    · have q' : ¬ sT n = sT k := fun z => q (sT_inj.mp z)
      rw [decide_eq_false q, decide_eq_false q']
      exact dGet_ok r3
theorem ne_sys {a : Addr} (h : a ≠ sysModules) : (a == sysModules) = false := by simpa using h
theorem isop_ok (S : St C Z as ρ μ s) {a b : V} {v : Bool} (e : isop μ a b = some v) {x y : Value} (ra : VRep C.w Z as x a) (rb : VRep C.w Z as y b) : y = .none ∧ (x == Value.none) = v := by
  unfold isop at e
  by_cases h : nul b = true
  · rw [if_pos h] at e
    cases vnone (nul_v h ▸ rb)
    exact ⟨rfl, isNone_ok S.c e ra⟩
  · rw [if_neg h] at e; exact noneE e
theorem inop_ok (S : St C Z as ρ μ s) {a b : V} {v : Bool} (e : inop μ a b = some v) {x y : Value} (ra : VRep C.w Z as x a) (rb : VRep C.w Z as y b) {Q : Value → Shared → Prop} :
    ((∀ tk, Q (.bool v) { s with toks := tk }) → wpAny (model pT C.w) C.A (compareOp .In x y) Q E s) ∧ ((∀ tk, Q (.bool (!v)) { s with toks := tk }) → wpAny (model pT C.w) C.A (compareOp .NotIn x y) Q E s) := by
  unfold inop at e
  generalize hl : asSeq μ b = o at e
  rcases o with _ | l
  ·
    refine Option.bind1 e fun es hs e => Option.map1 e fun k hk e => ?_
    subst e
    obtain ⟨a', o, kvs, rfl, ns, g, hd, r⟩ := asDict_ok S.c rb hs
    obtain ⟨t, rfl⟩ := vstr (toT_v hk ▸ ra)
    have h : (valueAt kvs (sT k)).isSome = (dGet es k).isSome := by
      rcases dGet_ok (k := k) r with ⟨h1, h2⟩ | ⟨u, z, h1, h2, _⟩ <;> rw [h1, h2] <;> rfl
    exact ⟨fun P => wpAny_in_of (strKind_is _ _ _ _) (ne_sys ns) (MapAt g hd).mapOf (by rw [h]; exact P _), fun P => wpAny_notIn_of (strKind_is _ _ _ _) (ne_sys ns) (MapAt g hd).mapOf (by rw [h]; exact P _)⟩
  ·
    refine Option.bind1 e fun d hd e => ?_
    obtain ⟨a', o, vs, k, rfl, g, hc, hd', r⟩ := asSeq_ok S.c rb hl
    obtain ⟨p, q⟩ := isInL_at (d := d) (toD_v hd ▸ ra) C.A.in1 s e r
    have q' : (List.toArray vs).any (fun y => eqV y x) = v := by rw [List.any_toArray]; exact q
    have p' : ∀ y ∈ List.toArray vs, SeqAt.EqAt C.A.in1 s y x (eqV y x) := fun y m => p y (List.mem_toArray.mp m)
    rcases hc with hc | hc
    · exact ⟨fun P => SeqAt.in_listAt (fun y => eqV y x) ⟨o, g, hc, k, hd'⟩ p' (by rw [q']; exact P s.toks), fun P => SeqAt.notIn_listAt (fun y => eqV y x) ⟨o, g, hc, k, hd'⟩ p' (by rw [q']; exact P s.toks)⟩
    · exact ⟨fun P => SeqAt.in_tupleAt (fun y => eqV y x) ⟨o, g, hc, k, hd'⟩ p' (by rw [q']; exact P s.toks), fun P => SeqAt.notIn_tupleAt (fun y => eqV y x) ⟨o, g, hc, k, hd'⟩ p' (by rw [q']; exact P s.toks)⟩
theorem cmpI_ok {o : Co} {i j : Int} {v : Bool} (e : cmpI o i j = some v) {t u : Tok} {Q : Value → Shared → Prop} (P0 : Q (.bool v) s) : wpAny (model pT C.w) C.A (compareOp o.op (.int i t) (.int j u)) Q E s := by
  cases o
  case eq => cases e; exact eq_int P0
  case ne => cases e; exact ne_int P0
  case lt => cases e; exact lt_int P0
  case le => cases e; exact le_int P0
  case gt => cases e; exact gt_int P0
  case ge => cases e; exact ge_int P0
  all_goals cases e
theorem cmpT_ok {o : Co} {i j : T} {v : Bool} (e : cmpT o i j = some v) {t u : Tok} {Q : Value → Shared → Prop} (P0 : Q (.bool v) s) : wpAny (model pT C.w) C.A (compareOp o.op (.str (sT i) t) (.str (sT j) u)) Q E s := by
  cases o
  case eq => cases e; exact PyProof.Rows.eq_str (by rw [sT_beq]; exact P0)
  case ne => cases e; exact PyProof.Rows.ne_str (by rw [bne, sT_beq]; exact P0)
  case lt => cases e; exact PyProof.Rows.lt_str (by rw [tLt_iff] at P0; exact P0)
  case gt => cases e; exact PySem.P.gt_str (by rw [tLt_iff] at P0; exact P0)
  all_goals cases e
theorem cmpN_ok {o : Co} {j : T} {v : Bool} (e : cmpN o = some v) {u : Tok} {Q : Value → Shared → Prop} (P0 : Q (.bool v) s) : wpAny (model pT C.w) C.A (compareOp o.op .none (.str (sT j) u)) Q E s := by
  cases o
  case eq => cases e; exact PySem.EqNone.eq_none_str P0
  case ne => cases e; exact PySem.EqNone.ne_none_str P0
  all_goals cases e
theorem eqlist_ok {l r : List D} {v : Bool} (un : C.A.units < cLine) (e : eqL l r = some v) {a1 a2 : Addr} {vs ws : List Value} (g1 : s.heap.IsList a1 vs.toArray) (g2 : s.heap.IsList a2 ws.toArray) (r1 : AlR (Rep C.w Z) vs l) (r2 : AlR (Rep C.w Z) ws r) :
    SeqAt.RcAt C.A s (.ref a1) (.ref a2) v ∧ SeqAt.RcNeAt C.A s (.ref a1) (.ref a2) (!v) := by
  rcases eqL_at C.A.in1 s e r1 r2 with ⟨ne, rfl⟩ | ⟨ne, p, q⟩
  · exact ⟨SeqAt.RcAt.lists_lengths g1 g2 (by simpa using ne) un, SeqAt.RcNeAt.lists_lengths g1 g2 (by simpa using ne) un⟩
  · have el : ∀ j (h1 : j < (List.toArray vs).size) (h2 : j < (List.toArray ws).size), SeqAt.EqAt C.A.in1 s (List.toArray vs)[j] (List.toArray ws)[j] (eqV (vs.getD j .none) (ws.getD j .none)) := fun j h1 h2 => by
      have h1' : j < vs.length := by simpa using h1
      have h2' : j < ws.length := by simpa using h2
      have := p j vs[j] ws[j] (List.getElem?_eq_getElem h1') (List.getElem?_eq_getElem h2')
      simpa [List.getD_eq_getElem?_getD, List.getElem?_eq_getElem h1', List.getElem?_eq_getElem h2'] using this
    have r1 := SeqAt.RcAt.lists (e := fun j => eqV (vs.getD j .none) (ws.getD j .none)) g1 g2 (by simpa using ne) un el
    have r2 := SeqAt.RcNeAt.lists (e := fun j => eqV (vs.getD j .none) (ws.getD j .none)) g1 g2 (by simpa using ne) un el
    rw [List.size_toArray, q] at r1 r2
    exact ⟨r1, r2⟩
theorem cmpV_ok (S : St C Z as ρ μ s) (K : C.Ok n) {o : Co} {a b : V} {v : Bool} (e : cmpV μ o a b = some v) {x y : Value} (ra : VRep C.w Z as x a) (rb : VRep C.w Z as y b) {Q : Value → Shared → Prop}
    (P0 : Q (.bool v) s) : wpAny (model pT C.w) C.A (compareOp o.op x y) Q E s := by
  refine hold fun G out => ?_
  unfold cmpV at e
  generalize ha : toI a = c at e
  rcases c with _ | i
  ·
    dsimp only at e
    generalize ha : toT a = c at e
    rcases c with _ | i
    ·
      dsimp only at e
      by_cases hn : nul a = true
      · rw [if_pos hn] at e
        refine Option.bind1 e fun j hb e => ?_
        cases vnone (nul_v hn ▸ ra)
        obtain ⟨u, rfl⟩ := vstr (toT_v hb ▸ rb)
        exact out (cmpN_ok e P0)
      · rw [if_neg hn] at e
        refine Option.bind1 e fun l hl e => Option.bind1 e fun r hr e => ?_
        obtain ⟨a1, vs, k1, rfl, g1, r1⟩ := asList_ok S.c ra hl
        obtain ⟨a2, ws, k2, rfl, g2, r2⟩ := asList_ok S.c rb hr
        have un : C.A.units < cLine := Nat.lt_of_le_of_lt (Nat.le_trans (Nat.le_add_right _ _) (Nat.le_add_right _ _)) K.ao.units
        cases o
        case eq => exact out ((eqlist_ok un e ⟨_, g1, rfl, _, rfl⟩ ⟨_, g2, rfl, _, rfl⟩ r1 r2).1 _ _ _ _ P0)
        case ne =>
          refine Option.map1 e fun b' hb e => ?_
          subst e
          exact out ((eqlist_ok un hb ⟨_, g1, rfl, _, rfl⟩ ⟨_, g2, rfl, _, rfl⟩ r1 r2).2 _ _ _ _ P0)
        all_goals exact noneE e
    ·
      refine Option.bind1 e fun j hb e => ?_
      obtain ⟨t, rfl⟩ := vstr (toT_v ha ▸ ra)
      obtain ⟨u, rfl⟩ := vstr (toT_v hb ▸ rb)
      exact out (cmpT_ok e P0)
  ·
    refine Option.bind1 e fun j hb e => ?_
    obtain ⟨t, rfl⟩ := vint (toI_v ha ▸ ra)
    obtain ⟨u, rfl⟩ := vint (toI_v hb ▸ rb)
    exact out (cmpI_ok e P0)
theorem cmpop_ok (S : St C Z as ρ μ s) (K : C.Ok n) {o : Co} {a b : V} {v : Bool} (e : cmpop μ o a b = some v) {x y : Value} (ra : VRep C.w Z as x a) (rb : VRep C.w Z as y b) {Q : Value → Shared → Prop}
    (P : ∀ tk, Q (.bool v) { s with toks := tk }) : wpAny (model pT C.w) C.A (compareOp o.op x y) Q E s := by
  have P0 : Q (.bool v) s := P s.toks
  cases o
  case is => obtain ⟨rfl, h⟩ := isop_ok S e ra rb; exact is_none (by rw [h]; exact P0)
  case isnot =>
    obtain ⟨b', hb, rfl⟩ := Option.map_eq_some_iff.mp e
    obtain ⟨rfl, h⟩ := isop_ok S hb ra rb
    exact isNot_none (by rw [h]; exact P0)
  case isin => exact (inop_ok S e ra rb).1 P
  case notin =>
    obtain ⟨b', hb, rfl⟩ := Option.map_eq_some_iff.mp e
    exact (inop_ok S hb ra rb).2 P
  all_goals exact cmpV_ok S K e ra rb P0
end
noncomputable def BadX (F : Fn) : Prop := ∀ ρ μ r, F.x ρ μ .bad ≠ .ok r
/-- behind a state change without a value -/
noncomputable def PostU (C : Cx) (Z : ZM) (as : AS) (ρ : Ev) (μ' : Mu) (P : Shared → Prop) : Prop := ∀ Z' as' s', ZLe Z Z' → as <+: as' → St C Z' as' ρ μ' s' → P s'
noncomputable def PostL (C : Cx) (Z : ZM) (as : AS) (ρ : Ev) (μ' : Mu) (vs : List V) (Q : List Value → Shared → Prop) : Prop :=
  ∀ Z' as' s' xs, ZLe Z Z' → as <+: as' → St C Z' as' ρ μ' s' → AlR (VRep C.w Z' as') xs vs → Q xs s'
section
variable {F : Fn} {n : Nat} {C : Cx} {Z : ZM} {as : AS} {ρ : Ev} {μ : Mu} {s : Shared} {E : Value → Shared → Prop}
theorem starEach_cons {k : Nat} {e : Expr} {rest : List Expr} {env : Env} (h : ∀ a b, e ≠ .Starred a b) : starEach (e :: rest) env = (false, eval e env) :: starEach rest env := by
  cases e <;> first | rfl | exact absurd rfl (h _ _)
theorem compE_starred {k : Nat} {vis : Vis} {sc : Scope} {a : Expr} {p : Pos} : compE k vis sc (.Starred a p) = .bad := by cases k <;> rfl
theorem evL_ok (SX : SoundX F n) (bad : BadX F) {k : Nat} (K : C.Ok n) {pos : Pos} : ∀ (es : List Expr) (μ : Mu) (vs : List V) (μ' : Mu), evL F ρ μ (es.map (compE k C.vis C.sc)) = .ok (vs, μ') →
    ∀ Z as s (Q : List Value → Shared → Prop) E, St C Z as ρ μ s → PostL C Z as ρ μ' vs Q → wpAny (model pT C.w) C.A (spliced (backTo pos (starEach es C.env))) Q E s
  | [], μ, vs, μ', e, Z, as, s, Q, E, S, P => by
    simp only [List.map_nil, evL] at e; cases e
    exact spliced_nil (P _ _ _ _ (.refl _) (List.prefix_refl _) S .nil)
  | x :: es, μ, vs, μ', e, Z, as, s, Q, E, S, P => by
    rw [List.map_cons, evL] at e
    refine Res.bind2 e fun v μ₁ e1 e2 => ?_
    refine Res.bind2 e2 fun ws μ₂ e3 e4 => ?_
    cases e4
    have hs : ∀ a b, x ≠ .Starred a b := by
      rintro a b rfl
      rw [compE_starred] at e1
      exact bad _ _ _ e1
    rw [starEach_cons (k := k) hs]
    refine spliced_cons (SX k x C ρ μ v μ₁ e1 K Z as s _ E S fun Z₁ as₁ s₁ y l₁ p₁ S₁ r₁ => ?_)
    refine evL_ok SX bad K es μ₁ ws μ' e3 Z₁ as₁ s₁ _ E S₁ fun Z₂ as₂ s₂ ys l₂ p₂ S₂ r₂ => ?_
    exact P _ _ _ _ (l₁.trans l₂) (p₁.trans p₂) S₂ (.cons (r₁.mono l₂ p₂) r₂)
theorem asBool_eq {v : V} {b : Bool} (h : asBool v = some b) : v = .c (.bool b) := by
  rcases v with d | _
  · cases d with
    | bool c => exact congrArg (fun b => V.c (.bool b)) (Option.some.inj h)
    | _ => exact noneE h
  · exact noneE h
theorem evB_inv {μ μ' : Mu} {x : X} {b : Bool} (h : evB F ρ μ x = .ok (b, μ')) : F.x ρ μ x = .ok (.c (.bool b), μ') := by
  unfold evB at h
  refine Res.bind2 h fun v μ₁ e1 e2 => ?_
  refine optR e2 fun b' hb e2 => ?_
  cases e2
  rw [e1, asBool_eq hb]
/-- and | or as a value -/
theorem boolOp_ok (SX : SoundX F n) {k : Nat} (K : C.Ok n) {pos : Pos} (op : BoolOp) (stop : Bool) (hop : (op = .And ∧ stop = false) ∨ (op = .Or ∧ stop = true)) : ∀ (es : List Expr) (μ : Mu) (b : Bool) (μ' : Mu), evAO F stop ρ μ (es.map (compE k C.vis C.sc)) = .ok (b, μ') →
    ∀ Z as s (Q : Value → Shared → Prop) E, St C Z as ρ μ s → Post C Z as ρ μ' (.c (.bool b)) Q → wpAny (model pT C.w) C.A (boolOp pos op (evalEach es C.env)) Q E s
  | [], μ, b, μ', e, Z, as, s, Q, E, S, P => by cases e
  | [x], μ, b, μ', e, Z, as, s, Q, E, S, P => by
    simp only [List.map_cons, List.map_nil, evAO] at e
    exact SX k x C ρ μ _ μ' (evB_inv e) K Z as s Q E S P
  | x :: y :: es, μ, b, μ', e, Z, as, s, Q, E, S, P => by
    rw [List.map_cons, List.map_cons, evAO] at e
    · refine Res.bind2 e fun c μ₁ e1 e2 => ?_
      show wpAny _ _ (eval x C.env >>= fun v => standAt pos >>= fun _ => holding [v] (truthy v) >>= fun t => _) Q E s
      refine wpAny_bind (SX k x C ρ μ _ μ₁ (evB_inv e1) K Z as s _ E S fun Z₁ as₁ s₁ v l₁ p₁ S₁ r₁ => ?_)
      cases vbool r₁
      refine wpAny_bind (wpAny_standAt (wpAny_bind (wpAny_holding (wpAny_truthy_bool ?_))))
      dsimp only at e2
      have more : evAO F stop ρ μ₁ ((y :: es).map (compE k C.vis C.sc)) = .ok (b, μ') → wpAny (model pT C.w) C.A (boolOp pos op (evalEach (y :: es) C.env)) Q E s₁ := fun e =>
        boolOp_ok SX K op stop hop (y :: es) μ₁ b μ' e Z₁ as₁ s₁ Q E S₁ (P.up l₁ p₁)
      rcases hop with ⟨rfl, rfl⟩ | ⟨rfl, rfl⟩ <;> cases c <;> simp only [beq_self_eq_true, if_true, Bool.false_eq_true, if_false, BEq.beq, decide_true, decide_false, reduceCtorEq] at e2
      · cases e2; exact wpAny_pure (P _ _ _ _ l₁ p₁ S₁ (.bool _))
      · exact more e2
      · exact more e2
      · cases e2; exact wpAny_pure (P _ _ _ _ l₁ p₁ S₁ (.bool _))
    · intro h; cases h
theorem allTrue_ok (SB : SoundB F n) {k : Nat} (K : C.Ok n) (op : BoolOp) (stop : Bool) (hop : (op = .And ∧ stop = false) ∨ (op = .Or ∧ stop = true)) : ∀ (es : List Expr) (μ : Mu) (b : Bool) (μ' : Mu), evAO F stop ρ μ (es.map (compE k C.vis C.sc)) = .ok (b, μ') →
    ∀ Z as s (Q : Bool → Shared → Prop) E, St C Z as ρ μ s → PostU C Z as ρ μ' (Q b) → wpAny (model pT C.w) C.A (allTrue op es C.env) Q E s
  | [], μ, b, μ', e, Z, as, s, Q, E, S, P => by cases e
  | [x], μ, b, μ', e, Z, as, s, Q, E, S, P => by
    simp only [List.map_cons, List.map_nil, evAO] at e
    have := SB k x C ρ μ b μ' e K Z as s
    rcases hop with ⟨rfl, rfl⟩ | ⟨rfl, rfl⟩
    · refine wpAny_allTrue_And_cons (this _ E S fun Z' as' s' l p S' => ?_)
      cases b
      · exact P _ _ _ l p S'
      · exact wpAny_allTrue_And_nil (P _ _ _ l p S')
    · refine wpAny_allTrue_Or_cons (this _ E S fun Z' as' s' l p S' => ?_)
      cases b
      · exact wpAny_allTrue_Or_nil (P _ _ _ l p S')
      · exact P _ _ _ l p S'
  | x :: y :: es, μ, b, μ', e, Z, as, s, Q, E, S, P => by
    rw [List.map_cons, List.map_cons, evAO] at e
    · refine Res.bind2 e fun c μ₁ e1 e2 => ?_
      dsimp only at e2
      have := SB k x C ρ μ c μ₁ e1 K Z as s
      have more : ∀ {Z₁ as₁ s₁}, ZLe Z Z₁ → as <+: as₁ → St C Z₁ as₁ ρ μ₁ s₁ → evAO F stop ρ μ₁ ((y :: es).map (compE k C.vis C.sc)) = .ok (b, μ') → wpAny (model pT C.w) C.A (allTrue op (y :: es) C.env) Q E s₁ := fun l₁ p₁ S₁ e =>
        allTrue_ok SB K op stop hop (y :: es) μ₁ b μ' e _ _ _ Q E S₁ fun Z' as' s' l p S' => P _ _ _ (l₁.trans l) (p₁.trans p) S'
      rcases hop with ⟨rfl, rfl⟩ | ⟨rfl, rfl⟩
      · refine wpAny_allTrue_And_cons (this _ E S fun Z' as' s' l p S' => ?_)
        cases c <;> simp only [beq_self_eq_true, if_true, Bool.false_eq_true, if_false, BEq.beq, decide_true, decide_false, reduceCtorEq] at e2
        · cases e2; exact P _ _ _ l p S'
        · exact more l p S' e2
      · refine wpAny_allTrue_Or_cons (this _ E S fun Z' as' s' l p S' => ?_)
        cases c <;> simp only [beq_self_eq_true, if_true, Bool.false_eq_true, if_false, BEq.beq, decide_true, decide_false, reduceCtorEq] at e2
        · exact more l p S' e2
        · cases e2; exact P _ _ _ l p S'
    · intro h; cases h
end
section
variable {F : Fn} {n : Nat} {C : Cx} {Z : ZM} {as : AS} {ρ : Ev} {μ : Mu} {s : Shared} {E : Value → Shared → Prop}
theorem sizeLine_big : 1000000 ≤ sizeLine := by rw [sizeLine_eq]; lia
/-- a new list at the heap's end -/
theorem newL_ok {μ' : Mu} {v : V} {ds : List D} (e : newL μ ds = .ok (v, μ')) (S : St C Z as ρ μ s) {vs : List Value} (r : AlR (Rep C.w Z) vs ds) {h' : Heap} {tk : Nat} {k : Nat} {q : Addr}
    (kp : ∀ b o, s.heap.get? b = some o → h'.get? b = some o) (fr : s.heap.get? q = none) (g : h'.get? q = some { cls := .type "list", dict := none, data := .seq (List.toArray vs) k, slots := #[] }) {Q : Value → Shared → Prop}
    (P : Post C Z as ρ μ' v Q) : Q (.ref q) { s with heap := h', toks := tk } := by
  refine iteR e fun _ e => ?_
  exact (P.ok e) Z (as ++ [(q, q)]) _ _ (.refl _) (List.prefix_append _ _) (S.pushP (dr := s.drawn) kp (fun a m => by cases m with | head => exact fr | tail _ m => cases m) (prep_list g r)) (vrep_new S.c.len)
theorem newL_len {μ' : Mu} {v : V} {ds : List D} (e : newL μ ds = .ok (v, μ')) : ds.length ≤ 1000000 := by
  exact iteR e fun h _ => fits_le h
/-! ### texts of data -/
theorem num_text : (List.range 100).all (fun n => Str.ofString (toString (n : Int)) == sT (numT n)) = true := by decide +kernel
theorem intT_ok {i : Int} {t : T} (e : intT i = some t) : Str.ofString (toString i) = sT t ∧ i.natAbs.log2 < 1920 ∧ t.length ≤ 2 := by
  cases i with
  | ofNat k =>
    refine ite1 e fun h e => ?_
    subst e
    have := List.all_eq_true.mp num_text k (List.mem_range.mpr h)
    refine ⟨eq_of_beq this, ?_, ?_⟩
    · show (k : Nat).log2 < 1920
      rcases Nat.eq_zero_or_pos k with h0 | hp
      · rw [h0]; decide
      · exact (Nat.log2_lt (Nat.ne_of_gt hp)).mpr (Nat.lt_of_lt_of_le h (Nat.le_trans (by decide : 100 ≤ 2 ^ 7) (Nat.pow_le_pow_right (by decide) (by decide))))
    · unfold numT
      by_cases q : k < 10
      · rw [if_pos q]; exact Nat.le_succ 1
      · rw [if_neg q]; exact Nat.le_refl 2
  | negSucc => exact noneE e
theorem repr_k : (List.range 10).all (fun d => reprText (sT [107, 48 + d]) == sT [39, 107, 48 + d, 39]) = true := by decide +kernel
noncomputable def reads : D → Option PyData
  | .int i => some (.int i)
  | .str t => some (.str (sT t))
  | _ => none
theorem reprS_ok {w : World} {Z : ZM} {h : Heap} {d : D} {t : T} (e : reprS d = some t) {x : Value} (r : Rep w Z x d) : ∃ p, Reads h x p [] ∧ p.shown = sT t ∧ p.showable = true ∧ p.hasDict = false ∧ p.depth = 0 ∧ t.length ≤ 4 := by
  cases d with
  | int i =>
    obtain ⟨u, rfl⟩ := vint (as := []) r
    obtain ⟨a, b, c⟩ := intT_ok e
    exact ⟨.int _, .int _ _, a, decide_eq_true b, rfl, rfl, Nat.le_trans c (by decide)⟩
  | str s =>
    obtain ⟨u, rfl⟩ := vstr (as := []) r
    rcases s with _ | ⟨a, s⟩
    · exact noneE e
    refine Option.bind1 e fun k hk e => ite1 e fun hc e3 => and2 hc fun h0 hd => and2 hd fun h1 h2 => ?_
    clear hc
    cases only1 hk
    cases Nat.eq_of_beq_eq_true h0
    subst e3
    have h1 := of_decide_eq_true h1
    have h2 := of_decide_eq_true h2
    have := List.all_eq_true.mp repr_k (k - 48) (List.mem_range.mpr (by lia))
    rw [show 48 + (k - 48) = k by lia] at this
    exact ⟨.str _, .str _ _, eq_of_beq this, rfl, rfl, rfl, Nat.le_refl 4⟩
  | _ => exact noneE e
theorem reprAll_ok {w : World} {Z : ZM} {h : Heap} : ∀ {l : List D} {ts : List T} {vs : List Value}, l.mapM reprS = some ts → AlR (Rep w Z) vs l →
    ∃ ps, ReadsAll h vs ps [] ∧ PyData.shownAll ps = ts.map sT ∧ PyData.showableAll ps = true ∧ PyData.hasDictAll ps = false ∧ PyData.depthAll ps = 0
  | [], ts, vs, e, r => by
    cases r.cases_nil
    simp at e; subst e
    exact ⟨[], .nil, rfl, by simp only [PyData.showableAll], by simp only [PyData.hasDictAll], by simp only [PyData.depthAll]⟩
  | d :: l, ts, vs, e, r => by
    obtain ⟨x, vs, rfl, rx, r3⟩ := r.cases_cons
    rw [List.mapM_cons] at e
    simp only [Option.bind_eq_bind, Option.bind_eq_some_iff] at e
    obtain ⟨t, e1, ts', e2, e3⟩ := e
    cases e3
    obtain ⟨p, a1, a2, a3, a4, a5, a6⟩ := reprS_ok (h := h) e1 rx
    obtain ⟨ps, b1, b2, b3, b4, b5⟩ := reprAll_ok (h := h) e2 r3
    refine ⟨p :: ps, readsAll_cons_val a1 b1, by simp only [PyData.shownAll, a2, b2, List.map_cons], by simp only [PyData.showableAll, a3, b3, Bool.and_self], by simp only [PyData.hasDictAll, a4, b4, Bool.or_self], by simp only [PyData.depthAll, a5, b5]; rfl⟩
theorem comma : Str.ofString ", " = sT [44, 32] := by decide +kernel
theorem textFrom_ok : ∀ (ts : List T) (k : Nat) (acc : T), textFrom (k + 1) (sT acc) (ts.map sT) = sT (acc ++ (ts.map fun t => [44, 32] ++ t).flatten)
  | [], k, acc => by simp [textFrom]
  | t :: r, k, acc => by
    rw [List.map_cons, textFrom, if_pos (by lia), show ((", " : String) : Str) = sT [44, 32] from comma, sT_app, sT_app, textFrom_ok r (k + 1)]
    simp [List.append_assoc]
theorem joinT_eq (a : T) : ∀ ts : List T, joinT [44, 32] (a :: ts) = a ++ (ts.map fun t => [44, 32] ++ t).flatten
  | [] => by simp [joinT]
  | b :: ts => by
    rw [joinT, joinT_eq b ts]
    · simp
    · intro h; cases h
theorem brack : Str.ofString "[" = sT [91] ∧ Str.ofString "]" = sT [93] ∧ (Str.ofString "[" ++ Str.ofString "" : Str) = sT [91] := by decide +kernel
theorem listText_ok (a : T) (ts : List T) : listText ((a :: ts).map sT) = sT ([91] ++ joinT [44, 32] (a :: ts) ++ [93]) := by
  unfold listText
  rw [List.map_cons, textFrom]
  rw [show ((if 0 > 0 then ", " else "" : String)) = "" from rfl, brack.2.2, sT_app, textFrom_ok, brack.2.1, sT_app, joinT_eq]
  simp [List.append_assoc]
end
section
variable {F : Fn} {n : Nat} {C : Cx} {Z : ZM} {as : AS} {ρ : Ev} {μ : Mu} {s : Shared} {E : Value → Shared → Prop}
theorem St.nolimit (S : St C Z as ρ μ s) (K : C.Ok n) : s.heap.NoLimit := (S.gnd K).nolimit
theorem Post.here {v : V} {Q : Value → Shared → Prop} (P : Post C Z as ρ μ v Q) {s' : Shared} {x : Value} (S : St C Z as ρ μ s') (r : VRep C.w Z as x v) : Q x s' := P _ _ _ _ (.refl _) (List.prefix_refl _) S r
theorem one_eq {l : List V} {v : V} (h : one l = some v) : l = [v] := only1 h
theorem toI_eq {v : V} {i : Int} (h : toI v = some i) : v = .c (.int i) := toI_v h
theorem toT_eq {v : V} {i : T} (h : toT v = some i) : v = .c (.str i) := toT_v h
theorem toD_eq {v : V} {i : D} (h : toD v = some i) : v = .c i := toD_v h
theorem toR_eq {v : V} {i : Nat} (h : toR v = some i) : v = .r i := by
  rcases v with _ | _
  · exact noneE h
  · exact congrArg V.r (Option.some.inj h)
theorem two_eq {l : List V} {q : V × V} (h : two l = some q) : l = [q.1, q.2] := by
  rcases l with _ | ⟨a, r⟩
  · exact noneE h
  ·
    refine Option.map1 h fun b hb h => ?_
    subst h
    rw [only1 hb]
theorem len_ok (S : St C Z as ρ μ s) (K : C.Ok n) {v v' : V} {μ' : Mu} (e : biLen μ v = .ok (v', μ')) {x : Value} (r : VRep C.w Z as x v) {Q : Value → Shared → Prop} (P : Post C Z as ρ μ' v' Q) :
    wpAny (model pT C.w) C.A (call (.builtin "len") [x]) Q E s := by
  refine hold fun G out => ?_
  unfold biLen at e
  generalize hl : asSeq μ v = c at e
  rcases c with _ | l
  ·
    refine optR e fun t ht e => iteR e fun hf e => ?_
    have := okT_le hf
    obtain ⟨u, rfl⟩ := vstr (toT_v ht ▸ r)
    exact out (PyProof.Rows.len_str (by rw [sT_len]; lia) ((P.ok e).here S.tok (by rw [sT_len]; exact .int _ _)))
  ·
    refine iteR e fun hf e => ?_
    have hb := fits_le hf
    obtain ⟨a, o, vs, k, rfl, g, hc, hd, r1⟩ := asSeq_ok S.c r hl
    have hz : (List.toArray vs).size = l.length := by rw [List.size_toArray, r1.1]
    rcases hc with hc | hc
    · exact out (PyProof.Rows.len_list ⟨o, g, hc, k, hd⟩ (by rw [hz]; lia) ((P.ok e).here S.tok (by rw [hz]; exact .int _ _)))
    · exact out (PyProof.Rows.len_tuple ⟨o, g, hc, k, hd⟩ (by rw [hz]; lia) ((P.ok e).here S.tok (by rw [hz]; exact .int _ _)))
theorem tiny_le {i : Int} (h : tiny i = true) : -1000000000 ≤ i ∧ i ≤ 1000000000 := by
  unfold tiny at h
  refine and2 h fun a b => ?_
  exact ⟨of_decide_eq_true a, of_decide_eq_true b⟩
theorem fits_long {i : Int} (h1 : -4000000000 ≤ i) (h2 : i ≤ 4000000000) : Builtin.Range.rangeFitsLong i = true := by
  unfold Builtin.Range.rangeFitsLong
  simp only [Bool.and_eq_true, decide_eq_true_eq]
  lia
theorem rng_small {a b c : Int} (h1 : tiny a = true) (h2 : tiny b = true) (hc : c = 1 ∨ c = 2) : Builtin.Range.small a b c = true := by
  obtain ⟨x1, x2⟩ := tiny_le h1
  obtain ⟨x3, x4⟩ := tiny_le h2
  have hsz : -4000000000 ≤ Builtin.Range.rangeSize a b c ∧ Builtin.Range.rangeSize a b c ≤ 4000000000 := by
    unfold Builtin.Range.rangeSize
    rcases hc with rfl | rfl
    · rw [if_pos (by decide)]
      split
      · rw [Int.ediv_one]; lia
      · lia
    · rw [if_pos (by decide)]
      split
      · lia
      · lia
  unfold Builtin.Range.small
  rw [fits_long (by lia) (by lia), fits_long (by lia) (by lia), fits_long (by lia) (by lia), fits_long hsz.1 hsz.2]
  rcases hc with rfl | rfl
  · rw [if_pos (by decide), fits_long (by lia) (by lia)]; simp
  · rw [if_pos (by decide), fits_long (by lia) (by lia)]; simp
theorem strs_rep {w : World} {Z : ZM} : ∀ {vs : List Value} {ss : List Str}, StrsAre vs ss → AlR (Rep w Z) vs (ss.map fun x => D.str x.cps.toList)
  | _, _, .nil => .nil
  | _, _, .cons y t r => .cons (by have := Rep.str (w := w) (Z := Z) y.cps.toList t; exact this) (strs_rep r)
theorem carr_rep {w : World} {Z : ZM} : ∀ {l : List Int} {ys : List Value}, CarriedAll ys (l.map .int) → AlR (Rep w Z) ys (l.map .int)
  | [], _, h => by cases h; exact .nil
  | i :: l, _, h => by cases h with | cons h1 h2 => cases h1; exact .cons (.int _ _) (carr_rep h2)
theorem list_rng (S : St C Z as ρ μ s) (K : C.Ok n) {a b : Int} (h1 : tiny a = true) (h2 : tiny b = true) {v' : V} {μ' : Mu} (e : newL μ (rngL a b 1) = .ok (v', μ')) {x : Value} (r : Rep C.w Z x (.rng a b 1)) {Q : Value → Shared → Prop} (P : Post C Z as ρ μ' v' Q) :
    wpAny (model pT C.w) C.A (call (.type "list") [x]) Q E s := by
  cases r with
  | rng z o =>
    have hb := newL_len e
    obtain ⟨t, u, w', rfl⟩ := o
    have g := S.c.z _ _ z
    obtain ⟨m, Fh, N, back⟩ := S.fr K
    have rs := PySem.rangeSize_one a b
    have hn : Builtin.Range.rangeSize a b 1 = (((Builtin.Range.rangeSize a b 1).toNat : Nat) : Int) := by
      rw [rs]; split <;> lia
    have hl : (rngL a b 1).length = (Builtin.Range.rangeSize a b 1).toNat := by unfold rngL rangeInts; rw [List.length_map, List.length_map, List.length_range]
    exact list_rangeD K.ao.handled Fh N g (rng_small h1 h2 (.inl rfl)) hn (by lia) fun h' tk ys F' N' kp _ _ np hy => by
      obtain ⟨k, np⟩ := np.1
      exact newL_ok e S (carr_rep hy) kp (no_at_size _) np P
theorem toRng_v {v : V} {q} (h : toRng v = some q) : v = .c (.rng q.1 q.2.1 q.2.2) := by
  rcases v with d | _
  · cases d <;> first | exact noneE h | (cases Option.some.inj h; rfl)
  · exact noneE h
theorem list_ok (S : St C Z as ρ μ s) (K : C.Ok n) {v v' : V} {μ' : Mu} (e : biList μ v = .ok (v', μ')) {x : Value} (r : VRep C.w Z as x v) {Q : Value → Shared → Prop} (P : Post C Z as ρ μ' v' Q) :
    wpAny (model pT C.w) C.A (call (.type "list") [x]) Q E s := by
  refine hold fun G out => ?_
  unfold biList at e
  generalize hl : asSeq μ v = c at e
  rcases c with _ | l
  ·
    refine optR e fun q hq e => iteR e fun hs e => and2 hs fun h1 hs => and2 hs fun h2 h3 => ?_
    have h1 := of_decide_eq_true h1
    have r' : Rep C.w Z x (.rng q.1 q.2.1 q.2.2) := (show VRep C.w Z as x (.c (.rng q.1 q.2.1 q.2.2)) from toRng_v hq ▸ r)
    rw [h1] at r'
    exact out (list_rng S K h2 h3 e r' P)
  ·
    obtain ⟨a, o, vs, k, rfl, g, hc, hd, r1⟩ := asSeq_ok S.c r hl
    have hb := newL_len e
    have hz : (List.toArray vs).size ≤ sizeLine := by rw [List.size_toArray, r1.1]; exact Nat.le_trans hb sizeLine_big
    rcases hc with hc | hc
    · exact out (call_list_seq a (.inl rfl) g hc hd (fun h' c' kp g' => newL_ok e S r1 kp (no_at_size _) g' P) hz)
    · exact out (call_list_seq a (.inr rfl) g hc hd (fun h' c' kp g' => newL_ok e S r1 kp (no_at_size _) g' P) hz)
theorem str_ok (S : St C Z as ρ μ s) (K : C.Ok n) {v v' : V} {μ' : Mu} (e : biStr μ v = .ok (v', μ')) {x : Value} (r : VRep C.w Z as x v) {Q : Value → Shared → Prop} (P : Post C Z as ρ μ' v' Q) :
    wpAny (model pT C.w) C.A (call (.type "str") [x]) Q E s := by
  refine hold fun G out => ?_
  unfold biStr at e
  generalize hi : toI v = c at e
  rcases c with _ | i
  ·
    refine optR e fun l hl e => iteR e fun hne e => optR e fun t ht e => iteR e fun hk e => ?_
    rcases l with _ | ⟨a, l⟩
    · exact falseE hne
    ·
      obtain ⟨ad, vs, k, rfl, g, r1⟩ := asList_ok S.c r hl
      unfold reprL at ht
      refine Option.map1 ht fun ts hts ht => ?_
      subst ht
      obtain ⟨ps, b1, b2, b3, b4, b5⟩ := reprAll_ok (h := s.heap) hts r1
      have hne : ∃ t0 ts0, ts = t0 :: ts0 := by
        rw [List.mapM_cons] at hts
        exact Option.bind1 hts fun t e1 h => Option.bind1 h fun ts' e2 h => ⟨t, ts', (Option.some.inj h).symm⟩
      obtain ⟨t0, ts0, rfl⟩ := hne
      have R : Reads s.heap (.ref ad) (.list ps) [ad] := reads_list_at g rfl rfl b1
      have sh : PyData.shown (.list ps) = sT ([91] ++ joinT [44, 32] (t0 :: ts0) ++ [93]) := by simp only [PyData.shown, b2]; exact listText_ok _ _
      refine out (str_of_reads R (by simp only [PyData.showable]; exact b3) (fun h => by simp only [PyData.hasDict, b4] at h; cases h) K.ao.guards (by
        have := K.ao.units
        simp only [PyData.depth, b5]; lia) (fun _ _ e => e) (fun h' u tk kp => ?_) (by rw [sh, sT_len]; have := okT_le hk; rw [sizeLine_eq]; lia))
      exact (P.ok e).here (S.ext (dr := s.drawn) kp) (by rw [sh]; exact .str _ _)
  ·
    refine optR e fun t ht e => ?_
    obtain ⟨u, rfl⟩ := vint (toI_v hi ▸ r)
    obtain ⟨a, b, c⟩ := intT_ok ht
    exact out (PySem.P.str_of_int b ((P.ok e).here S.tok (by rw [show ((toString i : String) : Str) = sT t from a]; exact .str _ _)))
theorem abs_ok (S : St C Z as ρ μ s) {i : Int} {t : Tok} {Q : Value → Shared → Prop} (P : Post C Z as ρ μ (.c (.int (if i < 0 then -i else i))) Q) : wpAny (model pT C.w) C.A (call (.builtin "abs") [.int i t]) Q E s :=
  call_abs_int fun u tk => P.here S.tok (.int _ _)
theorem rep_glo {w : World} {Z : ZM} {x u : Value} (r : Rep w Z x (.glo u)) : x = u := by cases r; rfl
theorem gloOf_v {v : V} {u : Value} (h : gloOf v = some u) : v = .c (.glo u) := by
  rcases v with d | _
  · cases d <;> first | exact noneE h | (cases Option.some.inj h; rfl)
  · exact noneE h
theorem isClsV_v {u : Value} {b : Bool} (h : isClsV u = some b) : u = if b then .ref vecA else .type "list" := by
  cases u with
  | ref a =>
    refine ite1 (c := Nat.beq a 318 = true) h fun hc e => ?_
    subst e
    exact congrArg Value.ref (Nat.eq_of_beq_eq_true hc)
  | type t =>
    refine ite1 (c := t = "list") h fun hc e => ?_
    subst e
    exact congrArg Value.type hc
  | _ => exact noneE h
theorem isVec_at (S : St C Z as ρ μ s) {v : V} (hv : isVec μ v = true) {x : Value} (r : VRep C.w Z as x v) : ∃ a dx, x = .ref a ∧ s.heap.get? a = some (instObj vecA dx) := by
  unfold isVec at hv
  generalize hs : see μ v = o at hv
  rcases o with _ | p
  · exact falseE hv
  ·
    rcases p with ⟨_, _⟩ | _ | ⟨c, l⟩ | d
    · exact falseE hv
    · exact falseE hv
    ·
      rcases see_ok S.c r hs with ⟨d, h, _⟩ | ⟨i, q, rfl, hp, hq, rfl, y⟩
      · cases h
      · exact ⟨_, _, rfl, (Nat.eq_of_beq_eq_true (show Nat.beq c vecA = true from hv)) ▸ y.2.1⟩
    ·
      obtain ⟨k, t, u, rfl⟩ := isVecD_v hv
      cases see_ok' S.c r hs with
      | vec ne z1 z2 _ _ _ => exact ⟨_, _, rfl, S.c.z _ _ z1⟩
theorem isi_ok (S : St C Z as ρ μ s) (K : C.Ok n) {v c v' : V} {μ' : Mu} (e : biIs μ v c = .ok (v', μ')) {x y : Value} (r : VRep C.w Z as x v) (rc : VRep C.w Z as y c) {Q : Value → Shared → Prop} (P : Post C Z as ρ μ' v' Q) :
    wpAny (model pT C.w) C.A (call (.builtin "isinstance") [x, y]) Q E s := by
  refine optR e fun u hu e => optR e fun b hb e => iteR e fun hv e => ?_
  have hy : y = if b then .ref vecA else .type "list" := (rep_glo (show Rep C.w Z y (.glo u) from (show VRep C.w Z as y (.c (.glo u)) from gloOf_v hu ▸ rc))).trans (isClsV_v hb)
  subst hy
  rcases b with _ | _
  ·
    obtain ⟨b', hb'⟩ := isB_v (show isB v = true from hv)
    cases vbool (hb' ▸ r)
    exact PySem.IsiPair.bool_list ((P.ok e).here S.tok (.bool _))
  ·
    obtain ⟨a, dx, rfl, g⟩ := isVec_at S hv r
    exact isi_call (t := .ref vecA) (S.gnd K).sys.inK (fun M => (Looks.ld (part := none) g).andThen .now) (by kernel_rfl) (by intro h; cases h) ((P.ok e).here S (.bool _))
theorem range_frz {w : World} {h' : Heap} {q : Addr} {a b c : Int} {t u v : Tok} (S : St C Z as ρ μ s) (K : C.Ok n) (kp : ∀ b o, s.heap.get? b = some o → h'.get? b = some o) (fr : s.heap.get? q = none) (g : IsRange h' q a b c t u v) {tk : Nat} {Q : Value → Shared → Prop}
    (P : Post C Z as ρ μ (.c (.rng a b c)) Q) : Q (.ref q) { s with heap := h', toks := tk } := by
  have S1 : St C Z as ρ μ { s with heap := h', toks := tk } := S.ext (dr := s.drawn) kp
  obtain ⟨z, g0, x, ow⟩ := S.fresh fr
  obtain ⟨c1, le⟩ := S1.c.addZ (a := q) (f := .ex _) z g0 x g ow
  exact P _ _ _ _ le (List.prefix_refl _) ⟨c1, S1.l.mono le (List.prefix_refl _) fun _ _ _ e => e, S1.os, S1.gens⟩ (.rng (by simp) ⟨t, u, v, rfl⟩)
theorem range1_ok (S : St C Z as ρ μ s) (K : C.Ok n) {i : Int} {t : Tok} {Q : Value → Shared → Prop} (P : Post C Z as ρ μ (.c (.rng 0 i 1)) Q) : wpAny (model pT C.w) C.A (call (.type "range") [.int i t]) Q E s :=
  call_range_1 (range_frz (w := C.w) S K (fun _ _ e => Heap.get?_push_of_some _ e) (no_at_size _) (IsRange.new ..) P)
theorem range2_ok (S : St C Z as ρ μ s) (K : C.Ok n) {i j : Int} {t u : Tok} {Q : Value → Shared → Prop} (P : Post C Z as ρ μ (.c (.rng i j 1)) Q) : wpAny (model pT C.w) C.A (call (.type "range") [.int i t, .int j u]) Q E s :=
  call_range_2 (range_frz (w := C.w) S K (fun _ _ e => Heap.get?_push_of_some _ e) (no_at_size _) (IsRange.new ..) P)
theorem range3_ok (S : St C Z as ρ μ s) (K : C.Ok n) {i j : Int} {t u v : Tok} {Q : Value → Shared → Prop} (P : Post C Z as ρ μ (.c (.rng i j 2)) Q) : wpAny (model pT C.w) C.A (call (.type "range") [.int i t, .int j u, .int 2 v]) Q E s :=
  call_range_3 (by decide) (range_frz (w := C.w) S K (fun _ _ e => Heap.get?_push_of_some _ e) (no_at_size _) (IsRange.new ..) P) (.inl (PyProof.noPylong_small (by decide)))
end
/-! ### sorting -/
theorem ltCps_tLt : ∀ a b : T, PySem.Spec.ltCps a b = tLt a b
  | [], [] => rfl
  | [], _ :: _ => rfl
  | _ :: _, [] => rfl
  | a :: r, b :: q => by
    rw [PySem.Spec.ltCps, tLt, ltCps_tLt r q, blt_dec]
    congr 2
    rw [Bool.eq_iff_iff]; simp
theorem tLt_asymm {a b : T} (h : tLt a b = true) : tLt b a = false := by
  rw [tLt_iff] at *
  have := of_decide_eq_true h
  exact decide_eq_false (List.lt_asymm this)
theorem not_tLt_trans {a b c : T} (h1 : tLt b a = false) (h2 : tLt c b = false) : tLt c a = false := by
  rw [tLt_iff] at *
  have h1 := of_decide_eq_false h1
  have h2 := of_decide_eq_false h2
  refine decide_eq_false fun h => ?_
  have a1 : a ≤ b := List.not_lt.mp h1
  have a2 : b ≤ c := List.not_lt.mp h2
  exact List.not_lt.mpr (List.le_trans a1 a2) h
theorem tLt_tri {a b : T} (h1 : tLt a b = false) (h2 : tLt b a = false) : a = b := by
  rw [tLt_iff] at *
  have h1 := of_decide_eq_false h1
  have h2 := of_decide_eq_false h2
  exact List.le_antisymm (List.not_lt.mp h2) (List.not_lt.mp h1)
noncomputable def Srt (l : List T) : Prop := l.Pairwise fun a b => tLt b a = false
theorem insT_perm (a : T) : ∀ l, (insT a l).Perm (a :: l)
  | [] => .refl _
  | b :: r => by
    unfold insT
    split
    · exact ((insT_perm a r).cons b).trans (.swap a b r)
    · exact .refl _
theorem sortT_perm : ∀ l, (sortT l).Perm l
  | [] => .refl _
  | a :: r => (insT_perm a _).trans ((sortT_perm r).cons a)
theorem insT_srt (a : T) : ∀ l, Srt l → Srt (insT a l)
  | [], _ => by simp [insT, Srt]
  | b :: r, h => by
    unfold insT
    obtain ⟨h1, h2⟩ := List.pairwise_cons.mp h
    split
    · rename_i e
      refine List.pairwise_cons.mpr ⟨fun c m => ?_, insT_srt a r h2⟩
      rcases List.mem_cons.mp ((insT_perm a r).mem_iff.mp m) with rfl | m
      · exact tLt_asymm e
      · exact h1 c m
    · rename_i e
      have e : tLt b a = false := by simpa using e
      refine List.pairwise_cons.mpr ⟨fun c m => ?_, h⟩
      rcases List.mem_cons.mp m with rfl | m
      · exact e
      · exact not_tLt_trans e (h1 c m)
theorem sortT_srt : ∀ l, Srt (sortT l)
  | [] => List.Pairwise.nil
  | a :: r => insT_srt a _ (sortT_srt r)
theorem srt_unique : ∀ {l r : List T}, Srt l → Srt r → l.Perm r → l = r
  | [], r, _, _, p => (List.nil_perm.mp p).symm
  | a :: l, r, hl, hr, p => by
    rcases r with _ | ⟨b, r⟩
    · exact absurd (List.perm_nil.mp p) (by simp)
    ·
      obtain ⟨h1, h2⟩ := List.pairwise_cons.mp hl
      obtain ⟨h3, h4⟩ := List.pairwise_cons.mp hr
      have ab : a = b := by
        rcases List.mem_cons.mp (p.mem_iff.mp List.mem_cons_self) with e | m
        · exact e
        · rcases List.mem_cons.mp (p.mem_iff.mpr List.mem_cons_self) with e | m'
          · exact e.symm
          · exact tLt_tri (h3 a m) (h1 b m')
      subst ab
      rw [srt_unique h2 h4 (List.Perm.cons_inv p)]
theorem srt_of : ∀ {ss : List Str}, sortedS ss = true → Srt (ss.map fun x => x.cps.toList)
  | [], _ => List.Pairwise.nil
  | [x], _ => by simp [Srt]
  | x :: y :: r, h => by
    have h : risingS x (y :: r) = true := h
    rw [risingS, Bool.and_eq_true] at h
    have ih := srt_of (ss := y :: r) h.2
    have e : tLt y.cps.toList x.cps.toList = false := by rw [← ltCps_tLt]; simpa using h.1
    rw [List.map_cons, Srt, List.pairwise_cons]
    refine ⟨fun c m => ?_, ih⟩
    rw [List.map_cons] at ih m
    obtain ⟨h1, h2⟩ := List.pairwise_cons.mp ih
    rcases List.mem_cons.mp m with rfl | m
    · exact e
    · exact not_tLt_trans e (h1 c m)
section
variable {F : Fn} {n : Nat} {C : Cx} {Z : ZM} {as : AS} {ρ : Ev} {μ : Mu} {s : Shared} {E : Value → Shared → Prop}
theorem sorted_ok (S : St C Z as ρ μ s) (K : C.Ok n) {v v' : V} {μ' : Mu} (e : biSorted μ v = .ok (v', μ')) {x : Value} (r : VRep C.w Z as x v) {Q : Value → Shared → Prop} (P : Post C Z as ρ μ' v' Q) :
    wpAny (model pT C.w) C.A (call (.builtin "sorted") [x]) Q E s := by
  refine optR e fun ts hts e => Option.bind1 hts fun l hl ht => iteR e fun h64 e => ?_
  have h64 := of_decide_eq_true h64
  obtain ⟨a, vs, k, rfl, g, r1⟩ := asList_ok S.c r hl
  have hS := txts_strs ht r1
  obtain ⟨m, Fh, N, back⟩ := S.fr K
  have hlen : vs.length = ts.length := by
    have : ∀ {vs : List Value} {ss : List Str}, StrsAre vs ss → vs.length = ss.length := by
      intro vs ss h
      induction h with
      | nil => rfl
      | cons _ _ _ ih => simp [ih]
    rw [this hS, List.length_map]
  refine sorted_N_str Fh N ⟨_, g, rfl, _, rfl⟩ hS (by lia) fun h' vs' ss' e' F' N' hS' hp hs => ?_
  have S' := back h' s.toks [_] F' N'
  have g' := (N' _ (.head _)).1
  have eqs : (ss'.map fun x => x.cps.toList) = sortT ts := by
    refine srt_unique (srt_of hs) (sortT_srt ts) (List.Perm.trans ?_ (sortT_perm ts).symm)
    have := hp.map (fun x => x.cps.toList)
    rw [List.map_map] at this
    refine this.trans (List.Perm.of_eq ?_)
    rw [show ((fun x : Str => x.cps.toList) ∘ sT) = id from rfl, List.map_id]
  have r2 : AlR (Rep C.w Z) vs' ((sortT ts).map .str) := by
    rw [← eqs, List.map_map]
    exact strs_rep hS'
  refine iteR e fun _ e => ?_
  have fr : s.heap.get? (s.heap.objs.size + 1) = none := by
    cases q : s.heap.get? (s.heap.objs.size + 1) with
    | none => rfl
    | some o => exact absurd (Heap.lt_size q) (Nat.not_lt.mpr (Nat.le_succ _))
  exact (P.ok e) Z (as ++ [(s.heap.objs.size + 1, s.heap.objs.size + 1)]) _ _ (.refl _) (List.prefix_append _ _)
    (S'.pushF (fun a m => by cases m with | head => exact S.fresh fr | tail _ m => cases m) (prep_list g' r2)) (vrep_new S.c.len)
/-! ### methods -/
theorem lst_at (S : St C Z as ρ μ s) {i : Nat} {l : List D} (hi : μ[i]? = some (.lst true l)) : ∃ q vs k, as[i]? = some q ∧ s.heap.PlainList q.1 (List.toArray vs) ∧ AlR (Rep C.w Z) vs l ∧ s.heap.get? q.1 = some { cls := .type "list", dict := none, data := .seq (List.toArray vs) k, slots := #[] } := by
  obtain ⟨q, hq, o, vs, k, a, b, c, d, e⟩ := S.c.vrep_alive hi
  obtain ⟨c1, c2⟩ := c rfl
  obtain ⟨oc, od, oda, os⟩ := o
  dsimp only at b c1 c2 d
  subst b c1 c2 d
  exact ⟨q, vs, k, hq, ⟨k, a⟩, e, a⟩
theorem vref {w : World} {Z : ZM} {as : AS} {x : Value} {i : Nat} (r : VRep w Z as x (.r i)) {q : Addr × Addr} (hq : as[i]? = some q) : x = .ref q.1 := by
  obtain ⟨q', hq', rfl⟩ := r
  rw [hq] at hq'; cases hq'; rfl
theorem append_ok (S : St C Z as ρ μ s) (K : C.Ok n) {i : Nat} {v v' : V} {μ' : Mu} (e : meAppend μ i v = .ok (v', μ')) {x y : Value} (rx : VRep C.w Z as x (.r i)) (ry : VRep C.w Z as y v) {Q : Value → Shared → Prop} (P : Post C Z as ρ μ' v' Q) :
    wpAny (model pT C.w) C.A (call (.builtin "list.append") [x, y]) Q E s := by
  refine Res.bind2 e fun d μ₁ hf e => optR e fun l hi e => iteR e fun hfit e => Option.bind1 hi fun p hp hi => ?_
  rcases p with ⟨b, m⟩ | _ | ⟨_, _⟩ | _
  ·
    refine ite1 hi fun hb hm => ?_
    subst hb hm
    obtain ⟨Z₁, le, S₁, r₁⟩ := S.frz hf ry
    obtain ⟨q, vs, k, hq, pl, r1, g⟩ := lst_at S₁ hp
    cases vref rx hq
    have hb := fits_le hfit
    refine wpAny_list_append_plain pl (fun h' pl' sb => ?_) (by rw [List.size_toArray, r1.1]; exact Nat.le_trans hb sizeLine_big)
    obtain ⟨k', g'⟩ := pl'
    rw [List.push_toArray] at g'
    exact ((P.ok e).up le (List.prefix_refl _)).here (S₁.setP (tk := s.toks) (dr := s.drawn) K hp hq (x := q.1) (.head _) (fun a m => m) (fun b o ne eb => (sb.2 b ne).trans eb) (prep_list (as := as) g' (r1.append (.one r₁)))) .none
  · exact noneE hi
  · exact noneE hi
  · exact noneE hi
theorem reverse_ok (S : St C Z as ρ μ s) (K : C.Ok n) {i : Nat} {v' : V} {μ' : Mu} (e : meReverse μ i = .ok (v', μ')) {x : Value} {pos : Pos} (rx : VRep C.w Z as x (.r i)) {Q : Value → Shared → Prop} (P : Post C Z as ρ μ' v' Q) :
    wpAny (model pT C.w) C.A (callWith pos (.builtin "list.reverse") [x] [] []) Q E s := by
  refine optR e fun l hi e => iteR e fun hfit e => Option.bind1 hi fun p hp hi => ?_
  rcases p with ⟨b, m⟩ | _ | ⟨_, _⟩ | _
  ·
    refine ite1 hi fun hb hm => ?_
    subst hb hm
    obtain ⟨q, vs, k, hq, pl, r1, g⟩ := lst_at S hp
    cases vref rx hq
    refine PySem.P.reverse_list g ?_ (by rw [List.size_toArray, r1.1]; exact Nat.le_trans (fits_le hfit) sizeLine_big)
    have g' := Heap.get?_update_self (Obj.mapSeq fun x => x.reverse) g rfl
    simp only [Obj.mapSeq, List.reverse_toArray] at g'
    exact (P.ok e).here (S.setP (tk := s.toks) (dr := s.drawn) K hp hq (x := q.1) (.head _) (fun a m => m) (fun b o ne eb => (Heap.get?_update_ne _ _ _ _ ne).trans eb) (prep_list (as := as) g' r1.reverse)) .none
  · exact noneE hi
  · exact noneE hi
  · exact noneE hi
theorem count_ok (S : St C Z as ρ μ s) {o v' : V} {d : D} {μ' : Mu} (e : meCount μ o d = .ok (v', μ')) {x y : Value} (rx : VRep C.w Z as x o) (ry : Rep C.w Z y d) {Q : Value → Shared → Prop} (P : Post C Z as ρ μ' v' Q) :
    wpAny (model pT C.w) C.A (call (.builtin "list.count") [x, y]) Q E s := by
  refine optR e fun k hk e => Option.bind1 hk fun l hl hc => ?_
  obtain ⟨a, vs, j, rfl, g, r1⟩ := asList_ok S.c rx hl
  obtain ⟨p, q⟩ := countL_at ry C.A.in1 s hc r1
  exact call_meets PySem.F.slot_list_count ⟨_, g, rfl⟩ PySem.F.entry_list_count (PySem.F.args_list_count_2 _ _) (SeqAt.list_countAt a (List.toArray vs) j none #[] y (fun z => eqV z y))
    ⟨g, fun z m => p z (List.mem_toArray.mp m), show wants _ _ _ _ from (P.ok e).here S.tok (q ▸ .int _ _)⟩
theorem index_ok (S : St C Z as ρ μ s) {o v' : V} {d : D} {μ' : Mu} (e : meIndex μ o d = .ok (v', μ')) {x y : Value} (rx : VRep C.w Z as x o) (ry : Rep C.w Z y d) {Q : Value → Shared → Prop} (P : Post C Z as ρ μ' v' Q) :
    wpAny (model pT C.w) C.A (call (.builtin "list.index") [x, y]) Q E s := by
  refine optR e fun l hl e => optR e fun b hb e => optR e fun k hk e => iteR e fun hf e => ?_
  obtain ⟨a, vs, j, rfl, g, r1⟩ := asList_ok S.c rx hl
  obtain ⟨p, q⟩ := isInL_at ry C.A.in1 s hb r1
  obtain ⟨hkl, p2, p3⟩ := indexL_at ry C.A.in1 s hk r1
  have hl := fits_le hf
  have := r1.1
  exact call_meets PySem.F.slot_list_index ⟨_, g, rfl⟩ PySem.F.entry_list_index (PySem.F.args_list_index_2 _ _) (SeqAt.list_indexAt a (List.toArray vs) j none #[] y (fun z => eqV z y) k hkl (by lia) p2 p3)
    ⟨g, fun z m => p z (List.mem_toArray.mp m), show wants _ _ _ _ from (P.ok e).here S.tok (.int _ _)⟩
theorem foldl_join : ∀ (l : List T) (acc : T), (l.map sT).foldl (fun (acc : Array Nat) p => acc ++ (sT []).cps ++ p.cps) acc.toArray = (acc ++ l.flatten).toArray
  | [], acc => by simp
  | a :: r, acc => by
    rw [List.map_cons, List.foldl_cons]
    have : acc.toArray ++ (sT []).cps ++ (sT a).cps = (acc ++ a).toArray := by simp
    rw [this, foldl_join r]
    simp
theorem join_text (ts : List T) : Txt.join (sT []) (ts.map sT) = sT ts.flatten := by
  unfold Txt.join Builtin.Str.glued
  rcases ts with _ | ⟨a, r⟩
  · rfl
  ·
    simp only [List.map_cons, List.drop_one, List.tail_cons, List.headD_cons]
    exact (congrArg Str.mk (foldl_join r a)).trans (by simp)
theorem sum_len (ts : List T) : ((ts.map sT).map (·.length)).sum = ts.flatten.length := by
  induction ts with
  | nil => rfl
  | cons a r ih => simp only [List.map_cons, List.sum_cons, List.flatten_cons, List.length_append] at *; rw [ih, sT_len]
theorem join_ok (S : St C Z as ρ μ s) {o v v' : V} {μ' : Mu} (e : meJoin μ o v = .ok (v', μ')) {x y : Value} (rx : VRep C.w Z as x o) (ry : VRep C.w Z as y v) {Q : Value → Shared → Prop} (P : Post C Z as ρ μ' v' Q) :
    wpAny (model pT C.w) C.A (call (.builtin "str.join") [x, y]) Q E s := by
  refine optR e fun t ho e => optR e fun l hl e => optR e fun ts ht e => iteR e fun hk e' => and2 hk fun hk0 hk => ?_
  cases List.isEmpty_iff.mp hk0
  obtain ⟨u, rfl⟩ := vstr (toT_v ho ▸ rx)
  obtain ⟨a, vs, j, rfl, g, r1⟩ := asList_ok S.c ry hl
  have hS := txts_strs ht r1
  refine join_list (items := List.toArray vs) ⟨_, g, rfl, _, rfl⟩ hS ?_ fun t' k => (P.ok e').here S.tok (by rw [join_text]; exact .str _ _)
  rw [sum_len, sT_len]
  have := okT_le hk
  show ts.flatten.length + _ * 0 ≤ _
  lia
theorem dict_at (S : St C Z as ρ μ s) {i : Nat} {es : List (T × V)} (hi : μ[i]? = some (.dct es)) : ∃ q kvs, as[i]? = some q ∧ q.1 ≠ sysModules ∧ s.heap.DictOf (strKind pT C.w) q.1 kvs ∧ AlR (fun (kv : Str × Value) e => kv.1 = sT e.1 ∧ VRep C.w Z as kv.2 e.2) kvs es := by
  obtain ⟨q, hq, ns, o, kvs, a, b, c⟩ := S.c.vrep_alive hi
  exact ⟨q, kvs, hq, ns, MapAt a b, c⟩
theorem get_ok (S : St C Z as ρ μ s) {o v v' : V} {k : T} {μ' : Mu} (e : meGet μ o k v = .ok (v', μ')) {x y z : Value} (rx : VRep C.w Z as x o) (ry : VRep C.w Z as y (.c (.str k))) (rz : VRep C.w Z as z v) {Q : Value → Shared → Prop} (P : Post C Z as ρ μ' v' Q) :
    wpAny (model pT C.w) C.A (call (.builtin "dict.get") [x, y, z]) Q E s := by
  refine optR e fun es hs e => ?_
  obtain ⟨a, ob, kvs, rfl, ns, g, hd, r⟩ := asDict_ok S.c rx hs
  obtain ⟨t, rfl⟩ := vstr ry
  have T := (MapAt g hd).mapOf
  refine call_meetsIn PySem.F.slot_dict_get (MapAt g hd).typeIs PySem.F.entry_dict_get (PySem.F.args_dict_get_3 _ _ _) (meets_dict_get_default (strKind pT C.w) a (strKind_is pT C.w (sT k) t) (ne_sys ns) z) ⟨_, T, ?_⟩
  show wants _ _ _ _
  refine (P.ok e).here S.tok ?_
  rcases dGet_ok (k := k) r with ⟨h1, h2⟩ | ⟨u, w, h1, h2, h3⟩
  · rw [h1, h2]; exact rz
  · rw [h1, h2]; exact h3
theorem get1_ok (S : St C Z as ρ μ s) {o v' : V} {k : T} {μ' : Mu} (e : meGet μ o k (.c .none) = .ok (v', μ')) {x y : Value} (rx : VRep C.w Z as x o) (ry : VRep C.w Z as y (.c (.str k))) {Q : Value → Shared → Prop} (P : Post C Z as ρ μ' v' Q) :
    wpAny (model pT C.w) C.A (call (.builtin "dict.get") [x, y]) Q E s := by
  refine optR e fun es hs e => ?_
  obtain ⟨a, ob, kvs, rfl, ns, g, hd, r⟩ := asDict_ok S.c rx hs
  obtain ⟨t, rfl⟩ := vstr ry
  have T := (MapAt g hd).mapOf
  refine call_meetsIn PySem.F.slot_dict_get (MapAt g hd).typeIs PySem.F.entry_dict_get (PySem.F.args_dict_get_2 _ _) (meets_dict_get (strKind pT C.w) a (strKind_is pT C.w (sT k) t) (ne_sys ns)) ⟨_, T, ?_⟩
  show wants _ _ _ _
  refine (P.ok e).here S.tok ?_
  rcases dGet_ok (k := k) r with ⟨h1, h2⟩ | ⟨u, w, h1, h2, h3⟩
  · rw [h1, h2]; exact Rep.none
  · rw [h1, h2]; exact h3
theorem stored_new {kvs : List (Str × Value)} {k : Str} {v : Value} (h : valueAt kvs k = none) : stored kvs k v = kvs ++ [(k, v)] := by
  unfold stored
  rw [if_neg]
  intro hh
  obtain ⟨x, hx, e⟩ := List.any_eq_true.mp hh
  unfold valueAt at h
  rw [Option.map_eq_none_iff, List.find?_eq_none] at h
  exact h x hx e
theorem prep_dict {w : World} {h : Heap} {a : Addr} {kvs : List (Str × Value)} {es : List (T × V)} (ns : a ≠ sysModules) (D : h.DictOf (strKind pT w) a kvs) (r : AlR (fun (kv : Str × Value) e => kv.1 = sT e.1 ∧ VRep w Z as kv.2 e.2) kvs es) : PRep w Z as h (.dct es) (a, a) := by
  obtain ⟨o, ho, hd⟩ := Heap.dictOf_iff.mp D
  exact ⟨ns, o, kvs, ho, hd, r⟩
theorem setd_ok (S : St C Z as ρ μ s) (K : C.Ok n) {i : Nat} {v v' : V} {k : T} {μ' : Mu} (e : meSetd μ i k v = .ok (v', μ')) {x y z : Value} (rx : VRep C.w Z as x (.r i)) (ry : VRep C.w Z as y (.c (.str k))) (rz : VRep C.w Z as z v) {Q : Value → Shared → Prop} (P : Post C Z as ρ μ' v' Q) :
    wpAny (model pT C.w) C.A (call (.builtin "dict.setdefault") [x, y, z]) Q E s := by
  refine hold fun G out => ?_
  refine optR e fun es hi e => iteR e fun hl e => Option.bind1 hi fun p hi hp => ?_
  rcases p with ⟨_, _⟩ | es' | ⟨_, _⟩ | _
  · exact noneE hp
  ·
      cases Option.some.inj hp
      obtain ⟨q, kvs, hq, ns, D, r⟩ := dict_at S hi
      cases vref rx hq
      obtain ⟨t, rfl⟩ := vstr ry
      have hl := of_decide_eq_true hl
      have hz : kvs.length ≤ sizeLine := by rw [r.1]; exact Nat.le_trans (Nat.le_trans hl (by decide)) sizeLine_big
      split at e
      · rename_i u hu
        rcases dGet_ok (k := k) r with ⟨h1, h2⟩ | ⟨u', w', h1, h2, h3⟩
        · rw [hu] at h1; cases h1
        · rw [hu] at h1; cases h1
          refine out <| call_meetsIn PySem.F.slot_dict_setdefault D.typeIs PySem.F.entry_dict_setdefault (PySem.F.args_dict_setdefault_3 _ _ _) (kt_meets_setdefault (strKind pT C.w) q.1 (strKind_is pT C.w (sT k) t) (ne_sys ns) z)
            ⟨kvs, D, hz, (fun v hv => ?_), (fun hn => by rw [h2] at hn; cases hn)⟩
          rw [h2] at hv; cases hv
          show wants _ _ _ _
          exact (P.ok e).here S.tok h3
      · rename_i hu
        rcases dGet_ok (k := k) r with ⟨h1, h2⟩ | ⟨u', w', h1, h2, h3⟩
        · refine out <| call_meetsIn PySem.F.slot_dict_setdefault D.typeIs PySem.F.entry_dict_setdefault (PySem.F.args_dict_setdefault_3 _ _ _) (kt_meets_setdefault (strKind pT C.w) q.1 (strKind_is pT C.w (sT k) t) (ne_sys ns) z)
            ⟨kvs, D, hz, (fun v hv => by rw [h2] at hv; cases hv), (fun _ h' D' sb => ?_)⟩
          show wants _ _ _ _
          rw [stored_new h2] at D'
          exact (P.ok e).here (S.setP (tk := s.toks + 1) (dr := s.drawn) K hi hq (x := q.1) (.head _) (fun a m => m) (fun b o ne eb => (sb.2 b ne).trans eb) (prep_dict ns D' (r.append (.one ⟨rfl, rz⟩)))) rz
        · rw [hu] at h1; cases h1
  · exact noneE hp
  · exact noneE hp
end
noncomputable def aGetV (l : List (At × Value)) (k : At) : Option Value := match l with
  | [] => none
  | (n, v) :: r => if n = k then some v else aGetV r k
noncomputable def aPutV (l : List (At × Value)) (k : At) (v : Value) : List (At × Value) := match l with
  | [] => [(k, v)]
  | (n, u) :: r => if n = k then (n, v) :: r else (n, u) :: aPutV r k v
theorem at_of (a : At) : At.of a.name = some a := by cases a <;> rfl
theorem at_inj : ∀ a b : At, sT a.name = sT b.name → a = b := fun a b h => Option.some.inj ((at_of a).symm.trans ((congrArg At.of (sT_inj.mp h)).trans (at_of b)))
theorem isStr_at (a b : At) (t : Tok) : (Value.str (sT a.name) t).isStr (sT b.name) = decide (a = b) := by
  simp only [Value.isStr]
  by_cases h : a = b
  · subst h; simp
  · rw [decide_eq_false h]; exact beq_eq_false_iff_ne.mpr fun q => h (at_inj a b q)
theorem noRef : ∀ {es : List DictEntry} {l : List (At × Value)}, InsD es l → es.any (·.refKey) = false
  | [], _, _ => rfl
  | e :: es, [], h => h.elim
  | e :: es, p :: l, h => by
    obtain ⟨⟨t, hk⟩, _, r⟩ := h
    rw [List.any_cons, noRef r]
    unfold DictEntry.refKey
    rw [hk]; rfl
theorem getL_at (a : At) : ∀ {es : List DictEntry} {l : List (At × Value)}, InsD es l → (es.find? (·.key.isStr (sT a.name))).map (·.val) = aGetV l a
  | [], [], _ => rfl
  | [], p :: l, h => h.elim
  | e :: es, [], h => h.elim
  | e :: es, (n, v) :: l, h => by
    obtain ⟨⟨t, hk⟩, hv, r⟩ := h
    rw [List.find?_cons, hk, isStr_at, aGetV]
    by_cases q : n = a
    · subst q; simp [hv]
    · rw [decide_eq_false q, if_neg q]; exact getL_at a r
theorem getL_ok (a : At) {es : List DictEntry} {l : List (At × Value)} (h : InsD es l) : getL (sT a.name) es = some (aGetV l a) := by
  unfold getL
  have := getL_at a h
  split
  · rename_i e he; rw [he] at this; rw [← this]; rfl
  · rename_i he; rw [he] at this; rw [noRef h, ← this]; rfl
theorem getL_no {x : Str} (hx : ∀ a : At, sT a.name ≠ x) {es : List DictEntry} : ∀ {l : List (At × Value)}, InsD es l → getL x es = some none := by
  intro l h
  unfold getL
  have : es.find? (·.key.isStr x) = none := by
    rw [List.find?_eq_none]
    induction es generalizing l with
    | nil => intro e m; cases m
    | cons e es ih =>
      rcases l with _ | ⟨p, l⟩
      · exact h.elim
      ·
        obtain ⟨⟨t, hk⟩, _, r⟩ := h
        intro e' m
        rcases List.mem_cons.mp m with rfl | m
        · rw [hk]; simp only [Value.isStr]; simpa using hx p.1
        · exact ih r e' m
  rw [this, noRef h]; rfl
theorem putL_ok (a : At) (v : Value) (hh : Int) (t : Tok) : ∀ {es : List DictEntry} {l : List (At × Value)}, InsD es l → InsD (putL (sT a.name) hh (.str (sT a.name) t) v es) (aPutV l a v)
  | [], [], _ => ⟨⟨t, rfl⟩, rfl, trivial⟩
  | [], p :: l, h => h.elim
  | e :: es, [], h => h.elim
  | e :: es, (n, u) :: l, h => by
    obtain ⟨⟨t', hk⟩, hv, r⟩ := h
    rw [putL, hk, isStr_at, aPutV]
    by_cases q : n = a
    · subst q; simp; exact ⟨⟨t', rfl⟩, rfl, r⟩
    · rw [decide_eq_false q, if_neg q]; simp; exact ⟨⟨t', hk⟩, hv, putL_ok a v hh t r⟩
theorem putL_len (x : Str) (hh : Int) (k v : Value) : ∀ es : List DictEntry, (putL x hh k v es).length ≤ es.length + 1
  | [] => by simp [putL]
  | e :: es => by
    rw [putL]
    split
    · simp
    · simp; exact putL_len x hh k v es
section
variable {F : Fn} {n : Nat} {C : Cx} {Z : ZM} {as : AS} {ρ : Ev} {μ : Mu} {s : Shared} {E : Value → Shared → Prop}
theorem aGet_ok {w : World} {Z : ZM} {as : AS} (a : At) : ∀ {lv : List (At × Value)} {l : List (At × V)}, AlR (fun (kv : At × Value) e => kv.1 = e.1 ∧ VRep w Z as kv.2 e.2) lv l → ∀ {v}, aGet l a = some v → ∃ x, aGetV lv a = some x ∧ VRep w Z as x v
  | lv, [], r, v, h => by cases h
  | lv, (n, u) :: l, r, v, h => by
    obtain ⟨⟨m, x⟩, lv', rfl, ⟨e, rx⟩, r3⟩ := r.cases_cons
    simp only at e rx
    subst e
    rw [aGet] at h
    rw [aGetV]
    split at h
    · rename_i q; cases h; exact ⟨x, by rw [if_pos q], rx⟩
    · rename_i q; rw [if_neg q]; exact aGet_ok a r3 h
theorem aPut_ok {w : World} {Z : ZM} {as : AS} (a : At) {v : V} {x : Value} (rv : VRep w Z as x v) : ∀ {lv : List (At × Value)} {l : List (At × V)}, AlR (fun (kv : At × Value) e => kv.1 = e.1 ∧ VRep w Z as kv.2 e.2) lv l → AlR (fun (kv : At × Value) e => kv.1 = e.1 ∧ VRep w Z as kv.2 e.2) (aPutV lv a x) (aPut l a v)
  | lv, [], r => by cases r.cases_nil; exact .one ⟨rfl, rv⟩
  | lv, (n, u) :: l, r => by
    obtain ⟨⟨m, y⟩, lv', rfl, ⟨e, ry⟩, r3⟩ := r.cases_cons
    simp only at e ry
    subst e
    rw [aPutV, aPut]
    split
    · exact .cons ⟨rfl, rv⟩ r3
    · exact .cons ⟨rfl, ry⟩ (aPut_ok a rv r3)
/-- what the two classes say of these names -/
theorem cls_facts (P : Params) : ∀ c ∈ [vecA, matA], plainGet (kAll P) c Str.empty = true ∧ hasDictIn (kAll P) c = true ∧ plainOver (kAll P) c = true ∧ findIn (kAll P) (.ref c) "__setattr__" = some (some (.builtin "object.__setattr__")) ∧
    ∀ a : At, findIn (kAll P) (.ref c) (sT a.name) = some none := by
  intro c hc
  rcases List.mem_cons.mp hc with rfl | hc
  · exact ⟨by kernel_rfl, by kernel_rfl, by kernel_rfl, by kernel_rfl, fun a => by cases a <;> kernel_rfl⟩
  · rcases List.mem_cons.mp hc with rfl | hc
    · exact ⟨by kernel_rfl, by kernel_rfl, by kernel_rfl, by kernel_rfl, fun a => by cases a <;> kernel_rfl⟩
    · cases hc
theorem handed {w : World} {Z : ZM} {as : AS} {x : Value} {v : V} (r : VRep w Z as x v) (h : noG v = true) : handedIn x = true := by
  rcases v with d | i
  · cases r <;> first | rfl | cases h
  · obtain ⟨q, _, rfl⟩ := r; rfl
theorem inst_of {h : Heap} {a dx : Addr} {c : Addr} {es : List DictEntry} {k : Nat} (g : h.get? a = some (instObj c dx)) (gd : h.get? dx = some (dictOf es k)) : PySem.W.InstAt h a (instObj c dx) c (some (dictOf es k)) := ⟨g, rfl, rfl, gd⟩
theorem own_at (S : St C Z as ρ μ s) (K : C.Ok n) {v : V} {a : At} {ad : Addr} {ex : Bool} {Q : Value → Shared → Prop} (P : Post C Z as ρ μ v Q) {c dx : Addr} {lv : List (At × Value)} {od : Obj} {y : Value} (hc : c ∈ [vecA, matA])
    (g : s.heap.get? ad = some (instObj c dx)) (gd : s.heap.get? dx = some od) (io : InsO lv od) (ha : aGetV lv a = some y) (ry : VRep C.w Z as y v) (hg : noG v = true) : wpAny (model pT C.w) C.A (getAttr (.ref ad) (sT a.name) ex) Q E s := by
  obtain ⟨m, Fh, N, back⟩ := S.fr K
  obtain ⟨es, k, rfl, hd⟩ := io
  obtain ⟨f1, f2, f3, f4, f5⟩ := cls_facts C.w.params c hc
  exact PySem.W.get_own (attr := none) Fh (C.h₀.2 |> fun _ => (K.gnd.sys.inK)) (inst_of g gd) f1 f2 (f5 a) (by kernel_rfl) ((getL_ok a hd).trans (by rw [ha])) (handed ry hg) (P.here S.tok ry)
theorem vecOf_v {d : D} {q} (h : vecOf d = some q) : d = .vec q.1 q.2.1 q.2.2 := by
  cases d <;> first | exact noneE h | (cases Option.some.inj h; rfl)
theorem priv2 {c : Addr} (h : (Nat.beq c vecA || Nat.beq c matA) = true) : c ∈ [vecA, matA] := by
  rcases Bool.or_eq_true_iff.mp h with h | h
  · rw [Nat.eq_of_beq_eq_true h]; exact .head _
  · rw [Nat.eq_of_beq_eq_true h]; exact .tail _ (.head _)
theorem at_ok (S : St C Z as ρ μ s) (K : C.Ok n) {o v : V} {a : At} (e : atop μ o a = some v) {x : Value} (rx : VRep C.w Z as x o) {ex : Bool} {Q : Value → Shared → Prop} (P : Post C Z as ρ μ v Q) :
    wpAny (model pT C.w) C.A (getAttr x (sT a.name) ex) Q E s := by
  refine hold fun G out => Option.bind1 e fun v' h1 h2 => ite1 h2 fun hg h2 => Option.bind1 h1 fun p hs h3 => ?_
  rw [h2] at hg h3
  rcases p with ⟨_, _⟩ | _ | ⟨c, l⟩ | d
  · exact noneE h3
  · exact noneE h3
  ·
    by_cases hc : (Nat.beq c vecA || Nat.beq c matA) = true
    · have h4 := (if_pos hc).symm.trans h3
      rcases see_ok S.c rx hs with ⟨d, h, _⟩ | ⟨i, q, rfl, hp, hq, rfl, y⟩
      · cases h
      · obtain ⟨ne, g, od, lv, gd, io, al⟩ := y
        obtain ⟨z, hz, rz⟩ := aGet_ok a al h4
        exact out (own_at S K P (priv2 hc) g gd io hz rz hg)
    · exact noneE ((if_neg hc).symm.trans h3)
  ·
    refine Option.bind1 h3 fun q hq h1 => ?_
    have hq := vecOf_v hq
    subst hq
    cases see_ok' S.c rx hs with
    | vec ne z1 z2 rk ri ra =>
      have g := S.c.z _ _ z1
      obtain ⟨od, gd, b1, b2, io⟩ := S.c.z _ _ z2
      cases a with
      | kind => exact out (own_at S K P (.head _) g gd io rfl (Option.some.inj h1 ▸ rk) hg)
      | items => exact out (own_at S K P (.head _) g gd io rfl (Option.some.inj h1 ▸ ri) hg)
      | attrs => exact out (own_at S K P (.head _) g gd io rfl (Option.some.inj h1 ▸ ra) hg)
      | _ => exact noneE h1
/-- one own object changes, and the frame's own object may have moved in its namespace's bounds -/
theorem StC.setPE {w : World} {N : Nat} {Z : ZM} {G : GM} {ex : List Addr} {as : AS} {μ : Mu} {h h' : Heap} (S : StC w N Z G ex as μ h) {i : Nat} {p p' : P} {q : Addr × Addr} {x y : Addr} (hp : μ[i]? = some p) (hq : as[i]? = some q) (hx : x ∈ fpP p q) (hy : y ∈ ex) (hf : ∀ a ∈ fpP p' q, a ∈ fpP p q)
    (k : ∀ b o, b ≠ x → b ≠ y → h.get? b = some o → h'.get? b = some o) (al : ∃ o, h'.get? y = some o) (r : PRep w Z as h' p' q) : StC w N Z G ex as (μ.set i p') h' := by
  have e1 := S.exA y hy
  have ow := S.own i p q hp hq x hx
  refine ⟨fun a f e => (S.z a f e).keep fun o z => k a o (fun t => by rw [t, ow.1] at e; cases e) (fun t => by rw [t, e1.2.1] at e; cases e) z,
    fun a o e => (S.g a o e).keep fun _ q' => k _ _ (fun t => by rw [t, ow.2.1] at e; cases e) (fun t => by rw [t, e1.2.2] at e; cases e) q', S.vd, fun a m => ?_, by rw [List.length_set]; exact S.len, fun j p₁ q₁ a b => ?_, fun j p₁ q₁ a b c m => ?_, fun j l p₁ q₁ p₂ q₂ n a b a' b' c m m' => ?_⟩
  · obtain ⟨⟨o, e⟩, z⟩ := S.exA a m
    by_cases t : a = y
    · subst t; exact ⟨al, z⟩
    · exact ⟨⟨o, k _ _ (fun u => ow.2.2 (u ▸ m)) t e⟩, z⟩
  · rw [List.getElem?_set] at a
    by_cases e : i = j
    · subst e
      rw [if_pos rfl] at a
      split at a
      · cases a; rw [hq] at b; cases b; exact r
      · cases a
    · rw [if_neg e] at a
      exact (S.priv j p₁ q₁ a b).keep (.refl _) (List.prefix_refl _) fun c m o z => k _ _ (fun t => S.sep i j p q p₁ q₁ e hp hq a b x hx (t ▸ m)) (fun t => (S.own j p₁ q₁ a b c m).2.2 (t ▸ hy)) z
  · rw [List.getElem?_set] at a
    by_cases e : i = j
    · subst e
      rw [if_pos rfl] at a
      split at a
      · cases a; rw [hq] at b; cases b; exact S.own i p q hp hq c (hf c m)
      · cases a
    · rw [if_neg e] at a; exact S.own j p₁ q₁ a b c m
  · have red : ∀ {j : Nat} {p₁ : P} {q₁ : Addr × Addr}, (μ.set i p')[j]? = some p₁ → as[j]? = some q₁ → ∃ p₀, μ[j]? = some p₀ ∧ ∀ a ∈ fpP p₁ q₁, a ∈ fpP p₀ q₁ := by
      intro j p₁ q₁ a b
      rw [List.getElem?_set] at a
      by_cases e : i = j
      · subst e
        rw [if_pos rfl] at a
        split at a
        · cases a; rw [hq] at b; cases b; exact ⟨p, hp, hf⟩
        · cases a
      · rw [if_neg e] at a; exact ⟨p₁, a, fun _ m => m⟩
    obtain ⟨p₀, e₀, f₀⟩ := red a b
    obtain ⟨p₃, e₃, f₃⟩ := red a' b'
    exact S.sep j l p₀ q₁ p₃ q₂ n e₀ b e₃ b' c (f₀ c m) (f₃ c m')
theorem Loc.move {w : World} {Z : ZM} {as : AS} {L : Lay} {ρ : Ev} {h h' : Heap} {m : Str → Option Value} (l : Loc w Z as L ρ h) (y : ∀ (i : Nat) n v, L.pl i = some (.inl n) → ρ[i]? = some (some v) → ∃ x, m n = some x ∧ VRep w Z as x v) (hm : h'.Ns L.fr m)
    (k : ∀ b o, (b ∈ L.cs ∨ ∃ i, L.pl i = some (.inr b)) → h.get? b = some o → h'.get? b = some o) : Loc w Z as L ρ h' where
  ns := ⟨m, hm, y⟩
  cel i c v a b := by
    obtain ⟨x, ⟨o, e, d⟩, r⟩ := l.cel i c v a b
    exact ⟨x, ⟨o, k _ _ (.inr ⟨i, a⟩) e, d⟩, r⟩
  own c m := by
    obtain ⟨x, o, e, d⟩ := l.own c m
    exact ⟨x, o, k _ _ (.inl m) e, d⟩
theorem fm_sub {f : Nat → Option (Nat × Obj)} (hf : ∀ a p, f a = some p → p.1 = a) : ∀ l : List Nat, ((l.filterMap f).map (·.1)).Sublist l
  | [] => .slnil
  | a :: l => by
    rw [List.filterMap_cons]
    cases e : f a with
    | none => exact (fm_sub hf l).cons a
    | some p =>
      simp only [List.map_cons]
      rw [hf a p e]
      exact (fm_sub hf l).cons₂ a
theorem ledger_nodup (h₀ h : Heap) (L : Addr) : ((ledger h₀ h L).map (·.1)).Nodup := by
  refine List.Sublist.nodup (fm_sub (fun a p e => ?_) _) List.nodup_range
  split at e
  · split at e
    · cases e
    · cases e; rfl
  · cases e
theorem upd_of {d : Addr} {o o' : Obj} : ∀ {l : List (Addr × Obj)}, (d, o) ∈ l → (l.map (·.1)).Nodup → ∃ l', Upd d o o' l l' ∧ (d, o') ∈ l' ∧ ∀ p ∈ l, p.1 ≠ d → p ∈ l'
  | [], h, _ => by cases h
  | (a, x) :: l, h, nd => by
    rw [List.map_cons, List.nodup_cons] at nd
    by_cases q : a = d
    · subst q
      have hx : x = o := by
        rcases List.mem_cons.mp h with e | m
        · cases e; rfl
        · exact absurd (List.mem_map_of_mem (f := (·.1)) m) nd.1
      subst hx
      exact ⟨_, .head fun p m e => nd.1 (List.mem_map.mpr ⟨p, m, e⟩), .head _, fun p m ne => by
        rcases List.mem_cons.mp m with rfl | m
        · exact absurd rfl ne
        · exact .tail _ m⟩
    · rcases List.mem_cons.mp h with e | m
      · cases e; exact absurd rfl q
      · obtain ⟨l', u, a1, a2⟩ := upd_of m nd.2
        exact ⟨_, .tail q u, .tail _ a1, fun p m ne => by
          rcases List.mem_cons.mp m with rfl | m
          · exact .head _
          · exact .tail _ (a2 p m ne)⟩
theorem taker (P : Params) : ∀ c ∈ [vecA, matA], ∀ a : At, takerIn (kAll P) c (sT a.name) = some none := by
  intro c hc a
  obtain ⟨_, _, _, _, f5⟩ := cls_facts P c hc
  unfold takerIn
  rw [f5 a]; rfl
theorem aPutV_len (lv : List (At × Value)) (a : At) (v : Value) : (aPutV lv a v).length ≤ lv.length + 1 := by
  induction lv with
  | nil => simp [aPutV]
  | cons p l ih => obtain ⟨n, u⟩ := p; rw [aPutV]; split <;> simp; exact ih
/-- an attribute is set at an own thing -/
theorem set_core (S : St C Z as ρ μ s) (K : C.Ok n) {c ad dx : Addr} {lv : List (At × Value)} {od : Obj} {a : At} {y : Value} (hc : c ∈ [vecA, matA]) (g : s.heap.get? ad = some (instObj c dx)) (gd : s.heap.get? dx = some od) (io : InsO lv od) (hl : lv.length ≤ 900) (nL : dx ≠ C.L.fr) (nB : C.h₀.get? dx = none) {Q : Unit → Shared → Prop}
    (h : ∀ h' m od', (∀ b o, b ≠ dx → b ≠ C.L.fr → s.heap.get? b = some o → h'.get? b = some o) → h'.Ns C.L.fr m → (∀ (i : Nat) n v, C.L.pl i = some (.inl n) → ρ[i]? = some (some v) → ∃ x, m n = some x ∧ VRep C.w Z as x v) → h'.get? dx = some od' → InsO (aPutV lv a y) od' → Q () { s with heap := h', toks := s.toks + 2 }) :
    wpAny (model pT C.w) C.A (setAttr (.ref ad) (sT a.name) y) Q E s := by
  obtain ⟨es, k, rfl, hd⟩ := io
  obtain ⟨m, hm, yy⟩ := S.l.ns
  have Fh : Fr C.h₀ C.L.fr s.heap m := ⟨hm, S.base K, K.abv⟩
  have N := ledger_news C.h₀ s.heap C.L.fr
  obtain ⟨f1, f2, f3, f4, f5⟩ := cls_facts C.w.params c hc
  obtain ⟨l', u, m1, m2⟩ := upd_of (o' := dictOf (putL (sT a.name) (PyData.keyHash C.w.params (sT a.name)) (.str (sT a.name) (s.toks + 1)) y es) (putN (sT a.name) es k)) (mem_ledger.mpr ⟨gd, nL, nB⟩) (ledger_nodup C.h₀ s.heap C.L.fr)
  have len := InsD.two hd
  refine set_dict Fh K.gnd.sys.inK N (inst_of g gd) rfl f4 f3 (taker _ c hc a) f2 (by rw [getL_ok a hd]; rfl) rfl u ?_ fun h' F' N' => ?_
  · exact Nat.le_trans (putL_len _ _ _ _ es) (by lia)
  · refine h h' m _ (fun b o nd nl e => ?_) F'.ns yy (N' _ m1).1 ⟨_, _, rfl, putL_ok a y _ _ hd⟩
    cases q : C.h₀.get? b with
    | some o' => have := S.base K _ _ q; rw [e] at this; cases this; exact F'.keep _ _ q
    | none => exact (N' _ (m2 _ (mem_ledger.mpr ⟨e, nl, q⟩) nd)).1
theorem G_none {a : Addr} (K : C.Ok n) (h : C.G a = none) : C.h₀.get? a = none := by
  cases q : C.h₀.get? a with
  | none => rfl
  | some o => have := K.base _ _ q; rw [h] at this; cases this
theorem set_priv (S : St C Z as ρ μ s) (K : C.Ok n) {i : Nat} {c : Addr} {l : List (At × V)} (hi : μ[i]? = some (.ins c l)) (hc : c ∈ [vecA, matA]) (hl : l.length ≤ 900) {a : At} {v : V} {x y : Value} (rx : VRep C.w Z as x (.r i)) (ry : VRep C.w Z as y v) {Q : Unit → Shared → Prop}
    (h : ∀ s', St C Z as ρ (μ.set i (.ins c (aPut l a v))) s' → Q () s') : wpAny (model pT C.w) C.A (setAttr x (sT a.name) y) Q E s := by
  obtain ⟨q, hq, ne, g, od, lv, gd, io, al⟩ := S.c.vrep_alive hi
  cases vref rx hq
  have ow := S.c.own i _ q hi hq q.2 (by simp [fpP])
  have ow1 := S.c.own i _ q hi hq q.1 (by simp [fpP])
  refine set_core S K hc g gd io (by rw [al.1]; exact hl) (fun e => ow.2.2 (e ▸ .head _)) (G_none K ow.2.1) fun h' m od' kk hm yy g' io' => h _ ?_
  have al' := aPut_ok a ry al
  have pr : PRep C.w Z as h' (.ins c (aPut l a v)) q := ⟨ne, kk _ _ ne (fun e => ow1.2.2 (e ▸ .head _)) g, od', _, g', io', al'⟩
  refine ⟨S.c.setPE hi hq (x := q.2) (y := C.L.fr) (by simp [fpP]) (.head _) (fun _ m => m) kk (let ⟨o, _, _, e, _⟩ := hm; ⟨o, e⟩) pr, S.l.move yy hm fun b o m e => kk b o ?_ ?_ e, S.os, S.gens⟩
  · rintro rfl
    rcases m with m | ⟨j, e'⟩
    · exact ow.2.2 (.tail _ m)
    · rcases K.lay.cel j _ e' with m | ⟨o', g''⟩
      · exact ow.2.2 (.tail _ m)
      · rw [ow.2.1] at g''; cases g''
  · rintro rfl
    rcases m with m | ⟨j, e'⟩
    · exact (List.nodup_cons.mp K.lay.nd).1 m
    · rcases K.lay.cel j _ e' with m | ⟨o', g''⟩
      · exact (List.nodup_cons.mp K.lay.nd).1 m
      · have := (S.c.exA _ (.head _)).2.2; rw [this] at g''; cases g''
/-- a fixed Vector's flag -/
theorem set_flag (S : St C Z as ρ μ s) (K : C.Ok n) {k t u : D} {x : Value} {b : Bool} (rx : Rep C.w Z x (.vec k t u)) {Q : Unit → Shared → Prop}
    (h : ∀ s', St C Z as ρ μ s' → Q () s') : wpAny (model pT C.w) C.A (setAttr x (sT At.shared.name) (.bool b)) Q E s := by
  cases rx with
  | @vec a dx vk vi vt dk di dt ne z1 z2 rk ri ra =>
    have g := S.c.z _ _ z1
    obtain ⟨od, gd, b1, b2, io⟩ := S.c.z _ _ z2
    have nG := S.c.vd _ _ z2
    have nL : dx ≠ C.L.fr := fun e => by have := (S.c.exA _ (.head _)).2.1; rw [← e, z2] at this; cases this
    refine set_core (lv := [(.kind, vk), (.items, vi), (.attrs, vt), (.shared, .bool b1), (.loose, .bool b2)]) S K (by simp) g gd io (by simp) nL (G_none K nG) fun h' m od' kk hm yy g' io' => h _ ?_
    have vd' : VecD vk vi vt od' := ⟨b, b2, by simpa [aPutV] using io'⟩
    have nC : ∀ b, (b ∈ C.L.cs ∨ ∃ i, C.L.pl i = some (.inr b)) → b ≠ dx ∧ b ≠ C.L.fr := by
      intro b m
      constructor
      · rintro rfl
        rcases m with m | ⟨j, e'⟩
        · have := (S.c.exA _ (.tail _ m)).2.1; rw [z2] at this; cases this
        · rcases K.lay.cel j _ e' with m | ⟨o', g''⟩
          · have := (S.c.exA _ (.tail _ m)).2.1; rw [z2] at this; cases this
          · rw [nG] at g''; cases g''
      · rintro rfl
        rcases m with m | ⟨j, e'⟩
        · exact (List.nodup_cons.mp K.lay.nd).1 m
        · rcases K.lay.cel j _ e' with m | ⟨o', g''⟩
          · exact (List.nodup_cons.mp K.lay.nd).1 m
          · have := (S.c.exA _ (.head _)).2.2; rw [this] at g''; cases g''
    have ef := S.c.exA _ (List.Mem.head (a := C.L.fr) C.L.cs)
    refine ⟨⟨fun a f e => ?_, fun a o e => (S.c.g a o e).keep fun _ q' => kk _ _ (fun t => by rw [t, nG] at e; cases e) (fun t => by rw [t, ef.2.2] at e; cases e) q', S.c.vd, fun a m => ?_, S.c.len, fun i p q x y => ?_, S.c.own, S.c.sep⟩, S.l.move yy hm fun b o m e => kk b o (nC b m).1 (nC b m).2 e, S.os, S.gens⟩
    · by_cases q : a = dx
      · subst q; rw [z2] at e; cases e; exact ⟨od', g', vd'⟩
      · exact (S.c.z a f e).keep fun o y => kk a o q (fun t => by rw [t, ef.2.1] at e; cases e) y
    · obtain ⟨⟨o, e⟩, z, z'⟩ := S.c.exA a m
      refine ⟨?_, z, z'⟩
      by_cases q : a = C.L.fr
      · subst q; exact let ⟨o, _, _, e, _⟩ := hm; ⟨o, e⟩
      · exact ⟨o, kk _ _ (fun t => by rw [t, z2] at z; cases z) q e⟩
    · exact (S.c.priv i p q x y).keep (.refl _) (List.prefix_refl _) fun c m o e => kk _ _ (fun t => by have := (S.c.own i p q x y c m).1; rw [t, z2] at this; cases this) (fun t => (S.c.own i p q x y c m).2.2 (t ▸ .head _)) e
end
section
variable {F : Fn} {n : Nat} {C : Cx} {Z : ZM} {as : AS} {ρ : Ev} {μ : Mu} {s : Shared} {E : Value → Shared → Prop}
theorem subscr_ne {slice : Expr} (h : ∀ a b p, slice ≠ .Slice a b none p) (o i : Value) : subscripted slice false o i = operate [o, i] (getItem o i) := by
  cases slice
  case Slice a b c p =>
    rcases c with _ | _
    · exact absurd rfl (h _ _ _)
    · rfl
  all_goals rfl
theorem seqIndex_lt {i : Int} {l k : Nat} (h : seqIndex? i l = some k) : ((0 ≤ i ∧ k = i.toNat) ∨ (i < 0 ∧ -(l : Int) ≤ i ∧ k = (i + l).toNat)) := by
  unfold seqIndex? at h
  dsimp only at h
  by_cases q : i < 0
  · simp only [q, if_true] at h
    split at h
    · rename_i hb
      simp only [Bool.and_eq_true, decide_eq_true_eq] at hb
      injection h with h
      right; lia
    · cases h
  · simp only [q, if_false] at h
    split at h
    · rename_i hb
      injection h with h
      left; lia
    · cases h
theorem ix_ok (S : St C Z as ρ μ s) (K : C.Ok n) {o i v : V} (e : ixop μ o i = some v) {x y : Value} (rx : VRep C.w Z as x o) (ry : VRep C.w Z as y i) {value slice : Expr} (hs : ∀ a b p, slice ≠ .Slice a b none p) {Q : Value → Shared → Prop} (P : Post C Z as ρ μ v Q) :
    wpAny (model pT C.w) C.A (subscriptTail value slice x y) Q E s := by
  refine hold fun G out => ?_
  unfold ixop at e
  generalize hi : toI i = c at e
  rcases c with _ | i'
  ·
    refine Option.bind1 e fun k hk e => Option.bind1 e fun es hes hv => ?_
    obtain ⟨a, ob, kvs, rfl, ns, g, hd, r⟩ := asDict_ok S.c rx hes
    obtain ⟨t, rfl⟩ := vstr (toT_v hk ▸ ry)
    have T := MapAt g hd
    rcases dGet_ok (k := k) r with ⟨h1, h2⟩ | ⟨u, w, h1, h2, h3⟩
    · exact noneE (h1.symm.trans hv)
    · exact out (tail_any T.typeIs slot_dict_getitem.lookup (wpAny_getItem_of (strKind_is _ _ _ _) T.mapOf h2 (P.here S.tok (Option.some.inj (h1.symm.trans hv) ▸ h3))) (subscr_ne hs _ _))
  ·
    by_cases ht : tiny i' = true
    · refine Option.map1 ((if_pos ht).symm.trans e) fun d h1 e => Option.bind1 h1 fun l hl h2 => Option.bind1 h2 fun k hk hd => ?_
      subst e
      obtain ⟨t1, t2⟩ := tiny_le ht
      obtain ⟨a, ob, vs, nn, rfl, g, hc, hdt, r1⟩ := asSeq_ok S.c rx hl
      obtain ⟨t, rfl⟩ := vint (toI_v hi ▸ ry)
      obtain ⟨z, hz, rz⟩ := r1.get hd
      have hz' : (List.toArray vs)[k]? = some z := by rw [List.getElem?_toArray]; exact hz
      have hsz : (List.toArray vs).size = l.length := by rw [List.size_toArray, r1.1]
      rcases hc with hc | hc
      · have hl' : s.heap.IsList a (List.toArray vs) := ⟨ob, g, hc, nn, hdt⟩
        refine out (tail_any hl'.typeIs slot_list_getitem.lookup ?_ (subscr_ne hs _ _))
        rcases seqIndex_lt hk with ⟨h0, rfl⟩ | ⟨h0, h1, rfl⟩
        · exact wpAny_getItem_list hl' h0 (by lia) hz' (P.here S rz)
        · exact wpAny_getItem_list_neg hl' h0 (by rw [hsz]; exact h1) (by lia) (by rw [hsz]; exact hz') (P.here S rz)
      · have hl' : IsTup s.heap a (List.toArray vs) := ⟨ob, g, hc, nn, hdt⟩
        exact out (tail_any hl'.typeIs slot_tuple_getitem.lookup (getItem_tuple hl' (by lia) (by lia) (by rw [hsz]; exact hk) hz' (P.here S rz)) (subscr_ne hs _ _))
    · exact noneE ((if_neg ht).symm.trans e)
theorem pick_upto (vs : List Value) {y : Int} (h : 0 ≤ y) : slicePick vs.toArray none (some y) none = (vs.take y.toNat).toArray := by
  have e : sliceBounds none (some y) none vs.toArray.size = (((0 : Nat) : Int), ((min y.toNat vs.toArray.size : Nat) : Int), 1) := by
    simp only [sliceBounds, Option.getD_none, show (1 : Int) > 0 by decide, if_true, if_neg (show ¬ (y < 0) by lia)]
    congr 1
    congr 1
    lia
  rw [kmk_pick_nat _ e]
  show ((vs.drop 0).take (min y.toNat vs.toArray.size - 0)).toArray = _
  rw [List.drop_zero, Nat.sub_zero, List.size_toArray, kmk_take_min]
theorem pick_from (vs : List Value) {x : Int} (h : 0 ≤ x) : slicePick vs.toArray (some x) none none = (vs.drop x.toNat).toArray := by
  have e : sliceBounds (some x) none none vs.toArray.size = (((min x.toNat vs.toArray.size : Nat) : Int), ((vs.toArray.size : Nat) : Int), 1) := by
    simp only [sliceBounds, Option.getD_none, show (1 : Int) > 0 by decide, if_true, if_neg (show ¬ (x < 0) by lia)]
    congr 1
    lia
  rw [kmk_pick_nat _ e]
  show ((vs.drop (min x.toNat vs.toArray.size)).take (vs.toArray.size - min x.toNat vs.toArray.size)).toArray = _
  rw [List.size_toArray]
  congr 1
  rw [List.take_of_length_le (by rw [List.length_drop]; exact Nat.le_refl _)]
  by_cases q : x.toNat ≤ vs.length
  · rw [Nat.min_eq_left q]
  · rw [Nat.min_eq_right (by lia), List.drop_of_length_le (Nat.le_refl _), List.drop_of_length_le (by lia)]
theorem evO_ok (SX : SoundX F n) {k : Nat} (K : C.Ok n) {o : Option Expr} {v : Option V} {μ μ' : Mu} (e : evO F ρ μ (o.map (compE k C.vis C.sc)) = .ok (v, μ')) {Z : ZM} {as : AS} {s : Shared} {Q : Value → Shared → Prop} (S : St C Z as ρ μ s)
    (P : ∀ Z' as' s' x, ZLe Z Z' → as <+: as' → St C Z' as' ρ μ' s' → (match v with | none => x = Value.none | some v => VRep C.w Z' as' x v) → Q x s') : wpAny (model pT C.w) C.A (evalPart o C.env) Q E s := by
  rcases o with _ | x
  ·
    simp only [Option.map_none, evO] at e
    cases e
    exact wpAny_pure (P _ _ _ _ (.refl _) (List.prefix_refl _) S rfl)
  ·
    simp only [Option.map_some, evO] at e
    refine Res.bind2 e fun v' μ₁ e1 e2 => ?_
    cases e2
    exact SX k x C ρ μ v' μ₁ e1 K Z as s Q E S fun Z' as' s' y l p S' r => P Z' as' s' y l p S' r
theorem letTemp_nm {o : Expr} (h : isNm o = true) : ∀ a b, letTemporaryGo o a b = pure () := by
  cases o <;> first | (intro _ _; rfl) | cases h
theorem slop_inv {o : V} {lo hi : Option V} {r : V × Mu} (e : slop μ o lo hi = .ok r) : ∃ l, asArr μ o = some l ∧ l.length ≤ 1000000 ∧
    ((∃ b, lo = none ∧ hi = some (.c (.int b)) ∧ 0 ≤ b ∧ newL μ (l.take b.toNat) = .ok r) ∨ ∃ b, hi = none ∧ lo = some (.c (.int b)) ∧ 0 ≤ b ∧ newL μ (l.drop b.toNat) = .ok r) := by
  refine optR e fun l hl e => ?_
  rcases hi with _ | h
  · exact optR e fun b hb e => iteR e fun hc e => and2 hc fun h1 h2 => Option.bind1 hb fun a ha hb => ⟨l, hl, fits_le h2, .inr ⟨b, rfl, ha.trans (congrArg some (toI_v hb)), of_decide_eq_true h1, e⟩⟩
  · exact optR e fun b hb e => iteR e fun hc e => and2 hc fun h0 hc => and2 hc fun h1 h2 => ⟨l, hl, fits_le h2, .inl ⟨b, Option.isNone_iff_eq_none.mp h0, congrArg some (toI_v hb), of_decide_eq_true h1, e⟩⟩
theorem sl_ok (SX : SoundX F n) {k : Nat} (K : C.Ok n) {o : Expr} {lo hi : Option Expr} {p pos : Pos} (hn : isNm o = true) {v x : V} {l h : Option V} {μ₁ μ₂ μ₃ μ' : Mu}
    (e1 : F.x ρ μ (compE k C.vis C.sc o) = .ok (x, μ₁)) (e3 : evO F ρ μ₁ (lo.map (compE k C.vis C.sc)) = .ok (l, μ₂)) (e5 : evO F ρ μ₂ (hi.map (compE k C.vis C.sc)) = .ok (h, μ₃)) (e6 : slop μ₃ x l h = .ok (v, μ')) {Q : Value → Shared → Prop} (S : St C Z as ρ μ s) (P : Post C Z as ρ μ' v Q) :
    wpAny (model pT C.w) C.A (eval (.Subscript o (.Slice lo hi none p) pos) C.env) Q E s := by
  refine wpAny_Subscript_list_slice (SX k o C ρ μ x μ₁ e1 K Z as s _ E S fun Z₁ as₁ s₁ vx l₁ p₁ S₁ r₁ => evO_ok SX K e3 S₁ fun Z₂ as₂ s₂ vl l₂ p₂ S₂ r₂ => evO_ok SX K e5 S₂ fun Z₃ as₃ s₃ vh l₃ p₃ S₃ r₃ => ?_) (letTemp_nm hn)
  have rx := r₁.mono (l₂.trans l₃) (p₂.trans p₃)
  have P3 := P.up ((l₁.trans l₂).trans l₃) ((p₁.trans p₂).trans p₃)
  have fr : s₃.heap.get? (s₃.heap.objs.size + 1) = none := by
    cases q : s₃.heap.get? (s₃.heap.objs.size + 1) with
    | none => rfl
    | some o => exact absurd (Heap.lt_size q) (Nat.not_lt.mpr (Nat.le_succ _))
  obtain ⟨ll, hl, hz, h6⟩ := slop_inv e6
  obtain ⟨a, vs, rfl, g, r⟩ := asArr_ok S₃.c rx hl
  have hz' : (List.toArray vs).size ≤ sizeLine := by rw [List.size_toArray, r.1]; exact Nat.le_trans hz sizeLine_big
  have at_end : ∀ (o1 o2 : Obj), o2.isFreed = false → ((s₃.heap.push o1).push o2).get? (s₃.heap.objs.size + 1) = some o2 := fun o1 o2 hf => by
    have := Heap.get?_push_size (s₃.heap.push o1) (o := o2) hf
    rwa [Heap.size_push] at this
  rcases h6 with ⟨b, rfl, rfl, hb, e7⟩ | ⟨b, rfl, rfl, hb, e7⟩
  · obtain ⟨t, rfl⟩ := vint r₃
    have r₂ : vl = .none := r₂
    subst r₂
    refine ⟨a, List.toArray vs, none, some b, rfl, g, hz', .none, .int _ _, ?_⟩
    rw [pick_upto vs hb]
    exact newL_ok (tk := s₃.toks) e7 S₃ (r.take _) (fun c o e => Heap.get?_push_of_some _ (Heap.get?_push_of_some _ e)) fr (at_end _ _ rfl) P3
  · obtain ⟨t, rfl⟩ := vint r₂
    have r₃ : vh = .none := r₃
    subst r₃
    refine ⟨a, List.toArray vs, some b, none, rfl, g, hz', .int _ _, .none, ?_⟩
    rw [pick_from vs hb]
    exact newL_ok (tk := s₃.toks) e7 S₃ (r.drop _) (fun c o e => Heap.get?_push_of_some _ (Heap.get?_push_of_some _ e)) fr (at_end _ _ rfl) P3
/-! ### texts with places -/
theorem strE_v {e : Expr} {st : Str} (h : strE e = some st) : ∃ k p, e = .Constant (.str st) k p := by
  induction e using PySem.Expr.casesOn <;> first | exact noneE h | skip
  rename_i c k p
  cases c <;> first | exact noneE h | exact ⟨k, p, congrArg (fun s => Expr.Constant (.str s) k p) (Option.some.inj h)⟩
theorem fmtE_v {e x : Expr} (h : fmtE e = some x) : ∃ p, e = .FormattedValue x (-1) none p := by
  induction e using PySem.Expr.casesOn <;> first | exact noneE h | skip
  refine ite1 h fun hc h => and2 hc fun h1 h2 => ?_
  rw [of_decide_eq_true h1, Option.isNone_iff_eq_none.mp h2, h]
  exact ⟨_, rfl⟩
theorem fs_ok (SX : SoundX F n) (bad : BadX F) {k : Nat} (K : C.Ok n) : ∀ (l : List Expr) (μ : Mu) (t : T) (μ' : Mu), evF F ρ μ (l.map (cF (compE k C.vis C.sc))) = .ok (t, μ') → ∀ Z as s (acc : T) (Q : Str → Shared → Prop) E, acc.length + t.length ≤ 1000 → St C Z as ρ μ s → (∀ Z' as' s', ZLe Z Z' → as <+: as' → St C Z' as' ρ μ' s' → Q (sT (acc ++ t)) s') →
      Joins (model pT C.w) C.A E (evalEach l C.env) (sT acc) Q s
  | [], μ, t, μ', e, Z, as, s, acc, Q, E, hl, S, P => by
    simp only [List.map_nil, evF] at e; cases e
    have := P _ _ _ (.refl _) (List.prefix_refl _) S
    rw [List.append_nil] at this
    exact this
  | x :: l, μ, t, μ', e, Z, as, s, acc, Q, E, hl, S, P => by
    rw [List.map_cons] at e
    unfold cF at e
    generalize hs : strE x = c at e
    rcases c with _ | st
    ·
      dsimp only at e
      generalize hf : fmtE x = c at e
      rcases c with _ | x'
      ·
        dsimp only at e
        rw [evF] at e
        exact Res.bind2 e fun v μ₁ e1 e2 => absurd e1 (bad _ _ _)
      ·
        obtain ⟨p', rfl⟩ := fmtE_v hf
        dsimp only at e
        rw [evF] at e
        refine Res.bind2 e fun v μ₁ e1 e2 => optR e2 fun tv htv e2 => Res.bind2 e2 fun u μ₂ e3 e4 => ?_
        cases e4
        rw [List.length_append] at hl
        show wpAny _ _ (eval (.FormattedValue x' (-1) none p') C.env) _ _ _
        refine wpAny_FormattedValue_plain (SX k x' C ρ μ v μ₁ e1 K Z as s _ E S fun Z₁ as₁ s₁ vx l₁ p₁ S₁ r₁ => ?_)
        have fin : ∀ t' k', ∃ y tt, Value.str (sT tv) t' = .str y tt ∧ (sT acc ++ y).length ≤ sizeLine ∧ Joins (model pT C.w) C.A E (evalEach l C.env) (sT acc ++ y) Q { s₁ with toks := k' } := fun t' k' => by
          refine ⟨sT tv, t', rfl, ?_, ?_⟩
          · rw [sT_app, sT_len, List.length_append, sizeLine_eq]; lia
          · rw [sT_app]
            refine fs_ok SX bad K l μ₁ u _ e3 Z₁ as₁ _ _ Q E (by rw [List.length_append]; lia) S₁.tok fun Z' as' s' l p S' => ?_
            rw [List.append_assoc]
            exact P Z' as' s' (l₁.trans l) (p₁.trans p) S'
        unfold txtV at htv
        generalize hi : toI v = c at htv
        rcases c with _ | i
        ·
          obtain ⟨tt, rfl⟩ := vstr (toT_v htv ▸ r₁)
          exact wpAny_formatField_str (fin _ _) (fin _ _) (by rw [sT_len, sizeLine_eq]; lia)
        ·
          obtain ⟨tt, rfl⟩ := vint (toI_v hi ▸ r₁)
          obtain ⟨a, b, c⟩ := intT_ok htv
          refine wpAny_formatField_int b ?_
          rw [show ((toString _ : String) : Str) = sT tv from a]
          exact fin _ _
    ·
      obtain ⟨k', p', rfl⟩ := strE_v hs
      dsimp only at e
      rw [evF] at e
      refine Res.bind2 e fun u μ₁ e1 e2 => ?_
      cases e2
      rw [List.length_append] at hl
      have hst : st = sT st.cps.toList := rfl
      show wpAny _ _ (eval (.Constant (.str st) k' p') C.env) _ _ _
      refine wpAny_Constant_str ⟨st, _, rfl, ?_, ?_⟩
      · rw [hst, sT_app, sT_len, List.length_append, sizeLine_eq]; lia
      · rw [hst, sT_app]
        refine fs_ok SX bad K l μ u _ e1 Z as _ _ Q E (by rw [List.length_append]; lia) S.tok fun Z' as' s' l p S' => ?_
        rw [List.append_assoc]
        exact P Z' as' s' l p S'
end
/-- what holds around a call -/
structure Bx where
  w : World
  mg : Str → Option Value
  mb : Str → Option Value
  h₀ : Heap
  os : OsState
  G : GM
  A : Around
  Fs : List Env
structure Bx.Ok (B : Bx) (n : Nat) : Prop where
  gnd : Gnd B.w B.mg B.mb B.h₀
  base : ∀ b o, B.h₀.get? b = some o → B.G b = some o
  ao : AOk n B.A
  frs : B.A.frames = some B.Fs
  fok : ∀ e ∈ B.Fs, e.scope.kind ≠ .module ∧ ∃ L o, e.frame = some L ∧ B.h₀.get? L = none ∧ B.G L = some o ∧ (∀ vs, o.data ≠ .fields vs) ∧ o.slots = MARK ∧ B.h₀.objs.size ≤ L
structure Sc (B : Bx) (Z : ZM) (as : AS) (μ : Mu) (s : Shared) : Prop where
  c : StC B.w B.h₀.objs.size Z B.G [] as μ s.heap
  os : s.os = B.os
  gens : s.gens = #[]
noncomputable def PostC (B : Bx) (Z : ZM) (as : AS) (μ' : Mu) (v : V) (R : Result → Shared → Prop) : Prop := ∀ Z' as' s' x, ZLe Z Z' → as <+: as' → Sc B Z' as' μ' s' → VRep B.w Z' as' x v → R (.ok (.ret x)) s'
noncomputable def SoundC (F : Fn) (n : Nat) : Prop := ∀ f vs μ v μ', F.call f vs μ = .ok (v, μ') → ∀ B, Bx.Ok B n → ∀ Z as s vals, Sc B Z as μ s → B.h₀.objs.size ≤ s.heap.objs.size → AlR (VRep B.w Z as) vals vs → ∀ R, PostC B Z as μ' v R →
  codeAny (model pT B.w) B.A (.call (.ref f) ⟨vals, []⟩) R s
noncomputable def markO (o : Obj) : Obj := { o with slots := MARK }
/-- the places of l are guarded from now on; of the frame's object fr the slots are free -/
noncomputable def guardG (G : GM) (h : Heap) (l : List Addr) (fr : Addr) : GM := fun a => if a ∈ l then (if a = fr then (h.get? a).map markO else h.get? a) else G a
noncomputable def Cx.bx (C : Cx) (h : Heap) (l : List Addr) : Bx := ⟨C.w, C.mg, C.mb, C.h₀, C.os, guardG C.G h l C.L.fr, C.A, C.Fs⟩
section
variable {F : Fn} {n : Nat} {C : Cx} {Z Z' : ZM} {as as' : AS} {ρ : Ev} {μ μ' : Mu} {s s' : Shared} {E : Value → Shared → Prop}
theorem guard_in {G : GM} {h : Heap} {l : List Addr} {a fr : Addr} (m : a ∈ l) (n : a ≠ fr) : guardG G h l fr a = h.get? a := by
  unfold guardG
  rw [if_pos m, if_neg n]
theorem guard_fr {G : GM} {h : Heap} {l : List Addr} {fr : Addr} (m : fr ∈ l) {o : Obj} (e : h.get? fr = some o) : guardG G h l fr fr = some (markO o) := by
  unfold guardG
  rw [if_pos m, if_pos rfl, e]; rfl
theorem guard_none {G : GM} {h : Heap} {l : List Addr} {a fr : Addr} (m : a ∈ l) (e : guardG G h l fr a = none) : h.get? a = none := by
  unfold guardG at e
  rw [if_pos m] at e
  split at e
  · exact Option.map_eq_none_iff.mp e
  · exact e
theorem guard_some {G : GM} {h : Heap} {l : List Addr} {a fr : Addr} (m : a ∈ l) {o : Obj} (e : h.get? a = some o) : ∃ o', guardG G h l fr a = some o' ∧ ∃ sl, o' = { o with slots := sl } := by
  unfold guardG
  rw [if_pos m]
  split
  · exact ⟨markO o, by rw [e]; rfl, MARK, rfl⟩
  · exact ⟨o, e, o.slots, rfl⟩
theorem guard_out {G : GM} {h : Heap} {l : List Addr} {a fr : Addr} (m : a ∉ l) : guardG G h l fr a = G a := if_neg m
theorem guard_keep {h : Heap} {l : List Addr} {fr : Addr} (hl : ∀ a ∈ l, C.G a = none) {a : Addr} {o : Obj} (g : C.G a = some o) : guardG C.G h l fr a = some o := by
  by_cases m : a ∈ l
  · rw [hl a m] at g; cases g
  · rw [guard_out m]; exact g
theorem St.gEx (S : St C Z as ρ μ s) : ∀ a ∈ C.L.fr :: C.L.cs, C.G a = none := fun a m => (S.c.exA a m).2.2
theorem guard_get (S : St C Z as ρ μ s) {l : List Addr} {fr : Addr} (hf : fr ∈ l → C.h₀.objs.size ≤ fr) {a : Addr} {o : Obj} (g : guardG C.G s.heap l fr a = some o) : GEq C.h₀.objs.size a o (s.heap.get? a) := by
  by_cases m : a ∈ l
  · by_cases n : a = fr
    · subst n
      unfold guardG at g
      rw [if_pos m, if_pos rfl] at g
      obtain ⟨o', e, rfl⟩ := Option.map_eq_some_iff.mp g
      exact .inr ⟨hf m, rfl, o'.slots, e⟩
    · rw [guard_in m n] at g; exact .inl g
  · rw [guard_out m] at g; exact S.c.g a o g
theorem bx_ok (S : St C Z as ρ μ s) (K : C.Ok n) {l : List Addr} (hl : C.L.fr ∈ l) (hg : ∀ a ∈ l, C.G a = none) : (C.bx s.heap l).Ok n where
  gnd := K.gnd
  base b o e := guard_keep hg (K.base b o e)
  ao := K.ao
  frs := K.frs
  fok e m := by
    obtain ⟨k, L, h1, h2, h3⟩ := K.fok e m
    refine ⟨k, L, ?_⟩
    rcases h3 with rfl | ⟨o, h3, h4⟩
    · obtain ⟨m, ⟨o, es, ep, ho, hd, _⟩, _⟩ := S.l.ns
      exact ⟨markO o, h1, h2, guard_fr hl ho, fun vs q => (by have q : o.data = _ := q; rw [hd] at q; cases q), rfl, K.abv⟩
    · exact ⟨o, h1, h2, guard_keep hg h3, h4⟩
theorem St.sz (S : St C Z as ρ μ s) (K : C.Ok n) : C.h₀.objs.size ≤ s.heap.objs.size := let ⟨o, e⟩ := S.frAlive; Nat.le_trans K.abv (Nat.le_of_lt (Heap.lt_size e))
theorem enterM (S : St C Z as ρ μ s) (K : C.Ok n) : Sc (C.bx s.heap (C.L.fr :: C.L.cs)) Z as μ s where
  c := ⟨S.c.z, fun a o e => guard_get S (fun _ => K.abv) e, fun a f e => by
      show guardG _ _ _ _ _ = _
      have : a ∉ C.L.fr :: C.L.cs := fun m => by rw [(S.c.exA a m).2.1] at e; cases e
      rw [guard_out this]; exact S.c.vd a f e, fun a m => (nomatch m), S.c.len, S.c.priv, fun i p q x y a m => by
      have o := S.c.own i p q x y a m
      exact ⟨o.1, by show guardG _ _ _ _ _ = _; rw [guard_out o.2.2]; exact o.2.1, by simp⟩, S.c.sep⟩
  os := S.os
  gens := S.gens
/-- the caller's own places are as they were -/
theorem leave_loc (S : St C Z as ρ μ s) (K : C.Ok n) {l : List Addr} (hl : ∀ a ∈ C.L.fr :: C.L.cs, a ∈ l) (hg : ∀ a ∈ l, C.G a = none) (z : ZLe Z Z') (p : as <+: as') {a2 : AS} {m2 : Mu} (S' : Sc (C.bx s.heap l) Z' a2 m2 s') : Loc C.w Z' as' C.L ρ s'.heap := by
  refine S.l.monoS z p fun b m o e => ?_
  have key : ∃ o', guardG C.G s.heap l C.L.fr b = some o' ∧ ∃ sl, o' = { o with slots := sl } := by
    rcases m with rfl | m | ⟨i, q⟩
    · exact guard_some (hl _ (.head _)) e
    · exact guard_some (hl _ (.tail _ m)) e
    · rcases K.lay.cel i b q with m | ⟨o', g⟩
      · exact guard_some (hl _ (.tail _ m)) e
      · obtain ⟨sl, this⟩ := (S.c.g _ _ g).to
        rw [e] at this
        have this := Option.some.inj this
        refine ⟨o', guard_keep hg g, o'.slots, ?_⟩
        rw [this]
  obtain ⟨o', h1, sl, rfl⟩ := key
  obtain ⟨sl', h2⟩ := (S'.c.g b _ h1).to
  exact ⟨sl', h2⟩
theorem leave_ex (S : St C Z as ρ μ s) {l : List Addr} {a2 : AS} {m2 : Mu} (S' : Sc (C.bx s.heap l) Z' a2 m2 s') {a : Addr} (hl : a ∈ l) {o : Obj} (e : s.heap.get? a = some o) : (a ≠ C.L.fr → GEq C.h₀.objs.size a o (s'.heap.get? a)) ∧ (∃ o', s'.heap.get? a = some o') ∧ Z' a = none := by
  obtain ⟨o', g, sl, rfl⟩ := guard_some (G := C.G) (fr := C.L.fr) hl e
  refine ⟨fun n => ?_, ?_, ?_⟩
  · have g' : guardG C.G s.heap l C.L.fr a = some o := (guard_in hl n).trans e
    exact S'.c.g a o g'
  · obtain ⟨sl', e'⟩ := (S'.c.g a _ g).to
    exact ⟨_, e'⟩
  · cases q : Z' a with
    | none => rfl
    | some f => have := S'.c.vd a f q; rw [show (C.bx s.heap l).G a = guardG C.G s.heap l C.L.fr a from rfl, g] at this; cases this
theorem leaveM (S : St C Z as ρ μ s) (K : C.Ok n) (z : ZLe Z Z') (p : as <+: as') (S' : Sc (C.bx s.heap (C.L.fr :: C.L.cs)) Z' as' μ' s') : St C Z' as' ρ μ' s' where
  c := by
    have out : ∀ {a}, guardG C.G s.heap (C.L.fr :: C.L.cs) C.L.fr a = none → a ∉ C.L.fr :: C.L.cs ∧ C.G a = none := fun {a} h => by
      by_cases m : a ∈ C.L.fr :: C.L.cs
      · obtain ⟨⟨o, e⟩, _⟩ := S.c.exA a m
        rw [guard_none m h] at e; cases e
      · rw [guard_out m] at h; exact ⟨m, h⟩
    refine ⟨S'.c.z, fun a o e => S'.c.g a o (guard_keep S.gEx e), fun a f e => (out (S'.c.vd a f e)).2, fun a m => ?_, S'.c.len, S'.c.priv, fun i p q x y a m => ?_, S'.c.sep⟩
    · obtain ⟨⟨o, e⟩, _, g⟩ := S.c.exA a m
      obtain ⟨_, e', z'⟩ := leave_ex S S' m e
      exact ⟨e', z', g⟩
    · have ow := S'.c.own i p q x y a m
      exact ⟨ow.1, (out ow.2.1).2, (out ow.2.1).1⟩
  l := leave_loc S K (fun _ m => m) S.gEx z p S'
  os := S'.os
  gens := S'.gens
noncomputable def allFp (μ : Mu) (as : AS) : List Addr := (μ.zip as).flatMap fun x => fpP x.1 x.2
theorem mem_allFp {μ : Mu} {as : AS} {a : Addr} : a ∈ allFp μ as ↔ ∃ (i : Nat) (p : P) (q : Addr × Addr), μ[i]? = some p ∧ as[i]? = some q ∧ a ∈ fpP p q := by
  unfold allFp
  rw [List.mem_flatMap]
  constructor
  · rintro ⟨⟨p, q⟩, h, m⟩
    obtain ⟨i, hi⟩ := List.mem_iff_getElem?.mp h
    obtain ⟨h1, h2⟩ := List.getElem?_zip_eq_some.mp hi
    exact ⟨i, p, q, h1, h2, m⟩
  · rintro ⟨i, p, q, h1, h2, m⟩
    exact ⟨(p, q), List.mem_iff_getElem?.mpr ⟨i, List.getElem?_zip_eq_some.mpr ⟨h1, h2⟩⟩, m⟩
noncomputable def Cx.lP (C : Cx) (μ : Mu) (as : AS) : List Addr := (C.L.fr :: C.L.cs) ++ allFp μ as
theorem St.gP (S : St C Z as ρ μ s) : ∀ a ∈ C.lP μ as, C.G a = none := fun a m => by
  rcases List.mem_append.mp m with m | m
  · exact S.gEx a m
  · obtain ⟨i, p, q, x, y, m⟩ := mem_allFp.mp m
    exact (S.c.own i p q x y a m).2.1
/-- own objects are no marked frames -/
theorem PRep.keepG {w : World} {Z Z' : ZM} {as : AS} {h h' : Heap} {p : P} {q : Addr × Addr} {N : Nat} (x : PRep w Z as h p q) (z : ZLe Z Z') (k : ∀ a ∈ fpP p q, ∀ o, h.get? a = some o → GEq N a o (h'.get? a)) : PRep w Z' as h' p q := by
  have hM : (#[] : Array (Option Value)) ≠ MARK := by unfold MARK; simp
  rcases p with ⟨pl, ds⟩ | es | ⟨C, l⟩ | d
  ·
    obtain ⟨o, vs, n, a, b, c, d, e⟩ := x
    have g := k _ (by simp [fpP]) _ a
    rcases pl with _ | _
    ·
      obtain ⟨sl, g⟩ := g.to
      exact ⟨_, vs, n, g, b, (fun q => by cases q), d, e.mono fun _ _ r => r.mono z⟩
    ·
      have c' := c rfl
      exact ⟨o, vs, n, g.noM (by rw [c'.2]; exact hM), b, c, d, e.mono fun _ _ r => r.mono z⟩
  ·
    obtain ⟨ns, o, vs, a, b, e⟩ := x
    have g := k _ (by simp [fpP]) _ a
    obtain ⟨es', ep, hx, r⟩ := id b
    exact ⟨ns, o, vs, g.noM (by rw [hx.2.2]; exact hM), b, e.mono fun _ _ r => ⟨r.1, r.2.mono z (List.prefix_refl _)⟩⟩
  ·
    obtain ⟨n, a, o, lv, b, c, e⟩ := x
    have g1 := k _ (by simp [fpP]) _ a
    have g2 := k _ (by simp [fpP]) _ b
    obtain ⟨es, m, rfl, c'⟩ := id c
    exact ⟨n, g1.noM hM, _, lv, g2.noM hM, c, e.mono fun _ _ r => ⟨r.1, r.2.mono z (List.prefix_refl _)⟩⟩
  · exact Rep.mono z x
theorem enterP (S : St C Z as ρ μ s) (K : C.Ok n) : Sc (C.bx s.heap (C.lP μ as)) Z [] [] s where
  c := ⟨S.c.z, fun a o e => guard_get S (fun _ => K.abv) e, fun a f e => by
      show guardG _ _ _ _ _ = _
      have : a ∉ C.lP μ as := fun m => by
        rcases List.mem_append.mp m with m | m
        · rw [(S.c.exA a m).2.1] at e; cases e
        · obtain ⟨i, p, q, h1, h2, m⟩ := mem_allFp.mp m
          rw [(S.c.own i p q h1 h2 a m).1] at e; cases e
      rw [guard_out this]; exact S.c.vd a f e, fun a m => (nomatch m), rfl, fun i p q x => by simp at x, fun i p q x => by simp at x, fun i j p q p' q' _ x => by simp at x⟩
  os := S.os
  gens := S.gens
theorem leaveP (S : St C Z as ρ μ s) (K : C.Ok n) (z : ZLe Z Z') {a2 : AS} {m2 : Mu} (S' : Sc (C.bx s.heap (C.lP μ as)) Z' a2 m2 s') : St C Z' as ρ μ s' where
  c := by
    refine ⟨S'.c.z, fun a o e => S'.c.g a o (guard_keep S.gP e), fun a f e => ?_, fun a m => ?_, S.c.len, fun i p q x y => ?_, fun i p q x y a m => ?_, S.c.sep⟩
    · cases g : C.G a with
      | none => rfl
      | some o => have := S'.c.vd a f e; rw [show (C.bx s.heap (C.lP μ as)).G a = _ from guard_keep S.gP g] at this; cases this
    · obtain ⟨⟨o, e⟩, _, g⟩ := S.c.exA a m
      obtain ⟨_, e', z'⟩ := leave_ex S S' (List.mem_append_left _ m) e
      exact ⟨e', z', g⟩
    · exact (S.c.priv i p q x y).keepG z fun a m o e => (leave_ex S S' (List.mem_append_right _ (mem_allFp.mpr ⟨i, p, q, x, y, m⟩)) e).1 fun n => (S.c.own i p q x y a m).2.2 (n ▸ .head _)
    · have ow := S.c.own i p q x y a m
      obtain ⟨o, e⟩ := (S.c.priv i p q x y).alive m
      exact ⟨(leave_ex S S' (List.mem_append_right _ (mem_allFp.mpr ⟨i, p, q, x, y, m⟩)) e).2.2, ow.2.1, ow.2.2⟩
  l := leave_loc S K (fun _ m => List.mem_append_left _ m) S.gP z (List.prefix_refl _) S'
  os := S'.os
  gens := S'.gens
/-! ### arguments -/
theorem noStar (bad : BadX F) {k : Nat} : ∀ (es : List Expr) (μ : Mu) {r}, evL F ρ μ (es.map (compE k C.vis C.sc)) = .ok r → ∀ x ∈ es, ∀ a b, x ≠ .Starred a b
  | [], _, _, _, x, m => nomatch m
  | e :: es, μ, r, h, x, m => by
    rw [List.map_cons, evL] at h
    refine Res.bind2 h fun v μ₁ e1 e2 => ?_
    refine Res.bind2 e2 fun ws μ₂ e3 e4 => ?_
    rcases List.mem_cons.mp m with rfl | m
    · rintro a b rfl
      rw [compE_starred] at e1
      exact bad _ _ _ e1
    · exact noStar bad es μ₁ e3 x m
theorem plain_any {es : List Expr} {env : Env} {pos : Pos} (h : ∀ x ∈ es, ∀ a b, x ≠ .Starred a b) : (backTo pos (starEach es env)).any (·.1) = false := by
  induction es with
  | nil => rfl
  | cons x es ih =>
    rw [starEach_cons (k := 0) (h x (.head _))]
    show (false || (backTo pos (starEach es env)).any (·.1)) = false
    rw [ih fun y m => h y (.tail _ m)]; rfl
theorem kept_ok (P : Params) {a : Addr} (h : keptF a = true) : keepIn (kAll P) (.ref a) = true := by
  have all : (keptL.all fun p => keepIn (kAll P) (.ref p)) = true := by kernel_rfl
  unfold keptF at h
  obtain ⟨p, hp, e⟩ := List.any_eq_true.mp h
  have := List.all_eq_true.mp all p hp
  rw [Nat.eq_of_beq_eq_true e] at this
  exact this
/-- a call whose callee stands: the arguments, then the call -/
theorem callK (SX : SoundX F n) (bad : BadX F) {k : Nat} (K : C.Ok n) {f : Value} (hk : keepIn (kAll C.w.params) f = true) {first : List Value} {es : List Expr} {vs : List V} {pos : Pos} (e : evL F ρ μ (es.map (compE k C.vis C.sc)) = .ok (vs, μ')) {Q : Value → Shared → Prop} (S : St C Z as ρ μ s)
    (h : PostL C Z as ρ μ' vs fun xs s' => wpAny (model pT C.w) C.A (call f (first ++ xs)) Q E s') : wpAny (model pT C.w) C.A (callWith pos f first (backTo pos (starEach es C.env)) []) Q E s := by
  rcases es with _ | ⟨x, es⟩
  ·
    simp only [List.map_nil, evL] at e; cases e
    exact callWith_K0 (S.gnd K).sys.inK hk (h _ _ _ _ (.refl _) (List.prefix_refl _) S .nil)
  ·
    have ns := noStar bad _ _ e
    refine callWith_K K.gnd.sys.inK hk (evL_ok SX bad K _ μ vs μ' e Z as s _ E S fun Z₁ as₁ s₁ xs l₁ p₁ S₁ r₁ => ⟨(S₁.gnd K).sys.inK, h Z₁ as₁ s₁ xs l₁ p₁ S₁ r₁⟩) (starEach_cons (k := 0) (ns x (.head _))) (plain_any fun y m => ns y (.tail _ m))
theorem fn_ok (SX : SoundX F n) (SC : SoundC F n) (bad : BadX F) {k : Nat} (K : C.Ok n) {f : Str} {p pos : Pos} {a : Addr} (hn : nmOf C.vis C.sc f = some (.fn a)) (hk : keptF a = true) {es : List Expr} {vs : List V} {ds : List D} {d : D} {v : V} {μ₁ μ₂ μ₃ μ₄ : Mu}
    (e1 : evL F ρ μ (es.map (compE k C.vis C.sc)) = .ok (vs, μ₁)) (e2 : frzs μ₁ vs = .ok (ds, μ₂)) (e3 : F.call a (ds.map .c) [] = .ok (v, μ₃)) (e4 : frz μ₃ v = .ok (d, μ₄)) {Q : Value → Shared → Prop} (S : St C Z as ρ μ s) (P : Post C Z as ρ μ₂ (.c d) Q) :
    wpAny (model pT C.w) C.A (eval (.Call (.Name f p) es [] pos) C.env) Q E s := by
  refine wpAny_Call_NameR (name_glo S K hn (fun i h => by cases h) fun x hx => ?_)
  cases (show x = .ref a from hx)
  refine callK SX bad K (kept_ok _ hk) e1 S fun Z₁ as₁ s₁ xs l₁ p₁ S₁ r₁ => ?_
  obtain ⟨Z₂, l₂, S₂, r₂⟩ := S₁.frzs e2 r₁
  refine wpAny_call (codeAny_mono (SC a (ds.map .c) [] v μ₃ e3 (C.bx s₁.heap (C.lP μ₂ as₁)) (bx_ok S₂ K (List.mem_append_left _ (.head _)) S₂.gP) Z₂ [] s₁ xs (enterP S₂ K) (S₂.sz K) (AlR.map_right r₂) _ fun Z₃ as₃ s₃ y l₃ p₃ S₃ r₃ => ?_) fun r s' h => h)
  obtain ⟨Z₄, l₄, c₄, r₄⟩ := frz_ok e4 S₃.c r₃
  exact P Z₄ as₁ s₃ y ((l₁.trans l₂).trans (l₃.trans l₄)) p₁ (leaveP S₂ K (l₃.trans l₄) ⟨c₄, S₃.os, S₃.gens⟩) r₄
end
section
variable {F : Fn} {n : Nat} {C : Cx} {Z Z' : ZM} {as as' : AS} {ρ : Ev} {μ μ' : Mu} {s s' : Shared} {E : Value → Shared → Prop}
theorem args_ok (SX : SoundX F n) (bad : BadX F) {k : Nat} (K : C.Ok n) {f : Value} {es : List Expr} {vs : List V} {pos : Pos} (e : evL F ρ μ (es.map (compE k C.vis C.sc)) = .ok (vs, μ')) {Q : Args → Shared → Prop} (S : St C Z as ρ μ s)
    (h : PostL C Z as ρ μ' vs fun xs s' => Q ⟨xs, []⟩ s') : wpAny (model pT C.w) C.A (evalArgs f true (backTo pos (starEach es C.env)) []) Q E s := by
  rcases es with _ | ⟨x, es⟩
  ·
    simp only [List.map_nil, evL] at e; cases e
    exact evalArgs_nil3 (h _ _ _ _ (.refl _) (List.prefix_refl _) S .nil)
  ·
    have ns := noStar bad _ _ e
    have hb : backTo pos (starEach (x :: es) C.env) = (false, eval x C.env) :: backTo pos (starEach es C.env) := by rw [starEach_cons (k := 0) (ns x (.head _))]; rfl
    rw [hb]
    refine evalArgs_plain ?_
    rw [← hb]
    exact evL_ok SX bad K _ μ vs μ' e Z as s _ E S h
theorem callB (SX : SoundX F n) (bad : BadX F) {k : Nat} (K : C.Ok n) {id : String} {first : List Value} {es : List Expr} {vs : List V} {pos : Pos} (e : evL F ρ μ (es.map (compE k C.vis C.sc)) = .ok (vs, μ')) {Q : Value → Shared → Prop} (S : St C Z as ρ μ s)
    (h : PostL C Z as ρ μ' vs fun xs s' => wpAny (model pT C.w) C.A (call (.builtin id) (first ++ xs)) Q E s') : wpAny (model pT C.w) C.A (callWith pos (.builtin id) first (backTo pos (starEach es C.env)) []) Q E s :=
  callWith_builtin (plain_any (noStar bad _ _ e)) (args_ok SX bad K e S h)
theorem callT (SX : SoundX F n) (bad : BadX F) {k : Nat} (K : C.Ok n) {T : String} {first : List Value} {es : List Expr} {vs : List V} {pos : Pos} (e : evL F ρ μ (es.map (compE k C.vis C.sc)) = .ok (vs, μ')) {Q : Value → Shared → Prop} (S : St C Z as ρ μ s)
    (h : PostL C Z as ρ μ' vs fun xs s' => wpAny (model pT C.w) C.A (call (.type T) (first ++ xs)) Q E s') : wpAny (model pT C.w) C.A (callWith pos (.type T) first (backTo pos (starEach es C.env)) []) Q E s :=
  PySem.callWith_type (plain_any (noStar bad _ _ e)) (args_ok SX bad K e S h)
theorem ints_of {w : World} {Z : ZM} {as : AS} : ∀ {l : List V} {is : List Int} {xs : List Value}, l.mapM toI = some is → AlR (VRep w Z as) xs l → ∃ ts : List Tok, ts.length = is.length ∧ xs = (is.zip ts).map fun p => .int p.1 p.2
  | [], is, xs, h, r => by
    simp at h; subst h; cases r.cases_nil; exact ⟨[], rfl, rfl⟩
  | v :: l, is, xs, h, r => by
    rw [List.mapM_cons] at h
    simp only [Option.bind_eq_bind, Option.bind_eq_some_iff] at h
    obtain ⟨i, h1, is', h2, h3⟩ := h
    cases h3
    obtain ⟨x, xs', rfl, rx, r3⟩ := r.cases_cons
    cases toI_eq h1
    obtain ⟨t, rfl⟩ := vint rx
    obtain ⟨ts, h4, h5⟩ := ints_of h2 r3
    exact ⟨t :: ts, by simp [h4], by simp [h5]⟩
theorem one1 {w : World} {Z : ZM} {as : AS} {vs : List V} {v : V} {xs : List Value} (h : one vs = some v) (r : AlR (VRep w Z as) xs vs) {G : Prop} (k : ∀ x, xs = [x] → VRep w Z as x v → G) : G := by
  cases one_eq h
  obtain ⟨x, t, rfl, rx, rt⟩ := r.cases_cons
  cases rt.cases_nil
  exact k x rfl rx
theorem two1 {w : World} {Z : ZM} {as : AS} {vs : List V} {q : V × V} {xs : List Value} (h : two vs = some q) (r : AlR (VRep w Z as) xs vs) {G : Prop} (k : ∀ x y, xs = [x, y] → VRep w Z as x q.1 → VRep w Z as y q.2 → G) : G := by
  cases two_eq h
  obtain ⟨x, t, rfl, rx, rt⟩ := r.cases_cons
  obtain ⟨y, t', rfl, ry, rt'⟩ := rt.cases_cons
  cases rt'.cases_nil
  exact k x y rfl rx ry
theorem range_ok (S : St C Z as ρ μ s) (K : C.Ok n) {l : List Int} {v : V} (e : biR μ l = .ok (v, μ')) (ts : List Tok) (hl : ts.length = l.length) {Q : Value → Shared → Prop} (P : Post C Z as ρ μ' v Q) :
    wpAny (model pT C.w) C.A (call (.type "range") ((l.zip ts).map fun p => .int p.1 p.2)) Q E s := by
  rcases l with _ | ⟨a, l⟩
  · exact noR e
  ·
    rcases ts with _ | ⟨t, ts⟩
    · cases hl
    ·
      rcases l with _ | ⟨b, l⟩
      ·
        rcases ts with _ | ⟨_, _⟩
        · exact range1_ok S K (P.ok e)
        · cases hl
      ·
        rcases ts with _ | ⟨u, ts⟩
        · cases hl
        ·
          rcases l with _ | ⟨c, l⟩
          ·
            rcases ts with _ | ⟨_, _⟩
            · exact range2_ok S K (P.ok e)
            · cases hl
          ·
            refine iteR e fun hc e' => and2 hc fun h1 h2 => ?_
            cases List.isEmpty_iff.mp h1
            cases of_decide_eq_true h2
            rcases ts with _ | ⟨w, ts⟩
            · cases hl
            ·
              rcases ts with _ | ⟨_, _⟩
              · exact range3_ok S K (P.ok e')
              · cases hl
theorem biop_ok (S : St C Z as ρ μ s) (K : C.Ok n) {b : Bi} {vs : List V} {v : V} (e : biop μ b vs = .ok (v, μ')) {xs : List Value} (r : AlR (VRep C.w Z as) xs vs) {Q : Value → Shared → Prop} (P : Post C Z as ρ μ' v Q) :
    wpAny (model pT C.w) C.A (call b.val xs) Q E s := by
  cases b
  case len => exact optR e fun v' h e => one1 h r fun x hx rx => hx ▸ len_ok S K e rx P
  case range =>
    refine optR e fun l h e => ?_
    obtain ⟨ts, h1, rfl⟩ := ints_of h r
    exact range_ok S K e ts h1 P
  case tlist => exact optR e fun v' h e => one1 h r fun x hx rx => hx ▸ list_ok S K e rx P
  case str => exact optR e fun v' h e => one1 h r fun x hx rx => hx ▸ str_ok S K e rx P
  case abs =>
    refine optR e fun v' h e => optR e fun i hi e => one1 h r fun x hx rx => ?_
    obtain ⟨t, ht⟩ := vint (toI_v hi ▸ rx)
    rw [hx, ht]
    exact abs_ok S (P.ok e)
  case int =>
    refine optR e fun v' h e => optR e fun i hi e => one1 h r fun x hx rx => ?_
    obtain ⟨t, ht⟩ := vint (toI_v hi ▸ rx)
    rw [hx, ht]
    exact call_int_int ((P.ok e).here S (.int _ _))
  case isinstance => exact optR e fun q h e => two1 h r fun x y hx rx ry => hx ▸ isi_ok S K e rx ry P
  case sorted => exact optR e fun v' h e => one1 h r fun x hx rx => hx ▸ sorted_ok S K e rx P
theorem bi_ok (SX : SoundX F n) (bad : BadX F) {k : Nat} (K : C.Ok n) {f : Str} {p pos : Pos} {b : Bi} (hn : nmOf C.vis C.sc f = some (.bi b)) {es : List Expr} {vs : List V} {v : V} {μ₁ : Mu}
    (e1 : evL F ρ μ (es.map (compE k C.vis C.sc)) = .ok (vs, μ₁)) (e2 : biop μ₁ b vs = .ok (v, μ')) {Q : Value → Shared → Prop} (S : St C Z as ρ μ s) (P : Post C Z as ρ μ' v Q) :
    wpAny (model pT C.w) C.A (eval (.Call (.Name f p) es [] pos) C.env) Q E s := by
  refine wpAny_Call_NameR (name_glo S K hn (fun i h => by cases h) fun x hx => ?_)
  cases (show x = b.val from hx)
  have fin : PostL C Z as ρ μ₁ vs fun xs s' => wpAny (model pT C.w) C.A (call b.val ([] ++ xs)) Q E s' := fun Z₁ as₁ s₁ xs l₁ p₁ S₁ r₁ => biop_ok S₁ K e2 r₁ (P.up l₁ p₁)
  cases b <;> first | exact callB SX bad K e1 S fin | exact callT SX bad K e1 S fin
/-! ### methods of built-in things -/
theorem base_ok {o : Expr} {name : Str} {env : Env} {whole : Sem Value} (h : okBase o = true) : attributeBase o name env whole = whole := by
  induction o using PySem.Expr.casesOn <;> try exact rfl
  rename_i f args kws pos
  induction f using PySem.Expr.casesOn <;> try exact rfl
  rcases args with _ | ⟨_, _⟩
  · rcases kws with _ | ⟨_, _⟩
    · exact falseE h
    · rfl
  · rfl
theorem few_ok {es : List Expr} {env : Env} {pos : Pos} (ns : ∀ x ∈ es, ∀ a b, x ≠ .Starred a b) (h2 : es.length < 20) :
    ((backTo pos (starEach es env)).all (fun x => !x.1) && (backToKw pos (keywordEach [] env)).all (fun x => x.1.isSome) && decide (es.length + ([] : List Keyword).length + (if ([] : List Keyword).isEmpty then 0 else 1) < 30)) = true := by
  have := plain_any (pos := pos) (env := env) ns
  have e1 : (backTo pos (starEach es env)).all (fun x => !x.1) = true := by
    rw [List.all_eq_true]
    intro x m
    rw [List.any_eq_false] at this
    simpa using this x m
  rw [e1]
  show (true && decide (es.length + 0 + 0 < 30)) = true
  rw [Bool.true_and]
  exact decide_eq_true (Nat.lt_trans h2 (by decide))
theorem okCall_inv {o : Expr} {es : List Expr} {ap pos : Pos} (h : okCall o es ap pos = true) : okBase o = true ∧ es.length < 20 ∧ (ap.endLine == pos.line) = true :=
  and2 h fun h h3 => and2 h fun h1 h2 => ⟨h1, of_decide_eq_true h2, h3⟩
theorem mt_one {vs : List V} {v : V} {xs : List Value} {w : World} (h : one vs = some v) (r : AlR (VRep w Z as) xs vs) : ∃ x, xs = [x] ∧ VRep w Z as x v := by
  cases one_eq h
  obtain ⟨x, t, rfl, rx, rt⟩ := r.cases_cons
  cases rt.cases_nil
  exact ⟨x, rfl, rx⟩
theorem mtName {m : Str} {mt : Mt} (h : Mt.of m.cps.toList = some mt) : m = sT mt.name := by
  have := List.find?_some h
  have := of_decide_eq_true this
  rw [this]
theorem list_ty (S : St C Z as ρ μ s) {v : V} {x : Value} (h : (asList μ v).isSome = true) (r : VRep C.w Z as x v) : s.TypeIs x "list" ∧ ∀ a, x = .ref a → ∃ ob, s.heap.get? a = some ob ∧ ob.dict = none := by
  obtain ⟨l, hl⟩ := Option.isSome_iff_exists.mp h
  obtain ⟨a, vs, k, rfl, g, r1⟩ := asList_ok S.c r hl
  exact ⟨⟨_, g, rfl⟩, fun b e => by cases e; exact ⟨_, g, rfl⟩⟩
theorem dict_ty (S : St C Z as ρ μ s) {v : V} {x : Value} (h : (asDict μ v).isSome = true) (r : VRep C.w Z as x v) : s.TypeIs x "dict" ∧ ∀ a, x = .ref a → ∃ ob, s.heap.get? a = some ob ∧ ob.dict = none := by
  obtain ⟨l, hl⟩ := Option.isSome_iff_exists.mp h
  obtain ⟨a, o, kvs, rfl, ns, g, hd, r⟩ := asDict_ok S.c r hl
  have T := (MapAt g hd).mapOf
  exact ⟨T.typeIs, T.noDict⟩
theorem mt_ok (SX : SoundX F n) (bad : BadX F) {k : Nat} (K : C.Ok n) {o : Expr} {m : Str} {ap pos : Pos} {es : List Expr} (hc : okCall o es ap pos = true) {mt : Mt} (hm : Mt.of m.cps.toList = some mt) {x v : V} {vs : List V} {μ₁ μ₂ : Mu}
    (e1 : F.x ρ μ (compE k C.vis C.sc o) = .ok (x, μ₁)) (e2 : mtOk μ₁ mt x = true) (e3 : evL F ρ μ₁ (es.map (compE k C.vis C.sc)) = .ok (vs, μ₂)) (e4 : meop μ₂ mt x vs = .ok (v, μ')) {Q : Value → Shared → Prop} (S : St C Z as ρ μ s) (P : Post C Z as ρ μ' v Q) :
    wpAny (model pT C.w) C.A (eval (.Call (.Attribute o m ap) es [] pos) C.env) Q E s := by
  obtain ⟨c1, c2, c3⟩ := okCall_inv hc
  have few := few_ok (env := C.env) (pos := pos) (noStar bad _ _ e3) c2
  rw [mtName hm]
  refine hold fun G out => ?_
  cases mt
  case append =>
    refine out (wpAny_Call_method (T := "list") (id := "list.append") (base_ok c1) few c3 PySem.F.plainAttrs_list PySem.F.slot_list_append PySem.F.type_list_append (SX k o C ρ μ x μ₁ e1 K Z as s _ E S fun Z₁ as₁ s₁ y l₁ p₁ S₁ r₁ => ⟨(list_ty S₁ e2 r₁).1, (list_ty S₁ e2 r₁).2, callB SX bad K e3 S₁ fun Z₂ as₂ s₂ xs l₂ p₂ S₂ r₂ => ?_⟩))
    exact optR e4 fun i hi e4 => optR e4 fun v' hv e4 => one1 hv r₂ fun z hz rz => hz ▸ append_ok S₂ K e4 (toR_eq hi ▸ r₁.mono l₂ p₂) rz (P.up (l₁.trans l₂) (p₁.trans p₂))
  case reverse =>
    refine out (wpAny_Call_method (T := "list") (id := "list.reverse") (base_ok c1) few c3 PySem.F.plainAttrs_list PySem.F.slot_list_reverse PySem.F.type_list_reverse (SX k o C ρ μ x μ₁ e1 K Z as s _ E S fun Z₁ as₁ s₁ y l₁ p₁ S₁ r₁ => ⟨(list_ty S₁ e2 r₁).1, (list_ty S₁ e2 r₁).2, ?_⟩))
    refine iteR e4 fun h0 e5 => optR e5 fun i hi e6 => ?_
    rcases es with _ | ⟨a, es⟩
    ·
      cases Res.ok.inj e3
      exact reverse_ok S₁ K e6 (toR_eq hi ▸ r₁) (P.up l₁ p₁)
    ·
      exact Res.bind2 e3 fun v1 m1 f1 f2 => Res.bind2 f2 fun v2 m2 f3 f4 => by cases f4; cases h0
  case count =>
    refine out (wpAny_Call_method (T := "list") (id := "list.count") (base_ok c1) few c3 PySem.F.plainAttrs_list PySem.F.slot_list_count PySem.F.type_list_count (SX k o C ρ μ x μ₁ e1 K Z as s _ E S fun Z₁ as₁ s₁ y l₁ p₁ S₁ r₁ => ⟨(list_ty S₁ e2 r₁).1, (list_ty S₁ e2 r₁).2, callB SX bad K e3 S₁ fun Z₂ as₂ s₂ xs l₂ p₂ S₂ r₂ => ?_⟩))
    exact optR e4 fun d hd e4 => Option.bind1 hd fun v' hv hd => one1 hv r₂ fun z hz rz => hz ▸ count_ok S₂ e4 (r₁.mono l₂ p₂) (show VRep _ _ _ _ (.c d) from toD_v hd ▸ rz) (P.up (l₁.trans l₂) (p₁.trans p₂))
  case index =>
    refine out (wpAny_Call_method (T := "list") (id := "list.index") (base_ok c1) few c3 PySem.F.plainAttrs_list PySem.F.slot_list_index PySem.F.type_list_index (SX k o C ρ μ x μ₁ e1 K Z as s _ E S fun Z₁ as₁ s₁ y l₁ p₁ S₁ r₁ => ⟨(list_ty S₁ e2 r₁).1, (list_ty S₁ e2 r₁).2, callB SX bad K e3 S₁ fun Z₂ as₂ s₂ xs l₂ p₂ S₂ r₂ => ?_⟩))
    exact optR e4 fun d hd e4 => Option.bind1 hd fun v' hv hd => one1 hv r₂ fun z hz rz => hz ▸ index_ok S₂ e4 (r₁.mono l₂ p₂) (show VRep _ _ _ _ (.c d) from toD_v hd ▸ rz) (P.up (l₁.trans l₂) (p₁.trans p₂))
  case join =>
    refine someE (show (toT x).isSome = true from e2) fun tt ht => out (wpAny_Call_method (T := "str") (id := "str.join") (base_ok c1) few c3 PySem.F.plainAttrs_str PySem.F.slot_str_join PySem.F.type_str_join (SX k o C ρ μ x μ₁ e1 K Z as s _ E S fun Z₁ as₁ s₁ y l₁ p₁ S₁ r₁ => ?_))
    obtain ⟨t, rfl⟩ := vstr (toT_v ht ▸ r₁)
    exact ⟨typeIs_str s₁ _ _, fun a h => (by cases h), callB SX bad K e3 S₁ fun Z₂ as₂ s₂ xs l₂ p₂ S₂ r₂ => optR e4 fun v' hv e4 => one1 hv r₂ fun z hz rz => hz ▸ join_ok S₂ e4 (r₁.mono l₂ p₂) rz (P.up (l₁.trans l₂) (p₁.trans p₂))⟩
  case get =>
    refine out (wpAny_Call_method (T := "dict") (id := "dict.get") (base_ok c1) few c3 PySem.F.plainAttrs_dict PySem.F.slot_dict_get PySem.F.type_dict_get (SX k o C ρ μ x μ₁ e1 K Z as s _ E S fun Z₁ as₁ s₁ y l₁ p₁ S₁ r₁ => ⟨(dict_ty S₁ e2 r₁).1, (dict_ty S₁ e2 r₁).2, callB SX bad K e3 S₁ fun Z₂ as₂ s₂ xs l₂ p₂ S₂ r₂ => ?_⟩))
    cases h1 : one vs with
    | some kv =>
      rw [meop, h1] at e4
      exact optR e4 fun kk hk e4 => one1 h1 r₂ fun z hz rz => hz ▸ get1_ok S₂ e4 (r₁.mono l₂ p₂) (toT_v hk ▸ rz) (P.up (l₁.trans l₂) (p₁.trans p₂))
    | none =>
      rw [meop, h1] at e4
      exact optR e4 fun q hq e4 => optR e4 fun kk hk e4 => two1 hq r₂ fun y1 y2 hy ry rz => hy ▸ get_ok S₂ e4 (r₁.mono l₂ p₂) (toT_v hk ▸ ry) rz (P.up (l₁.trans l₂) (p₁.trans p₂))
  case setdefault =>
    refine out (wpAny_Call_method (T := "dict") (id := "dict.setdefault") (base_ok c1) few c3 PySem.F.plainAttrs_dict PySem.F.slot_dict_setdefault PySem.F.type_dict_setdefault (SX k o C ρ μ x μ₁ e1 K Z as s _ E S fun Z₁ as₁ s₁ y l₁ p₁ S₁ r₁ => ⟨(dict_ty S₁ e2 r₁).1, (dict_ty S₁ e2 r₁).2, callB SX bad K e3 S₁ fun Z₂ as₂ s₂ xs l₂ p₂ S₂ r₂ => ?_⟩))
    exact optR e4 fun i hi e4 => optR e4 fun q hq e4 => optR e4 fun kk hk e4 => two1 hq r₂ fun y1 y2 hy ry rz => hy ▸ setd_ok S₂ K e4 (toR_eq hi ▸ r₁.mono l₂ p₂) (toT_v hk ▸ ry) rz (P.up (l₁.trans l₂) (p₁.trans p₂))
end
section
variable {F : Fn} {n : Nat} {C : Cx} {Z Z' : ZM} {as as' : AS} {ρ : Ev} {μ μ' : Mu} {s s' : Shared} {E : Value → Shared → Prop}
theorem call_gm {prog : Program} {w : World} {A : Around} {env : Env} {o : Expr} {name : Str} {apos pos : Pos} {args : List Expr} {Q : Value → Shared → Prop} (hbase : attributeBase o name env (eval o env) = eval o env)
    (hfew : ((backTo pos (starEach args env)).all (fun x => !x.1) && (backToKw pos (keywordEach [] env)).all (fun x => x.1.isSome)
      && decide (args.length + ([] : List Keyword).length + (if ([] : List Keyword).isEmpty then 0 else 1) < 30)) = true)
    (hline : (apos.endLine == pos.line) = true)
    (h : wpAny (model prog w) A (eval o env) (fun ov s₁ => ∀ pl, wpAny (model prog w) A (getMethod ov name pl) (fun fx s₂ => wpAny (model prog w) A (callWith pos fx.1 fx.2 (backTo pos (starEach args env)) []) Q E s₂) E s₁) E s) :
    wpAny (model prog w) A (eval (.Call (.Attribute o name apos) args [] pos) env) Q E s := by
  rw [arm_eval_Call, hbase]
  refine wpAny_bind (wpAny_mono h (fun ov s₁ h₁ => ?_) fun _ _ e => e)
  refine wpAny_bind (wpAny_standAt ?_)
  have hform : methodCallForm (args.length + ([] : List Keyword).length) (backTo pos (starEach args env)) (backToKw pos (keywordEach [] env)) = true := hfew
  have hpos : methodCallPos true o env apos pos = pure pos := by unfold methodCallPos; simp [hline]
  unfold methodCall
  rw [hform]
  refine wpAny_bind (wpAny_holding (wpAny_mono (h₁ _) (fun fx s₂ h₂ => ?_) fun _ _ e => e))
  exact wpAny_bind (wpAny_of_eq hpos h₂)
theorem met_facts (P : Params) : (metTab.all fun p => findIn (kAll P) (.ref matA) (sT p.1) == some (some (.ref p.2)) && isFn (kAll P) (.ref p.2) && keptF p.2 && At.all.all fun a => !(a.name == p.1)) = true := by kernel_rfl
theorem at_all (a : At) : a ∈ At.all := by cases a <;> decide
theorem met_ok {P : Params} {m : T} {f : Addr} (h : metTab.lookup m = some f) : findIn (kAll P) (.ref matA) (sT m) = some (some (.ref f)) ∧ isFn (kAll P) (.ref f) = true ∧ keptF f = true ∧ ∀ a : At, sT a.name ≠ sT m := by
  have hm : (m, f) ∈ metTab := by
    have : ∀ l : List (T × Addr), l.lookup m = some f → (m, f) ∈ l := by
      intro l
      induction l with
      | nil => intro h; cases h
      | cons p l ih =>
        obtain ⟨a, b⟩ := p
        intro h
        rw [List.lookup_cons] at h
        split at h
        · rename_i e; cases h; have := eq_of_beq e; subst this; exact .head _
        · exact .tail _ (ih h)
    exact this _ h
  have := List.all_eq_true.mp (met_facts P) _ hm
  simp only [Bool.and_eq_true] at this
  obtain ⟨⟨⟨h1, h2⟩, h3⟩, h4⟩ := this
  refine ⟨eq_of_beq h1, h2, h3, fun a e => ?_⟩
  have := List.all_eq_true.mp h4 a (at_all a)
  rw [sT_inj.mp e] at this
  simp at this
theorem me_ok (SX : SoundX F n) (SC : SoundC F n) (bad : BadX F) {k : Nat} (K : C.Ok n) {o : Expr} {m : Str} {ap pos : Pos} {es : List Expr} (hc : okCall o es ap pos = true) {f : Addr} (hm : metTab.lookup m.cps.toList = some f) {i : Nat} {l : List (At × V)} {v : V} {d : D} {vs : List V} {ds : List D} {μ₁ μ₂ μ₃ μ₄ μ₅ : Mu}
    (e1 : F.x ρ μ (compE k C.vis C.sc o) = .ok (.r i, μ₁)) (e2 : μ₁[i]? = some (.ins matA l)) (e3 : evL F ρ μ₁ (es.map (compE k C.vis C.sc)) = .ok (vs, μ₂)) (e4 : frzs μ₂ vs = .ok (ds, μ₃)) (e5 : F.call f (.r i :: ds.map .c) μ₃ = .ok (v, μ₄)) (e6 : frz μ₄ v = .ok (d, μ₅))
    {Q : Value → Shared → Prop} (S : St C Z as ρ μ s) (P : Post C Z as ρ μ₅ (.c d) Q) :
    wpAny (model pT C.w) C.A (eval (.Call (.Attribute o m ap) es [] pos) C.env) Q E s := by
  obtain ⟨c1, c2, c3⟩ := okCall_inv hc
  obtain ⟨m1, m2, m3, m4⟩ := met_ok (P := C.w.params) hm
  have hm' : sT m.cps.toList = m := rfl
  refine call_gm (base_ok c1) (few_ok (noStar bad _ _ e3) c2) c3 (SX k o C ρ μ _ μ₁ e1 K Z as s _ E S fun Z₁ as₁ s₁ y l₁ p₁ S₁ r₁ pl => ?_)
  obtain ⟨q, hq, ne, g, od, lv, gd, io, al⟩ := S₁.c.vrep_alive e2
  cases vref r₁ hq
  obtain ⟨mm, Fh, N, back⟩ := S₁.fr K
  obtain ⟨esd, kd, rfl, hd⟩ := io
  obtain ⟨f1, f2, f3, f4, f5⟩ := cls_facts C.w.params matA (by simp)
  refine method_inst Fh K.gnd.sys.inK (inst_of g gd) f1 m1 m2 (getL_no m4 hd) ?_
  refine callK SX bad K (kept_ok _ m3) e3 S₁ fun Z₂ as₂ s₂ xs l₂ p₂ S₂ r₂ => ?_
  obtain ⟨Z₃, l₃, S₃, r₃⟩ := S₂.frzs e4 r₂
  have rs : VRep C.w Z₃ as₂ (.ref q.1) (.r i) := r₁.mono (l₂.trans l₃) p₂
  refine wpAny_call (codeAny_mono (SC f (.r i :: ds.map .c) μ₃ v μ₄ e5 (C.bx s₂.heap (C.L.fr :: C.L.cs)) (bx_ok S₃ K (.head _) S₃.gEx) Z₃ as₂ s₂ _ (enterM S₃ K) (S₃.sz K) (.cons rs (AlR.map_right r₃)) _ fun Z₄ as₄ s₄ y l₄ p₄ S₄ r₄ => ?_) fun r s' h => h)
  have S₅ := leaveM S₃ K l₄ p₄ S₄
  obtain ⟨Z₆, l₆, S₆, r₆⟩ := S₅.frz e6 r₄
  exact P Z₆ as₄ s₄ y ((l₁.trans l₂).trans (l₃.trans (l₄.trans l₆))) (p₁.trans (p₂.trans p₄)) S₆ r₆
/-- where a class is called -/
theorem cls_call (P : Params) : ∀ c ∈ [vecA, matA], makesIn (kAll P) c = true ∧ keepIn (kAll P) (.ref c) = true ∧ ∃ f, (if c = vecA then some 308 else if c = matA then some 435 else none) = some f ∧ findIn (kAll P) (.ref c) "__init__" = some (some (.ref f)) ∧ typeIn (kAll P) (.ref f) = some (.type "function") := by
  intro c hc
  rcases List.mem_cons.mp hc with rfl | hc
  · exact ⟨by kernel_rfl, by kernel_rfl, 308, by decide, by kernel_rfl, by kernel_rfl⟩
  · rcases List.mem_cons.mp hc with rfl | hc
    · exact ⟨by kernel_rfl, by kernel_rfl, 435, by decide, by kernel_rfl, by kernel_rfl⟩
    · cases hc
noncomputable def Cx.bxA (C : Cx) (h : Heap) (l : List Addr) (A : Around) : Bx := { C.bx h l with A := A }
theorem under_type {A : Around} {c : Addr} {xs : List Value} (h : AOk (n + 1) A) : AOk n (A.under (.builtin "type.__call__" ⟨.ref c :: xs, []⟩)) := by
  have hw : (Code.builtin "type.__call__" ⟨.ref c :: xs, []⟩).weight = 1 := by unfold Code.weight; rfl
  have hg : (Code.builtin "type.__call__" ⟨.ref c :: xs, []⟩).guards = [] := rfl
  have hu : (Code.builtin "type.__call__" ⟨.ref c :: xs, []⟩).cUnits = 1 := rfl
  have h1 := h.depth
  have h2 := h.units
  refine ⟨h.handled, ?_, ?_, ?_⟩
  · unfold Around.under
    dsimp only
    rw [hg, h.guards]; rfl
  · unfold Around.under
    dsimp only
    rw [hw]; lia
  · unfold Around.under
    dsimp only
    rw [hu]; lia
theorem under_frames {A : Around} {c : Addr} {xs : List Value} : (A.under (.builtin "type.__call__" ⟨.ref c :: xs, []⟩)).frames = A.frames := by
  have he : (Code.builtin "type.__call__" ⟨.ref c :: xs, []⟩).envs = [] := rfl
  unfold Around.under
  dsimp only
  rw [he]; rfl
theorem cl_ok (SX : SoundX F n) (SC : SoundC F n) (bad : BadX F) {k : Nat} (K1 : C.Ok (n + 1)) {f : Str} {p pos : Pos} {c fi : Addr} (hn : nmOf C.vis C.sc f = some (.cl c)) (hc : c ∈ [vecA, matA]) (hfi : (if c = vecA then some 308 else if c = matA then some 435 else none) = some fi) {es : List Expr} {vs : List V} {ds : List D} {μ₁ μ₂ μ₃ : Mu}
    (e1 : evL F ρ μ (es.map (compE k C.vis C.sc)) = .ok (vs, μ₁)) (e2 : frzs μ₁ vs = .ok (ds, μ₂)) (e3 : F.call fi (.r μ₂.length :: ds.map .c) (μ₂ ++ [.ins c []]) = .ok (.c .none, μ₃)) {Q : Value → Shared → Prop} (S : St C Z as ρ μ s) (P : Post C Z as ρ μ₃ (.r μ₂.length) Q) :
    wpAny (model pT C.w) C.A (eval (.Call (.Name f p) es [] pos) C.env) Q E s := by
  have K := K1.le (Nat.le_succ n)
  obtain ⟨c1, c2, f', h1, h2, h3⟩ := cls_call C.w.params c hc
  rw [hfi] at h1; cases h1
  refine wpAny_Call_NameR (name_glo S K hn (fun i h => by cases h) fun x hx => ?_)
  cases (show x = .ref c from hx)
  refine callK SX bad K c2 e1 S fun Z₁ as₁ s₁ xs l₁ p₁ S₁ r₁ => ?_
  obtain ⟨Z₂, l₂, S₂, r₂⟩ := S₁.frzs e2 r₁
  have X := (S₂.gnd K).sys.inK
  refine wpAny_call ?_
  obtain ⟨hh, gg, dr, tt, os⟩ := s₁
  refine make_core (rest := [] ++ xs) (makes_of X c1) (looks_findIn X h2) (fun self => bind_fn X self h3) (.inl rfl) ?_
  -- the new thing
  have gd : ((hh.push emptyDict).push (instObj c hh.objs.size)).get? hh.objs.size = some emptyDict := Heap.get?_push_of_some _ (Heap.get?_push_size _ rfl)
  have gi : ((hh.push emptyDict).push (instObj c hh.objs.size)).get? (hh.objs.size + 1) = some (instObj c hh.objs.size) := by
    have := Heap.get?_push_size (hh.push emptyDict) (o := instObj c hh.objs.size) rfl
    rwa [Heap.size_push] at this
  have S₃ := S₂.pushP (dr := dr) (tk := tt) (h' := (hh.push emptyDict).push (instObj c hh.objs.size)) (p := .ins c []) (q := (hh.objs.size + 1, hh.objs.size)) (fun b o e => Heap.get?_push_of_some _ (Heap.get?_push_of_some _ e)) (fun a m => by
      simp [fpP] at m
      rcases m with rfl | rfl
      · show hh.get? _ = none
        cases q : hh.get? (hh.objs.size + 1) with
        | none => rfl
        | some o => exact absurd (Heap.lt_size q) (Nat.not_lt.mpr (Nat.le_succ _))
      · exact no_at_size _) ⟨Nat.succ_ne_self _, gi, emptyDict, [], gd, ⟨[], 0, rfl, trivial⟩, .nil⟩
  have rx : VRep C.w Z₂ (as₁ ++ [(hh.objs.size + 1, hh.objs.size)]) (.ref (hh.objs.size + 1)) (.r μ₂.length) := vrep_new (q := (hh.objs.size + 1, hh.objs.size)) S₂.c.len
  have rs : AlR (VRep C.w Z₂ (as₁ ++ [(hh.objs.size + 1, hh.objs.size)])) xs (ds.map .c) := AlR.map_right r₂
  have B := bx_ok S₃ K (l := C.L.fr :: C.L.cs) (.head _) S₃.gEx
  have ST : Sc (C.bxA ((hh.push emptyDict).push (instObj c hh.objs.size)) (C.L.fr :: C.L.cs) (C.A.under (.builtin "type.__call__" ⟨.ref c :: ([] ++ xs), []⟩))) Z₂ (as₁ ++ [(hh.objs.size + 1, hh.objs.size)]) (μ₂ ++ [Mine.P.ins c []]) ⟨(hh.push emptyDict).push (instObj c hh.objs.size), gg, dr, tt, os⟩ := ⟨(enterM S₃ K).c, S₃.os, S₃.gens⟩
  refine codeAny_mono (SC fi (.r μ₂.length :: ds.map .c) (μ₂ ++ [Mine.P.ins c []]) (.c .none) μ₃ e3 (C.bxA ((hh.push emptyDict).push (instObj c hh.objs.size)) (C.L.fr :: C.L.cs) (C.A.under (.builtin "type.__call__" ⟨.ref c :: ([] ++ xs), []⟩)))
    ⟨B.gnd, B.base, under_type K1.ao, under_frames.trans K.frs, B.fok⟩
    Z₂ (as₁ ++ [(hh.objs.size + 1, hh.objs.size)]) ⟨(hh.push emptyDict).push (instObj c hh.objs.size), gg, dr, tt, os⟩ (.ref (hh.objs.size + 1) :: xs) ST (S₃.sz K) (.cons rx rs) _ fun Z₄ as₄ s₄ y l₄ p₄ S₄ r₄ => ?_) fun r s' h => h
  have S₅ := leaveM S₃ K l₄ p₄ ⟨S₄.c, S₄.os, S₄.gens⟩
  cases vnone r₄
  refine ⟨rfl, ?_⟩
  exact P Z₄ as₄ s₄ _ ((l₁.trans l₂).trans l₄) (p₁.trans ((List.prefix_append _ _).trans p₄)) S₅ (rx.mono l₄ p₄)
end
/-- an iterator and what it will yet give -/
inductive ItS (w : World) (Z : ZM) (h : Heap) (I : Addr) : Bool → List D → Prop
  | list {a : Addr} {o : Obj} {vs : List Value} {i : Nat} {l : List D} : Z a = some (.ex o) → ListO o vs → h.IsListIter I a i → AlR (Rep w Z) (vs.drop i) l → ItS w Z h I true l
  | tup {a : Addr} {o : Obj} {vs : List Value} {i : Nat} {l : List D} : Z a = some (.ex o) → TupO o vs → h.IsTupleIter I a i → AlR (Rep w Z) (vs.drop i) l → ItS w Z h I false l
  | rng {x st : Int} {k : Nat} : IsRangeIter h I x k st → ItS w Z h I false ((rangeInts x st k).map .int)
theorem ItS.mono {w : World} {Z Z' : ZM} {h h' : Heap} {I : Addr} {b : Bool} {l : List D} (x : ItS w Z h I b l) (z : ZLe Z Z') (k : ∀ o, h.get? I = some o → h'.get? I = some o) : ItS w Z' h' I b l := by
  cases x with
  | list a o c r => obtain ⟨oi, e, d⟩ := c; exact .list (z _ _ a) o ⟨oi, k _ e, d⟩ (r.mono fun _ _ y => y.mono z)
  | tup a o c r => obtain ⟨oi, e, d⟩ := c; exact .tup (z _ _ a) o ⟨oi, k _ e, d⟩ (r.mono fun _ _ y => y.mono z)
  | rng c => exact .rng (k _ c)
section
variable {F : Fn} {n : Nat} {C : Cx} {Z Z' : ZM} {as as' : AS} {ρ : Ev} {μ μ' : Mu} {s s' : Shared} {E : Value → Shared → Prop}
/-- a change at a place that nothing here speaks of -/
theorem St.other (S : St C Z as ρ μ s) (K : C.Ok n) {x : Addr} (fr : Fresh Z C.G (C.L.fr :: C.L.cs) as μ x) {h' : Heap} {tk : Nat} {dr : Drawn} (k : ∀ b o, b ≠ x → s.heap.get? b = some o → h'.get? b = some o) : St C Z as ρ μ { s with heap := h', toks := tk, drawn := dr } := by
  obtain ⟨f1, f2, f3, f4⟩ := fr
  refine ⟨⟨fun a f e => (S.c.z a f e).keep fun o y => k a o (fun r => by rw [r, f1] at e; cases e) y, fun a o e => (S.c.g a o e).keep fun _ q' => k _ _ (fun r => by rw [r, f2] at e; cases e) q', S.c.vd, fun a m => ?_, S.c.len,
    fun i p q x y => (S.c.priv i p q x y).keep (.refl _) (List.prefix_refl _) fun a m o e => k _ _ (fun r => f4 i p q x y (r ▸ m)) e, S.c.own, S.c.sep⟩, S.l.mono (.refl _) (List.prefix_refl _) fun b o m e => k b o (S.notCell K f3 f2 b m) e, S.os, S.gens⟩
  obtain ⟨⟨o, e⟩, y⟩ := S.c.exA a m
  exact ⟨⟨o, k _ _ (fun r => f3 (r ▸ m)) e⟩, y⟩
theorem drop_cons {α : Type} {l : List α} {i : Nat} {x : α} {r : List α} (h : l.drop i = x :: r) : l[i]? = some x ∧ l.drop (i + 1) = r := by
  constructor
  · have := congrArg (·[0]?) h
    simpa [List.getElem?_drop] using this
  · rw [← List.tail_drop, h]; rfl
theorem next_end (S : St C Z as ρ μ s) (K : C.Ok n) {I : Addr} {b : Bool} (fr : Fresh Z C.G (C.L.fr :: C.L.cs) as μ I) (it : ItS C.w Z s.heap I b []) {Q : Option Value → Shared → Prop} (P : ∀ s', St C Z as ρ μ s' → Q none s') :
    wpAny (model pT C.w) C.A (pyNext (.ref I)) Q E s := by
  generalize hl : ([] : List D) = l at it
  cases it with
  | list a o c r =>
    subst hl
    obtain ⟨k, rfl⟩ := o
    have g := S.c.z _ _ a
    exact wpAny_pyNext_list_end K.ao.handled c ⟨_, g, rfl, _, rfl⟩ (by have := r.cases_nil; simpa [List.drop_eq_nil_iff] using this) fun h' kp => P _ (S.other K fr (tk := s.toks) (dr := s.drawn) fun b o ne e => kp b o ne e)
  | tup a o c r =>
    subst hl
    obtain ⟨o1, o2, k, o3⟩ := o
    have g := S.c.z _ _ a
    exact wpAny_pyNext_tuple_end K.ao.handled c ⟨_, g, o1, _, o3⟩ (by have := r.cases_nil; simpa [List.drop_eq_nil_iff] using this) fun h' kp => P _ (S.other K fr (tk := s.toks) (dr := s.drawn) fun b o ne e => kp b o ne e)
  | @rng x st k c =>
    have hk : k = 0 := by
      have := congrArg List.length hl
      simp [rangeInts] at this
      lia
    subst hk
    exact wpAny_pyNext_range_end K.ao.handled c (by lia) fun h' kp => P _ (S.other K fr (tk := s.toks) (dr := s.drawn) fun b o ne e => kp b o ne e)
theorem next_item (S : St C Z as ρ μ s) (K : C.Ok n) {I : Addr} {b : Bool} (fr : Fresh Z C.G (C.L.fr :: C.L.cs) as μ I) {d : D} {l : List D} (it : ItS C.w Z s.heap I b (d :: l)) {Q : Option Value → Shared → Prop}
    (P : ∀ s' x, St C Z as ρ μ s' → ItS C.w Z s'.heap I b l → Rep C.w Z x d → Q (some x) s') : wpAny (model pT C.w) C.A (pyNext (.ref I)) Q E s := by
  generalize hl : d :: l = l0 at it
  cases it with
  | @list a o vs i l0 z ol c r =>
    subst hl
    obtain ⟨k, rfl⟩ := ol
    have g := S.c.z _ _ z
    obtain ⟨x, t, hd, rx, rt⟩ := r.cases_cons
    obtain ⟨hx, ht⟩ := drop_cons hd
    refine wpAny_pyNext_list_item c ⟨_, g, rfl, _, rfl⟩ (by simpa using hx) fun h' c' sb => P _ _ (S.other K fr (tk := s.toks) (dr := s.drawn) fun b o ne e => (sb.2 b ne).trans e) (.list z ⟨k, rfl⟩ c' (by rw [ht]; exact rt)) rx
  | @tup a o vs i l0 z ol c r =>
    subst hl
    have ol' := ol
    obtain ⟨o1, o2, k, o3⟩ := ol
    have g := S.c.z _ _ z
    obtain ⟨x, t, hd, rx, rt⟩ := r.cases_cons
    obtain ⟨hx, ht⟩ := drop_cons hd
    refine wpAny_pyNext_tuple_item c ⟨_, g, o1, _, o3⟩ (by simpa using hx) fun h' c' sb => P _ _ (S.other K fr (tk := s.toks) (dr := s.drawn) fun b o ne e => (sb.2 b ne).trans e) (.tup z ol' c' (by rw [ht]; exact rt)) rx
  | @rng x st k c =>
    rcases k with _ | k
    · simp [rangeInts] at hl
    ·
      have e1 : (rangeInts x st (k + 1)).map D.int = .int x :: (rangeInts (x + st) st k).map .int := by
        unfold rangeInts
        have e2 : (List.range k).map ((fun i : Nat => x + (i : Nat) * st) ∘ Nat.succ) = (List.range k).map fun i : Nat => x + st + (i : Nat) * st := List.map_congr_left fun j _ => by
          simp only [Function.comp_apply, Nat.succ_eq_add_one]
          push_cast
          rw [Int.add_mul]; lia
        have e3 : (List.range (k + 1)).map (fun i : Nat => x + (i : Nat) * st) = x :: (List.range k).map fun i : Nat => x + st + (i : Nat) * st := by
          rw [List.range_succ_eq_map, List.map_cons, List.map_map, e2]
          simp
        exact congrArg (List.map D.int) e3
      rw [e1] at hl
      cases hl
      refine wpAny_pyNext_range_item c (by lia) fun h' c' sb => P _ _ (S.other K fr (dr := s.drawn) fun b o ne e => (sb.2 b ne).trans e) ?_ (.int _ _)
      have : ((k + 1 : Nat) : Int) - 1 = (k : Nat) := by lia
      rw [this] at c'
      exact .rng c'
/-- making an iterator -/
theorem iter_ok (S : St C Z as ρ μ s) (K : C.Ok n) {d : D} {l : List D} (hi : items d = some l) {x : Value} (rx : Rep C.w Z x d) {Q : Value → Shared → Prop}
    (P : ∀ s' I b, St C Z as ρ μ s' → Fresh Z C.G (C.L.fr :: C.L.cs) as μ I → ItS C.w Z s'.heap I b l → (b = true ↔ ∃ l, d = .list l) → Q (.ref I) s') : wpAny (model pT C.w) C.A (pyIter x) Q E s := by
  have fr := S.fresh (no_at_size s.heap)
  cases d with
  | list l' =>
    cases Option.some.inj hi
    cases rx with
    | list z o h1 h2 =>
      obtain ⟨k, rfl⟩ := o
      exact wpAny_pyIter_list ⟨_, S.c.z _ _ z, rfl, _, rfl⟩ (P _ _ true (S.ext (tk := s.toks) (dr := s.drawn) fun _ _ e => Heap.get?_push_of_some _ e) fr (.list z ⟨k, rfl⟩ ⟨_, Heap.get?_push_size _ rfl, rfl, rfl⟩ ⟨h1, h2⟩) ⟨fun _ => ⟨_, rfl⟩, fun _ => rfl⟩)
  | tup l' =>
    cases Option.some.inj hi
    cases rx with
    | tup z o h1 h2 =>
      have o' := o
      obtain ⟨o1, o2, k, o3⟩ := o
      exact wpAny_pyIter_tuple ⟨_, S.c.z _ _ z, o1, _, o3⟩ (P _ _ false (S.ext (tk := s.toks) (dr := s.drawn) fun _ _ e => Heap.get?_push_of_some _ e) fr (.tup z o' ⟨_, Heap.get?_push_size _ rfl, rfl, rfl⟩ ⟨h1, h2⟩) ⟨fun h => falseE h, fun ⟨_, h⟩ => nomatch h⟩)
  | rng a b c =>
    refine ite1 hi fun hg hl => and2 hg fun h12 h3 => and2 h12 fun h1 h2 => ?_
    have h3 := (Bool.or_eq_true_iff.mp h3).imp of_decide_eq_true of_decide_eq_true
    subst hl
    clear hg h12 hi
    cases rx with
    | rng z o =>
      obtain ⟨t, u, v, rfl⟩ := o
      refine wpAny_pyIter_range (S.c.z _ _ z) (rng_small h1 h2 h3) (P _ _ false (S.ext (tk := s.toks) (dr := s.drawn) fun _ _ e => Heap.get?_push_of_some _ e) fr ?_ ⟨fun h => falseE h, fun ⟨_, h⟩ => nomatch h⟩)
      have hn : ((Builtin.Range.rangeSize a b c).toNat : Int) = Builtin.Range.rangeSize a b c := by
        have : 0 ≤ Builtin.Range.rangeSize a b c := by
          unfold Builtin.Range.rangeSize
          rcases h3 with rfl | rfl
          · rw [if_pos (by decide)]; split
            · rw [Int.ediv_one]; lia
            · lia
          · rw [if_pos (by decide)]; split
            · lia
            · lia
        exact Int.toNat_of_nonneg this
      have gi := Heap.get?_push_size s.heap (o := { cls := .type "range_iterator", data := .fields #[rawInt a, rawInt (Builtin.Range.rangeSize a b c), rawInt c] }) rfl
      exact .rng (by show IsRangeIter _ _ _ (((Builtin.Range.rangeSize a b c).toNat : Nat) : Int) _; rw [hn]; exact gi)
  | _ => exact noneE hi
end
section
variable {F : Fn} {n : Nat} {C : Cx} {Z Z' : ZM} {as as' : AS} {ρ ρ' : Ev} {μ μ' : Mu} {s s' : Shared} {E : Value → Shared → Prop}
/-! ### targets -/
theorem nmE_inv {f : Expr} {x : Str} (h : nmE f = some x) : ∃ p, f = .Name x p := by
  induction f using PySem.Expr.casesOn <;> first | exact noneE h | (cases h; exact ⟨_, rfl⟩)
theorem tupE_inv {e : Expr} {l : List Expr} (h : tupE e = some l) : ∃ a b, e = .Tuple l a b := by
  induction e using PySem.Expr.casesOn <;> first | exact noneE h | (cases h; exact ⟨_, _, rfl⟩)
theorem tgts_v {vis : Vis} {sc : Scope} {e : Expr} {ts : List Nat} {tp : Bool} {G : Prop} (h : tgts vis sc e = some (ts, tp)) (k1 : ∀ l a b, e = .Tuple l a b → l.mapM (tgt vis sc) = some ts → tp = true → G) (k2 : ∀ i, tgt vis sc e = some i → ts = [i] → tp = false → G) : G := by
  unfold tgts at h
  generalize ht : tupE e = o at h
  rcases o with _ | l
  · exact Option.map1 h fun i h1 h2 => k2 i h1 (Prod.mk.inj h2).1.symm (Prod.mk.inj h2).2.symm
  · obtain ⟨a, b, he⟩ := tupE_inv ht
    exact Option.map1 h fun t h1 h2 => k1 l a b he (h1.trans (congrArg some (Prod.mk.inj h2).1)) (Prod.mk.inj h2).2.symm
theorem tgt_inv {e : Expr} {i : Nat} (h : tgt C.vis C.sc e = some i) : ∃ x p, e = .Name x p ∧ isFree C.sc x = false ∧ nmOf C.vis C.sc x = some (.loc i) := by
  refine Option.bind1 h fun x hx h => ?_
  obtain ⟨p, rfl⟩ := nmE_inv hx
  by_cases hf : isFree C.sc x = true
  · exact noneE ((if_pos hf).symm.trans h)
  · refine Option.bind1 ((if_neg hf).symm.trans h) fun nm hn h => ?_
    cases nm with
    | loc j => cases Option.some.inj h; exact ⟨x, p, rfl, Bool.eq_false_iff.mpr hf, hn⟩
    | _ => exact noneE h
theorem tgt_ok (S : St C Z as ρ μ s) (K : C.Ok n) {e : Expr} {i : Nat} (h : tgt C.vis C.sc e = some i) {v : V} {y : Value} (hv : VRep C.w Z as y v) {Q : Unit → Shared → Prop}
    (P : ∀ s', St C Z as (ρ.set i (some v)) μ s' → Q () s') : wpAny (model pT C.w) C.A (assign e C.env y) Q E s := by
  obtain ⟨x, p, rfl, hf, hn⟩ := tgt_inv h
  obtain ⟨h1, h2⟩ := K.lay.sto x i hn hf
  exact wpAny_assign_Name (name_store S K hn h1 hv h2 P)
theorem each_cons {e : Expr} {l : List Expr} {i : Nat} (h : tgt C.vis C.sc e = some i) : assignEach (e :: l) C.env = (false, assign e C.env) :: assignEach l C.env := by
  obtain ⟨x, p, rfl, _⟩ := tgt_inv h
  rfl
theorem mapM_cons' {α β : Type} {f : α → Option β} {a : α} {l : List α} {r : List β} (h : (a :: l).mapM f = some r) : ∃ b t, r = b :: t ∧ f a = some b ∧ l.mapM f = some t := by
  rw [List.mapM_cons] at h
  refine Option.bind1 h fun b h1 h2 => ?_
  refine Option.bind1 h2 fun t h3 h4 => ?_
  cases h4
  exact ⟨b, t, rfl, h1, h3⟩
noncomputable def setAll (ρ : Ev) (ts : List Nat) (ds : List D) : Ev := (ts.zip ds).foldl (fun ρ p => ρ.set p.1 (some (.c p.2))) ρ
theorem each_ok (K : C.Ok n) : ∀ (l : List Expr) (ts : List Nat), l.mapM (tgt C.vis C.sc) = some ts → ∀ (xs : List Value) (ds : List D) (ρ : Ev) (s : Shared) (Q : Unit → Shared → Prop), AlR (Rep C.w Z) xs ds → l.length = xs.length →
    St C Z as ρ μ s → (∀ s', St C Z as (setAll ρ ts ds) μ s' → Q () s') → wpAny (model pT C.w) C.A (assignInOrder ((assignEach l C.env).map (·.2)) xs) Q E s
  | [], ts, h, xs, ds, ρ, s, Q, r, hl, S, P => by
    cases h
    exact assignInOrder_nil (P _ S)
  | e :: l, ts, h, xs, ds, ρ, s, Q, r, hl, S, P => by
    obtain ⟨i, ts', rfl, h1, h2⟩ := mapM_cons' h
    rcases xs with _ | ⟨x, xs⟩
    · cases hl
    ·
      rcases ds with _ | ⟨d, ds⟩
      · have := r.1; cases this
      ·
        rw [each_cons h1]
        refine assignInOrder_cons (tgt_ok S K h1 (v := .c d) r.inv_cons.1 fun s₁ S₁ => ?_)
        exact each_ok K l ts' h2 xs ds _ s₁ Q r.inv_cons.2 (by simpa using hl) S₁ P
theorem each_len {l : List Expr} {ts : List Nat} (h : l.mapM (tgt C.vis C.sc) = some ts) : (assignEach l C.env).length = ts.length ∧ (assignEach l C.env).findIdx? (·.1) = none ∧ l.length = ts.length := by
  induction l generalizing ts with
  | nil => cases h; exact ⟨rfl, rfl, rfl⟩
  | cons e l ih =>
    obtain ⟨i, t, rfl, h1, h2⟩ := mapM_cons' h
    obtain ⟨a, b, c⟩ := ih h2
    rw [each_cons h1]
    exact ⟨by simp [a], by simp [List.findIdx?_cons, b], by simp [c]⟩
/-- a tuple of targets takes a tuple -/
theorem tup_ok (S : St C Z as ρ μ s) (K : C.Ok n) {l : List Expr} {k : Nat} {p : Pos} {ts : List Nat} (h : l.mapM (tgt C.vis C.sc) = some ts) {y : Value} {ds : List D} (hv : Rep C.w Z y (.tup ds)) (hl : ts.length = ds.length) {Q : Unit → Shared → Prop}
    (P : ∀ s', St C Z as (setAll ρ ts ds) μ s' → Q () s') : wpAny (model pT C.w) C.A (assign (.Tuple l k p) C.env y) Q E s := by
  obtain ⟨e1, e2, e3⟩ := each_len h
  cases hv with
  | tup z o h1 h2 =>
    obtain ⟨o1, o2, m, o3⟩ := o
    have g := S.c.z _ _ z
    refine PySem.wpAny_assign_Tuple K.ao.handled ⟨_, g, o1, _, o3⟩ (by simp [e1, hl, h1]) e2 fun h' sb => ?_
    have S' := S.ext (h' := h') (tk := s.toks) (dr := s.drawn) fun b o e => sb b o (Nat.ne_of_lt (Heap.lt_size e)) e
    exact each_ok K l ts h _ ds ρ _ Q ⟨by simpa using h1, by simpa using h2⟩ (by simp [e3, hl, h1]) S' P
theorem list_ok' (S : St C Z as ρ μ s) (K : C.Ok n) {l : List Expr} {k : Nat} {p : Pos} {ts : List Nat} (h : l.mapM (tgt C.vis C.sc) = some ts) {y : Value} {ds : List D} {a : Addr} {vs : List Value} (hy : y = .ref a) (hv : s.heap.IsList a vs.toArray) (r : AlR (Rep C.w Z) vs ds) (hl : ts.length = ds.length) {Q : Unit → Shared → Prop}
    (P : ∀ s', St C Z as (setAll ρ ts ds) μ s' → Q () s') : wpAny (model pT C.w) C.A (assign (.Tuple l k p) C.env y) Q E s := by
  subst hy
  obtain ⟨e1, e2, e3⟩ := each_len h
  rw [assign_Tuple]
  refine wpAny_bind (wpAny_standAt ?_)
  unfold unpack
  rw [e2]
  have hn : (assignEach l C.env).length = vs.toArray.size := by simp [e1, hl, r.1]
  rw [hn]
  refine wpAny_bind (wpAny_holding (kun_itemsOf K.ao.handled hv fun h' sb => ?_))
  have S' := S.ext (h' := h') (tk := s.toks) (dr := s.drawn) fun b o e => sb b o (Nat.ne_of_lt (Heap.lt_size e)) e
  exact each_ok K l ts h _ ds ρ _ Q (by simpa using r) (by simp [e3, hl, r.1]) S' P
theorem tupD_v {d : D} {l : List D} (h : tupD d = some l) : d = .tup l := by
  cases d <;> first | exact noneE h | (cases Option.some.inj h; rfl)
theorem bindT_ok (S : St C Z as ρ μ s) (K : C.Ok n) {e : Expr} {ts : List Nat} {tp : Bool} (h : tgts C.vis C.sc e = some (ts, tp)) {d : D} (hb : bindT ρ ts tp d = some ρ') {y : Value} (hv : Rep C.w Z y d) {Q : Unit → Shared → Prop}
    (P : ∀ s', St C Z as ρ' μ s' → Q () s') : wpAny (model pT C.w) C.A (assign e C.env y) Q E s := by
  refine tgts_v h (fun l a b he h1 ht => ?_) (fun i h1 hs ht => ?_)
  · subst he ht
    refine Option.bind1 (show (tupD d).bind _ = some ρ' from hb) fun ds hd hb => ite1 hb fun hl hb => ?_
    subst hb
    exact tup_ok S K h1 (tupD_v hd ▸ hv) hl P
  · subst hs ht
    exact tgt_ok S K h1 (v := .c d) hv ((show ρ.set i (some (.c d)) = ρ' from Option.some.inj hb) ▸ P)
/-! ### an iterator set aside -/
noncomputable def Cx.gd (C : Cx) (h : Heap) (I : Addr) : Cx := { C with G := guardG C.G h [I] (I + 1) }
theorem ItS.again {w : World} {Z Z' : ZM} {h h' : Heap} {I : Addr} {b : Bool} {l : List D} (x : ItS w Z h I b l) (z : ZLe Z Z') {N : Nat} {o : Obj} (e : h.get? I = some o) (g : GEq N I o (h'.get? I)) : ItS w Z' h' I b l := by
  have hM : (#[] : Array (Option Value)) ≠ MARK := by unfold MARK; simp
  cases x with
  | list a o' c r =>
    obtain ⟨oi, e', d⟩ := c
    rw [e] at e'; cases e'
    obtain ⟨sl, e2⟩ := g.to
    exact .list (z _ _ a) o' ⟨_, e2, d⟩ (r.mono fun _ _ y => y.mono z)
  | tup a o' c r =>
    obtain ⟨oi, e', d⟩ := c
    rw [e] at e'; cases e'
    obtain ⟨sl, e2⟩ := g.to
    exact .tup (z _ _ a) o' ⟨_, e2, d⟩ (r.mono fun _ _ y => y.mono z)
  | rng c =>
    have c : h.get? I = _ := c
    rw [e] at c; cases c
    exact .rng (g.noM hM)
theorem ItS.alive {w : World} {h : Heap} {I : Addr} {b : Bool} {l : List D} (x : ItS w Z h I b l) : ∃ o, h.get? I = some o := by
  cases x with
  | list a o c r => obtain ⟨oi, e, d⟩ := c; exact ⟨_, e⟩
  | tup a o c r => obtain ⟨oi, e, d⟩ := c; exact ⟨_, e⟩
  | rng c => exact ⟨_, c⟩
theorem gd_ok (S : St C Z as ρ μ s) (K : C.Ok n) {I : Addr} (fr : Fresh Z C.G (C.L.fr :: C.L.cs) as μ I) : (C.gd s.heap I).Ok n :=
  have hg : ∀ a ∈ [I], C.G a = none := fun a m => by cases List.mem_singleton.mp m; exact fr.2.1
  { gnd := K.gnd
    base := fun b o e => guard_keep hg (K.base b o e)
    ao := K.ao
    lay := ⟨K.lay.kind, K.lay.gl, K.lay.bl, K.lay.fr, K.lay.loc, K.lay.glo, fun i c e => (K.lay.cel i c e).imp id fun ⟨o, g⟩ => ⟨o, guard_keep hg g⟩, K.lay.inj, K.lay.nd, K.lay.nloc, K.lay.sto, K.lay.vl⟩
    frs := K.frs
    abv := K.abv
    fok := fun e m => let ⟨k, L, h1, h2, h3⟩ := K.fok e m; ⟨k, L, h1, h2, h3.imp id fun ⟨o, g, r⟩ => ⟨o, guard_keep hg g, r⟩⟩ }
theorem gd_in (S : St C Z as ρ μ s) {I : Addr} (fr : Fresh Z C.G (C.L.fr :: C.L.cs) as μ I) : St (C.gd s.heap I) Z as ρ μ s := by
  obtain ⟨f1, f2, f3, f4⟩ := fr
  have no : ∀ {a}, a ≠ I → C.G a = none → guardG C.G s.heap [I] (I + 1) a = none := fun {a} ne e => by rw [guard_out (by simpa using ne)]; exact e
  refine ⟨⟨S.c.z, fun a o e => guard_get S (fun m => absurd (List.mem_singleton.mp m) (Nat.succ_ne_self I)) e, fun a f e => no (fun q => by rw [q, f1] at e; cases e) (S.c.vd a f e), fun a m => ?_, S.c.len, S.c.priv, fun i p q x y a m => ?_, S.c.sep⟩, S.l, S.os, S.gens⟩
  · obtain ⟨o, z, g⟩ := S.c.exA a m
    exact ⟨o, z, no (fun q => f3 (q ▸ m)) g⟩
  · obtain ⟨z, g, e⟩ := S.c.own i p q x y a m
    exact ⟨z, no (fun r => f4 i p q x y (r ▸ m)) g, e⟩
theorem gd_out (S : St C Z as ρ μ s) {I : Addr} (fr : Fresh Z C.G (C.L.fr :: C.L.cs) as μ I) {o : Obj} (hI : s.heap.get? I = some o) (S' : St (C.gd s.heap I) Z' as' ρ' μ' s') :
    St C Z' as' ρ' μ' s' ∧ Fresh Z' C.G (C.L.fr :: C.L.cs) as' μ' I ∧ GEq C.h₀.objs.size I o (s'.heap.get? I) := by
  obtain ⟨f1, f2, f3, f4⟩ := fr
  have hg : ∀ a ∈ [I], C.G a = none := fun a m => by cases List.mem_singleton.mp m; exact f2
  have gI : guardG C.G s.heap [I] (I + 1) I = some o := (guard_in (by simp) (Nat.ne_of_lt (Nat.lt_succ_self I))).trans hI
  have no : ∀ {a}, guardG C.G s.heap [I] (I + 1) a = none → C.G a = none ∧ a ≠ I := fun {a} e => by
    by_cases q : a = I
    · subst q; rw [gI] at e; cases e
    · rw [guard_out (by simpa using q)] at e; exact ⟨e, q⟩
  refine ⟨⟨⟨S'.c.z, fun a o e => S'.c.g a o (guard_keep hg e), fun a f e => (no (S'.c.vd a f e)).1, fun a m => ?_, S'.c.len, S'.c.priv, fun i p q x y a m => ?_, S'.c.sep⟩, S'.l, S'.os, S'.gens⟩, ⟨?_, f2, f3, fun i p q x y m => ?_⟩, S'.c.g _ _ gI⟩
  · obtain ⟨o, z, g⟩ := S'.c.exA a m
    exact ⟨o, z, (no g).1⟩
  · obtain ⟨z, g, e⟩ := S'.c.own i p q x y a m
    exact ⟨z, (no g).1, e⟩
  · cases q : Z' I with
    | none => rfl
    | some f => exact absurd rfl (no (S'.c.vd I f q)).2
  · obtain ⟨z, g, e⟩ := S'.c.own i p q x y I m
    exact (no g).2 rfl
end
/-- a function's own scope -/
structure FnCx (C : Cx) : Prop where
  fs : ∃ outer, C.Fs = C.env :: outer
  fr : C.env.frame = some C.L.fr
  kd : ∀ x, isLocal C.sc x = true → C.env.kindOf x = some .local
/-- what may be said behind a statement -/
noncomputable def PostS (C : Cx) (Z : ZM) (as : AS) (f : Fl) (ρ' : Ev) (μ' : Mu) (Q : Flow → Shared → Prop) : Prop := ∀ Z' as' s', ZLe Z Z' → as <+: as' → St C Z' as' ρ' μ' s' → match f with
  | .nxt => Q .next s'
  | .ret v => ∀ x, VRep C.w Z' as' x v → Q (.ret x) s'
noncomputable def SoundS (F : Fn) (n : Nat) : Prop := ∀ (k : Nat) (st : Stmt) (C : Cx) (ρ : Ev) (μ : Mu) (f : Fl) (ρ' : Ev) (μ' : Mu), F.s ρ μ (compS k C.vis C.sc st) = .ok (f, ρ', μ') → C.Ok n → FnCx C →
  ∀ Z as s Q E, St C Z as ρ μ s → PostS C Z as f ρ' μ' Q → wpAny (model pT C.w) C.A (exec st C.env) Q E s
section
variable {F : Fn} {n : Nat} {C : Cx} {Z Z' : ZM} {as as' : AS} {ρ ρ' : Ev} {μ μ' : Mu} {s s' : Shared} {E : Value → Shared → Prop} {f : Fl} {Q : Flow → Shared → Prop}
theorem PostS.up (h : PostS C Z as f ρ' μ' Q) (l : ZLe Z Z') (p : as <+: as') : PostS C Z' as' f ρ' μ' Q := fun Z₂ as₂ s₂ l' p' => h Z₂ as₂ s₂ (l.trans l') (p.trans p')
theorem PostS.nx (h : PostS C Z as .nxt ρ' μ' Q) (l : ZLe Z Z') (p : as <+: as') (S : St C Z' as' ρ' μ' s') : Q .next s' := h Z' as' s' l p S
theorem PostS.nx' {fl : Fl} {Q : Flow → Shared → Prop} {μ₁ : Mu} {ρ₁ : Ev} (P : PostS C Z as fl ρ' μ' Q) (h : Res.ok (Fl.nxt, ρ₁, μ₁) = .ok (fl, ρ', μ')) : PostS C Z as .nxt ρ₁ μ₁ Q := by
  cases h; exact P
theorem PostS.rt {fl : Fl} {v : V} {Q : Flow → Shared → Prop} {μ₁ : Mu} {ρ₁ : Ev} (P : PostS C Z as fl ρ' μ' Q) (h : Res.ok (Fl.ret v, ρ₁, μ₁) = .ok (fl, ρ', μ')) : PostS C Z as (.ret v) ρ₁ μ₁ Q := by
  cases h; exact P
theorem execs_ok (SS : SoundS F n) {k : Nat} (K : C.Ok n) (H : FnCx C) : ∀ (b : List Stmt) (ρ : Ev) (μ : Mu), evSs F ρ μ (b.map (compS k C.vis C.sc)) = .ok (f, ρ', μ') → ∀ Z as s (Q : Flow → Shared → Prop) E, St C Z as ρ μ s → PostS C Z as f ρ' μ' Q → wpAny (model pT C.w) C.A (execs b C.env) Q E s
  | [], ρ, μ, e, Z, as, s, Q, E, S, P => by
    exact wpAny_execs_nil ((P.nx' e).nx (.refl _) (List.prefix_refl _) S)
  | st :: b, ρ, μ, e, Z, as, s, Q, E, S, P => by
    refine Res.bind2 e fun g r e1 e2 => ?_
    obtain ⟨ρ₁, μ₁⟩ := r
    refine wpAny_execs_cons (SS k st C ρ μ g ρ₁ μ₁ e1 K H Z as s _ E S fun Z₁ as₁ s₁ l₁ p₁ S₁ => ?_)
    rcases g with _ | v
    · exact execs_ok SS K H b ρ₁ μ₁ e2 Z₁ as₁ s₁ Q E S₁ (P.up l₁ p₁)
    · exact fun x r => (P.rt e2) Z₁ as₁ s₁ l₁ p₁ S₁ x r
/-! ### loops -/
inductive FInv (F : Fn) (C : Cx) (Z : ZM) (as : AS) (k : Nat) (ts : List Nat) (tp : Bool) (b : List Stmt) (I : Addr) (il : Bool) (f : Fl) (ρ' : Ev) (μ' : Mu) (m : Nat) (s : Shared) : Prop
  | mk (Z₁ : ZM) (as₁ : AS) (ρ₁ : Ev) (μ₁ : Mu) (l : List D) (hl : l.length = m) (le : ZLe Z Z₁) (pre : as <+: as₁) (S : St C Z₁ as₁ ρ₁ μ₁ s) (fr : Fresh Z₁ C.G (C.L.fr :: C.L.cs) as₁ μ₁ I) (it : ItS C.w Z₁ s.heap I il l) (e : forL F ts tp (b.map (compS k C.vis C.sc)) ρ₁ μ₁ l = .ok (f, ρ', μ')) : FInv F C Z as k ts tp b I il f ρ' μ' m s
theorem tgts_inv {e : Expr} {ts : List Nat} {tp : Bool} (h : tgts C.vis C.sc e = some (ts, tp)) : (tp = true ∧ ∃ l k p, e = .Tuple l k p) ∨ (tp = false ∧ ∃ x p, e = .Name x p) := by
  exact tgts_v h (fun l a b he _ ht => .inl ⟨ht, l, a, b, he⟩) fun i h1 _ ht => by
    obtain ⟨x, p, he, _⟩ := tgt_inv h1
    exact .inr ⟨ht, x, p, he⟩
theorem rep_tup {w : World} {x : Value} {ds : List D} (r : Rep w Z x (.tup ds)) : ∃ a, x = .ref a := by cases r; exact ⟨_, rfl⟩
theorem letOwned_ok {e : Expr} {ts : List Nat} {tp il : Bool} {l : List D} {I : Addr} {x : Value} {d : D} (h : tgts C.vis C.sc e = some (ts, tp)) (hb : bindT ρ ts tp d = some ρ') (rx : Rep C.w Z x d) (it : ItS C.w Z s.heap I il l) (hi : tp = true → il = true) {A : Around} {Q : Unit → Shared → Prop} (P : Q () s) :
    wpAny (model pT C.w) A (letOwnedTupleGo e (.ref I) x) Q E s := by
  rcases tgts_inv h with ⟨rfl, l, k, p, rfl⟩ | ⟨rfl, y, p, rfl⟩
  · cases hi rfl
    refine Option.bind1 (show (tupD d).bind _ = some ρ' from hb) fun ds hd _ => ?_
    obtain ⟨a, rfl⟩ := rep_tup (tupD_v hd ▸ rx)
    cases it with
    | list z o c r => exact wpAny_letOwnedTupleGo_listiter c P
  · exact wpAny_pure P
theorem folded_ok {k : Nat} {it : Expr} (bad : BadX F) {r} (e : F.x ρ μ (compE k C.vis C.sc it) = .ok r) {env : Env} : ∀ x, foldedSetIterable it env x = pure x := by
  intro x
  cases it with
  | Set l _ _ => cases k <;> exact absurd e (bad _ _ _)
  | _ => rfl
theorem itemsT_items {tp : Bool} {d : D} {l : List D} (h : itemsT tp d = some l) : items d = some l ∧ (tp = true → ∃ l, d = .list l) := by
  unfold itemsT at h
  rcases tp with _ | _
  · exact ⟨h, fun q => by cases q⟩
  ·
    cases d <;> first | exact noneE h | exact ⟨h, fun _ => ⟨_, rfl⟩⟩
theorem gd_fn (H : FnCx C) {h : Heap} {I : Addr} : FnCx (C.gd h I) := ⟨H.fs, H.fr, H.kd⟩
theorem for_ok (SX : SoundX F n) (SS : SoundS F n) (bad : BadX F) {k : Nat} (K : C.Ok n) (H : FnCx C) {e it : Expr} {b : List Stmt} {p : Pos} {ts : List Nat} {tp : Bool} (ht : tgts C.vis C.sc e = some (ts, tp)) {x : V} {μ₁ μ₂ : Mu} {d : D} {l : List D}
    (e1 : F.x ρ μ (compE k C.vis C.sc it) = .ok (x, μ₁)) (e2 : frz μ₁ x = .ok (d, μ₂)) (e3 : itemsT tp d = some l) (e4 : forL F ts tp (b.map (compS k C.vis C.sc)) ρ μ₂ l = .ok (f, ρ', μ')) (S : St C Z as ρ μ s) (P : PostS C Z as f ρ' μ' Q) :
    wpAny (model pT C.w) C.A (exec (.For e it b [] p) C.env) Q E s := by
  refine wpAny_For (SX k it C ρ μ x μ₁ e1 K Z as s _ E S fun Z₁ as₁ s₁ y l₁ p₁ S₁ r₁ => ?_) (folded_ok bad e1)
  obtain ⟨Z₂, l₂, S₂, r₂⟩ := S₁.frz e2 r₁
  obtain ⟨e5, e6⟩ := itemsT_items e3
  refine iter_ok S₂ K e5 r₂ fun s₃ I il S₃ fr it₃ hil => ?_
  have hi : tp = true → il = true := fun q => hil.mpr (e6 q)
  clear hil
  refine codeAny_forLoop_any (FInv F C Z as k ts tp b I il f ρ' μ') (fun m s hm => ?_) l.length ⟨Z₂, as₁, ρ, μ₂, l, rfl, l₁.trans l₂, p₁, S₃, fr, it₃, e4⟩
  obtain ⟨Z₄, as₄, ρ₄, μ₄, l', rfl, l₄, p₄, S₄, fr₄, it₄, e₄⟩ := hm
  rcases l' with _ | ⟨a, l'⟩
  ·
    exact next_end S₄ K fr₄ it₄ fun s₅ S₅ => wpAny_execs_nil ((P.nx' e₄).nx l₄ p₄ S₅)
  ·
    rw [forL] at e₄
    refine next_item S₄ K fr₄ it₄ fun s₅ y S₅ it₅ ry => ?_
    refine optR e₄ fun ρ₅ hb e₄ => Res.bind2 e₄ fun g r e7 e8 => ?_
    obtain ⟨ρ₆, μ₆⟩ := r
    refine letOwned_ok ht hb ry it₅ hi ?_
    have S₅' := gd_in S₅ fr₄
    have K₅ := gd_ok S₅ K fr₄
    obtain ⟨oI, hI⟩ := it₅.alive
    refine bindT_ok (C := C.gd s₅.heap I) S₅' K₅ ht hb ry fun s₆ S₆ => ?_
    refine execs_ok (C := C.gd s₅.heap I) SS K₅ (gd_fn H) b ρ₅ μ₄ e7 Z₄ as₄ s₆ _ _ S₆ fun Z₇ as₇ s₇ l₇ p₇ S₇ => ?_
    obtain ⟨S₈, fr₈, hI₈⟩ := gd_out S₅ fr₄ hI S₇
    rcases g with _ | v
    · exact ⟨l'.length, Nat.lt_succ_self _, ⟨Z₇, as₇, ρ₆, μ₆, l', rfl, l₄.trans l₇, p₄.trans p₇, S₈, fr₈, it₅.again l₇ hI hI₈, e8⟩⟩
    · exact fun xv rv => (P.rt e8) Z₇ as₇ s₇ (l₄.trans l₇) (p₄.trans p₇) S₈ xv rv
inductive WInv (F : Fn) (C : Cx) (Z : ZM) (as : AS) (k : Nat) (t : Expr) (b : List Stmt) (f : Fl) (ρ' : Ev) (μ' : Mu) (m : Nat) (s : Shared) : Prop
  | mk (Z₁ : ZM) (as₁ : AS) (ρ₁ : Ev) (μ₁ : Mu) (le : ZLe Z Z₁) (pre : as <+: as₁) (S : St C Z₁ as₁ ρ₁ μ₁ s) (e : whlL F (compE k C.vis C.sc t) (b.map (compS k C.vis C.sc)) m ρ₁ μ₁ = .ok (f, ρ', μ')) : WInv F C Z as k t b f ρ' μ' m s
theorem while_ok (SB : SoundB F n) (SS : SoundS F n) {k m : Nat} (K : C.Ok n) (H : FnCx C) {t : Expr} {b : List Stmt} {p : Pos}
    (e : whlL F (compE k C.vis C.sc t) (b.map (compS k C.vis C.sc)) m ρ μ = .ok (f, ρ', μ')) (S : St C Z as ρ μ s) (P : PostS C Z as f ρ' μ' Q) :
    wpAny (model pT C.w) C.A (exec (.While t b [] p) C.env) Q E s := by
  refine wpAny_While (codeAny_whileLoop (WInv F C Z as k t b f ρ' μ') (fun m s hm => ?_) m ⟨Z, as, ρ, μ, .refl _, List.prefix_refl _, S, e⟩)
  obtain ⟨Z₁, as₁, ρ₁, μ₁, l₁, p₁, S₁, e₁⟩ := hm
  rcases m with _ | m
  · cases e₁
  ·
    rw [whlL] at e₁
    refine Res.bind2 e₁ fun c μ₂ e2 e3 => ?_
    refine SB k t C ρ₁ μ₁ c μ₂ e2 K Z₁ as₁ s _ _ S₁ fun Z₂ as₂ s₂ l₂ p₂ S₂ => ?_
    rcases c with _ | _
    · exact wpAny_execs_nil ((P.nx' e3).nx (l₁.trans l₂) (p₁.trans p₂) S₂)
    ·
      refine Res.bind2 e3 fun g r e4 e5 => ?_
      obtain ⟨ρ₃, μ₃⟩ := r
      refine execs_ok SS K H b ρ₁ μ₂ e4 Z₂ as₂ s₂ _ _ S₂ fun Z₃ as₃ s₃ l₃ p₃ S₃ => ?_
      rcases g with _ | v
      · exact ⟨m, Nat.lt_succ_self _, ⟨Z₃, as₃, ρ₃, μ₃, l₁.trans (l₂.trans l₃), p₁.trans (p₂.trans p₃), S₃, e5⟩⟩
      · exact fun xv rv => (P.rt e5) Z₃ as₃ s₃ (l₁.trans (l₂.trans l₃)) (p₁.trans (p₂.trans p₃)) S₃ xv rv
theorem if_ok (SB : SoundB F n) (SS : SoundS F n) {k : Nat} (K : C.Ok n) (H : FnCx C) {t : Expr} {a b : List Stmt} {p : Pos} {c : Bool} {μ₁ : Mu}
    (e1 : evB F ρ μ (compE k C.vis C.sc t) = .ok (c, μ₁)) (e2 : (if c then evSs F ρ μ₁ (a.map (compS k C.vis C.sc)) else evSs F ρ μ₁ (b.map (compS k C.vis C.sc))) = .ok (f, ρ', μ')) (S : St C Z as ρ μ s) (P : PostS C Z as f ρ' μ' Q) :
    wpAny (model pT C.w) C.A (exec (.If t a b p) C.env) Q E s := by
  refine wpAny_If (SB k t C ρ μ c μ₁ e1 K Z as s _ E S fun Z₁ as₁ s₁ l₁ p₁ S₁ => ?_)
  rcases c with _ | _
  · exact execs_ok SS K H b ρ μ₁ e2 Z₁ as₁ s₁ Q E S₁ (P.up l₁ p₁)
  · exact execs_ok SS K H a ρ μ₁ e2 Z₁ as₁ s₁ Q E S₁ (P.up l₁ p₁)
/-! ### assignments -/
theorem asg_ok (SX : SoundX F n) {k : Nat} (K : C.Ok n) {e : Expr} {x : Str} {q p : Pos} {i : Nat} (ht : tgt C.vis C.sc (.Name x q) = some i) {v : V} {μ₁ : Mu} (hsw : swapsWith e (some (.Name x q)) p.line C.env = pure false)
    (e1 : F.x ρ μ (compE k C.vis C.sc e) = .ok (v, μ₁)) (S : St C Z as ρ μ s) (P : PostS C Z as .nxt (ρ.set i (some v)) μ₁ Q) : wpAny (model pT C.w) C.A (exec (.Assign [.Name x q] e p) C.env) Q E s := by
  refine wpAny_Assign_Name (SX k e C ρ μ v μ₁ e1 K Z as s _ E S fun Z₁ as₁ s₁ y l₁ p₁ S₁ r₁ => ?_) hsw
  obtain ⟨x', p', e', hf, hn⟩ := tgt_inv ht
  cases e'
  obtain ⟨h1, h2⟩ := K.lay.sto x i hn hf
  exact name_store S₁ K hn h1 r₁ h2 fun s₂ S₂ => P.nx l₁ p₁ S₂
theorem aug_ok (SX : SoundX F n) {k : Nat} (K : C.Ok n) {e : Expr} {x : Str} {q p : Pos} {i : Nat} (ht : tgt C.vis C.sc (.Name x q) = some i) {a b : Int} {μ₁ : Mu} (e0 : ρ[i]? = some (some (.c (.int a))))
    (e1 : F.x ρ μ (compE k C.vis C.sc e) = .ok (.c (.int b), μ₁)) (S : St C Z as ρ μ s) (P : PostS C Z as .nxt (ρ.set i (some (.c (.int (a + b))))) μ₁ Q) : wpAny (model pT C.w) C.A (exec (.AugAssign (.Name x q) .Add e p) C.env) Q E s := by
  obtain ⟨x', p', e', hf, hn⟩ := tgt_inv ht
  cases e'
  obtain ⟨h1, h2⟩ := K.lay.sto x i hn hf
  refine wpAny_AugAssign_Name (name_loc S K hn e0 fun y ry => ?_)
  obtain ⟨t, rfl⟩ := vint ry
  refine SX k e C ρ μ _ μ₁ e1 K Z as s _ E S fun Z₁ as₁ s₁ z l₁ p₁ S₁ r₁ => ?_
  obtain ⟨u, rfl⟩ := vint r₁
  refine wpAny_iadd_int ?_
  exact name_store S₁.tok K hn h1 (v := .c (.int (a + b))) (Rep.int _ _) h2 fun s₂ S₂ => P.nx l₁ p₁ S₂
theorem sole_tup {l : List Expr} {a : Nat} {b : Pos} {e : Expr} {line : Nat} {env : Env} : swapsWithSole [.Tuple l a b] e line env = pure false := by
  cases e <;> rfl
theorem sole_attr {o : Expr} {a : Str} {b : Pos} {e : Expr} {line : Nat} {env : Env} : swapsWithSole [.Attribute o a b] e line env = pure false := by
  cases e <;> rfl
theorem sole_sub {o i : Expr} {b : Pos} {e : Expr} {line : Nat} {env : Env} : swapsWithSole [.Subscript o i b] e line env = pure false := by
  cases e <;> rfl
theorem swst_tup {l : List Expr} {a : Nat} {b : Pos} {e : Expr} {env : Env} (h : ∀ c d f, e ≠ .Tuple c d f) : swappedStores [.Tuple l a b] e env = pure none := by
  cases e <;> first | rfl | exact absurd rfl (h _ _ _)
theorem swst_attr {o : Expr} {a : Str} {b : Pos} {e : Expr} {env : Env} : swappedStores [.Attribute o a b] e env = pure none := by
  cases e <;> rfl
theorem swst_sub {o i : Expr} {b : Pos} {e : Expr} {env : Env} : swappedStores [.Subscript o i b] e env = pure none := by
  cases e <;> rfl
theorem asgT_ok (SX : SoundX F n) {k : Nat} (K : C.Ok n) {e : Expr} {l : List Expr} {kk : Nat} {q p : Pos} {ts : List Nat} (ht : l.mapM (tgt C.vis C.sc) = some ts) (he : ∀ a b c, e ≠ .Tuple a b c) {v : V} {μ₁ : Mu} {ds : List D}
    (e1 : F.x ρ μ (compE k C.vis C.sc e) = .ok (v, μ₁)) (e2 : asSeq μ₁ v = some ds) (e3 : ts.length = ds.length) (S : St C Z as ρ μ s) (P : PostS C Z as .nxt (setAll ρ ts ds) μ₁ Q) : wpAny (model pT C.w) C.A (exec (.Assign [.Tuple l kk q] e p) C.env) Q E s := by
  refine PyProof.Rows.Assign_Tuple (SX k e C ρ μ v μ₁ e1 K Z as s _ E S fun Z₁ as₁ s₁ y l₁ p₁ S₁ r₁ => ?_) sole_tup (swst_tup he)
  obtain ⟨a, o, vs, m, rfl, g, hc, hd, r⟩ := asSeq_ok S₁.c r₁ e2
  rcases hc with hc | hc
  · exact list_ok' S₁ K ht rfl ⟨o, g, hc, m, hd⟩ r e3 fun s₂ S₂ => P.nx l₁ p₁ S₂
  · obtain ⟨e4, e5, e6⟩ := each_len ht
    refine PySem.wpAny_assign_Tuple K.ao.handled ⟨o, g, hc, _, hd⟩ (by simp [e4, e3, r.1]) e5 fun h' sb => ?_
    have S' := S₁.ext (h' := h') (tk := s₁.toks) (dr := s₁.drawn) fun b o e => sb b o (Nat.ne_of_lt (Heap.lt_size e)) e
    exact each_ok K l ts ht _ ds ρ _ _ (by simpa using r) (by simp [e6, e3, r.1]) S' fun s₂ S₂ => P.nx l₁ p₁ S₂
theorem sat_ok (SX : SoundX F n) {k : Nat} (K : C.Ok n) {o e : Expr} {a : Str} {at' : At} {q p : Pos} (ha : At.of a.cps.toList = some at') {v x : V} {μ₁ μ₂ : Mu}
    (e1 : F.x ρ μ (compE k C.vis C.sc e) = .ok (v, μ₁)) (e2 : F.x ρ μ₁ (compE k C.vis C.sc o) = .ok (x, μ₂)) (S : St C Z as ρ μ s)
    (P : ∀ Z₂ as₂ s₂ y z, ZLe Z Z₂ → as <+: as₂ → St C Z₂ as₂ ρ μ₂ s₂ → VRep C.w Z₂ as₂ y v → VRep C.w Z₂ as₂ z x → wpAny (model pT C.w) C.A (setAttr z (sT at'.name) y) (fun _ => Q .next) E s₂) : wpAny (model pT C.w) C.A (exec (.Assign [.Attribute o a q] e p) C.env) Q E s := by
  refine wpAny_Assign_stores (SX k e C ρ μ v μ₁ e1 K Z as s _ E S fun Z₁ as₁ s₁ y l₁ p₁ S₁ r₁ => ?_) sole_attr swst_attr
  show wpAny _ _ (assign (.Attribute o a q) C.env y) _ E s₁
  rw [arm_assign_Attribute]
  refine wpAny_bind (wpAny_holding (SX k o C ρ μ₁ x μ₂ e2 K Z₁ as₁ s₁ _ E S₁ fun Z₂ as₂ s₂ z l₂ p₂ S₂ r₂ => ?_))
  have hn : a = sT at'.name := by
    have := List.find?_some ha
    have := of_decide_eq_true this
    rw [this]
  subst hn
  refine wpAny_bind (wpAny_standAt (wpAny_bind (wpAny_holding (wpAny_mono (P Z₂ as₂ s₂ y z (l₁.trans l₂) (p₁.trans p₂) S₂ (r₁.mono l₂ p₂) r₂) (fun _ s₃ h => ?_) fun _ _ e => e))))
  exact wpAny_release h
theorem six_ok (SX : SoundX F n) {k : Nat} (K : C.Ok n) {o i e : Expr} {q p : Pos} {v x y : V} {μ₁ μ₂ μ₃ : Mu}
    (e1 : F.x ρ μ (compE k C.vis C.sc e) = .ok (v, μ₁)) (e2 : F.x ρ μ₁ (compE k C.vis C.sc o) = .ok (x, μ₂)) (e3 : F.x ρ μ₂ (compE k C.vis C.sc i) = .ok (y, μ₃)) (S : St C Z as ρ μ s)
    (P : ∀ Z₂ as₂ s₂ vx xx yx, ZLe Z Z₂ → as <+: as₂ → St C Z₂ as₂ ρ μ₃ s₂ → VRep C.w Z₂ as₂ vx v → VRep C.w Z₂ as₂ xx x → VRep C.w Z₂ as₂ yx y → wpAny (model pT C.w) C.A (setItem xx yx vx) (fun _ => Q .next) E s₂) : wpAny (model pT C.w) C.A (exec (.Assign [.Subscript o i q] e p) C.env) Q E s := by
  refine wpAny_Assign_stores (SX k e C ρ μ v μ₁ e1 K Z as s _ E S fun Z₁ as₁ s₁ vx l₁ p₁ S₁ r₁ => ?_) sole_sub swst_sub
  show wpAny _ _ (assign (.Subscript o i q) C.env vx) _ E s₁
  rw [arm_assign_Subscript]
  refine wpAny_bind (wpAny_holding (SX k o C ρ μ₁ x μ₂ e2 K Z₁ as₁ s₁ _ E S₁ fun Z₂ as₂ s₂ xx l₂ p₂ S₂ r₂ => ?_))
  refine wpAny_bind (wpAny_holding (SX k i C ρ μ₂ y μ₃ e3 K Z₂ as₂ s₂ _ E S₂ fun Z₃ as₃ s₃ yx l₃ p₃ S₃ r₃ => ?_))
  refine wpAny_bind (wpAny_standAt (wpAny_bind (wpAny_holding (wpAny_mono (P Z₃ as₃ s₃ vx xx yx (l₁.trans (l₂.trans l₃)) (p₁.trans (p₂.trans p₃)) S₃ (r₁.mono (l₂.trans l₃) (p₂.trans p₃)) (r₂.mono l₃ p₃) r₃) (fun _ s₃ h => ?_) fun _ _ e => e))))
  exact wpAny_release h
theorem dPut_ok {w : World} {Z : ZM} {as : AS} {k : T} {kvs : List (Str × Value)} {es : List (T × V)} (r : AlR (fun (kv : Str × Value) e => kv.1 = sT e.1 ∧ VRep w Z as kv.2 e.2) kvs es) {x : Value} {v : V} (rx : VRep w Z as x v) :
    AlR (fun (kv : Str × Value) e => kv.1 = sT e.1 ∧ VRep w Z as kv.2 e.2) (stored kvs (sT k) x) (dPut es k v) := by
  have h1 : ∀ {kvs : List (Str × Value)} {es : List (T × V)}, AlR (fun (kv : Str × Value) e => kv.1 = sT e.1 ∧ VRep w Z as kv.2 e.2) kvs es → (kvs.any fun kv => decide (kv.1 = sT k)) = (es.any fun p => tEq p.1 k) := by
    intro kvs es r
    induction es generalizing kvs with
    | nil => cases r.cases_nil; rfl
    | cons p es ih =>
      obtain ⟨kv, t, rfl, ⟨e, _⟩, r3⟩ := r.cases_cons
      rw [List.any_cons, List.any_cons, ih r3, tEq_dec, e]
      congr 1
      exact decide_eq_decide.mpr sT_inj
  have h2 : ∀ {kvs : List (Str × Value)} {es : List (T × V)}, AlR (fun (kv : Str × Value) e => kv.1 = sT e.1 ∧ VRep w Z as kv.2 e.2) kvs es → AlR (fun (kv : Str × Value) e => kv.1 = sT e.1 ∧ VRep w Z as kv.2 e.2) (kvs.map fun kv => if kv.1 = sT k then (kv.1, x) else kv) (es.map fun p => if tEq p.1 k then (p.1, v) else p) := by
    intro kvs es r
    induction es generalizing kvs with
    | nil => cases r.cases_nil; exact .nil
    | cons p es ih =>
      obtain ⟨kv, t, rfl, ⟨e, rv⟩, r3⟩ := r.cases_cons
      refine .cons ?_ (ih r3)
      dsimp only
      by_cases q : p.1 = k
      · rw [if_pos (by rw [e, q]), if_pos (tEq_iff.mpr q)]
        exact ⟨e, rx⟩
      · rw [if_neg (by rw [e]; exact fun z => q (sT_inj.mp z)), if_neg (fun z => q (tEq_iff.mp z))]
        exact ⟨e, rv⟩
  unfold stored dPut
  rw [h1 r]
  split
  · exact h2 r
  · exact r.append (.one ⟨rfl, rx⟩)
theorem setL_ok (S : St C Z as ρ μ s) (K : C.Ok n) {i : Nat} {pl : Bool} {l : List D} (hi : μ[i]? = some (.lst pl l)) {j : Int} (h0 : 0 ≤ j) (h1 : j < l.length) (h2 : l.length ≤ 1000000) {d : D} {x y z : Value} (rx : VRep C.w Z as x (.r i)) (ry : VRep C.w Z as y (.c (.int j))) (rz : Rep C.w Z z d) {Q : Unit → Shared → Prop}
    (P : ∀ s', St C Z as ρ (μ.set i (.lst false (l.set j.toNat d))) s' → Q () s') : wpAny (model pT C.w) C.A (setItem x y z) Q E s := by
  obtain ⟨q, hq, o, vs, m, g, hc, hpl, hd, r⟩ := S.c.vrep_alive hi
  cases vref rx hq
  obtain ⟨t, rfl⟩ := vint ry
  refine wpAny_setItem_list ⟨o, g, hc, m, hd⟩ h0 (by lia) (by simpa [r.1] using h1) fun h' hl sb => P _ ?_
  obtain ⟨o', g', c', m', d'⟩ := hl
  refine S.setP (tk := s.toks) (dr := s.drawn) K hi hq (x := q.1) (by simp [fpP]) (fun a m => m) (fun b o ne eb => (sb.2 b ne).trans eb) ⟨o', vs.set j.toNat z, m', g', c', (fun q => by cases q), ?_, r.set rz _⟩
  rw [d']
  simp
theorem setD_ok (S : St C Z as ρ μ s) (K : C.Ok n) {i : Nat} {es : List (T × V)} (hi : μ[i]? = some (.dct es)) (h2 : es.length ≤ 1000) {k : T} {v : V} {x y z : Value} (rx : VRep C.w Z as x (.r i)) (ry : VRep C.w Z as y (.c (.str k))) (rz : VRep C.w Z as z v) {Q : Unit → Shared → Prop}
    (P : ∀ s', St C Z as ρ (μ.set i (.dct (dPut es k v))) s' → Q () s') : wpAny (model pT C.w) C.A (setItem x y z) Q E s := by
  obtain ⟨q, kvs, hq, ns, D, r⟩ := dict_at S hi
  cases vref rx hq
  obtain ⟨t, rfl⟩ := vstr ry
  refine wpAny_setItem_pairs (strKind_is pT C.w (sT k) t) D (fun h' D' sb => P _ ?_) (by rw [r.1]; exact Nat.le_trans (Nat.le_trans h2 (by decide)) sizeLine_big)
  exact S.setP (tk := s.toks + 1) (dr := s.drawn) K hi hq (x := q.1) (by simp [fpP]) (fun a m => m) (fun b o ne eb => (sb.2 b ne).trans eb) (prep_dict ns D' (dPut_ok r rz))
end
theorem text_inj {a b : Str} (h : a.cps.toList = b.cps.toList) : a = b := sEqL_iff.mp (by unfold sEqL; exact beq_iff_eq.mpr h)
theorem kOf_lookup {sc : Scope} {x : Str} : sc.names.lookup x = kOf sc x := by
  unfold kOf
  induction sc.names with
  | nil => rfl
  | cons p l ih =>
    obtain ⟨n, k⟩ := p
    rw [List.lookup_cons, List.find?_cons]
    by_cases q : x = n
    · subst q; rw [sEqL_iff.mpr rfl]; simp
    · have h1 : (x == n) = false := by simpa using q
      have h2 : sEqL n x = false := by cases h : sEqL n x with | false => rfl | true => exact absurd (sEqL_iff.mp h).symm q
      rw [h1, h2]; exact ih
theorem kOf_mem {sc : Scope} {x : Str} {k : NameKind} (h : kOf sc x = some k) : (x, k) ∈ sc.names := by
  unfold kOf at h
  obtain ⟨p, hp, rfl⟩ := Option.map_eq_some_iff.mp h
  have := List.find?_some hp
  rw [← sEqL_iff.mp this]
  exact List.mem_of_find?_eq_some hp
theorem ndS_mem {l : List Str} (h : ndS l = true) : l.Nodup := by
  induction l with
  | nil => exact .nil
  | cons a l ih =>
    unfold ndS at h
    refine and2 h fun h1 h2 => ?_
    refine List.nodup_cons.mpr ⟨fun m => ?_, ih h2⟩
    rw [Bool.not_eq_true'] at h1
    have := List.any_eq_false.mp h1 a m
    exact this (sEqL_iff.mpr rfl)
theorem nodup_snd {l : List (Str × NameKind)} (h : (l.map (·.1)).Nodup) {x : Str} {k k' : NameKind} (a : (x, k) ∈ l) (b : (x, k') ∈ l) : k = k' := by
  induction l with
  | nil => cases a
  | cons p l ih =>
    rw [List.map_cons] at h
    obtain ⟨h1, h2⟩ := List.nodup_cons.mp h
    rcases List.mem_cons.mp a with a' | a' <;> rcases List.mem_cons.mp b with b' | b'
    · rw [← a'] at b'; cases b'; rfl
    · subst a'; exact (h1 (List.mem_map.mpr ⟨_, b', rfl⟩)).elim
    · subst b'; exact (h1 (List.mem_map.mpr ⟨_, a', rfl⟩)).elim
    · exact ih h2 a' b'
theorem zl {l : List Str} {x : Str} : ∀ {b i : Nat}, ((l.map (·.cps.toList)).zipIdx b).lookup x.cps.toList = some i → b ≤ i ∧ l[i - b]? = some x := by
  induction l with
  | nil => intro b i h; cases h
  | cons a l ih =>
    intro b i h
    rw [List.map_cons, List.zipIdx_cons, List.lookup_cons] at h
    split at h
    · rename_i e
      cases h
      have := text_inj (eq_of_beq e)
      subst this
      exact ⟨Nat.le_refl _, by simp⟩
    · obtain ⟨h1, h2⟩ := ih h
      refine ⟨Nat.le_of_succ_le h1, ?_⟩
      have : i - b = (i - (b + 1)) + 1 := by lia
      rw [this]; exact h2
theorem zl_none {l : List Str} {x : Str} : ∀ {b : Nat}, ((l.map (·.cps.toList)).zipIdx b).lookup x.cps.toList = none → x ∉ l := by
  induction l with
  | nil => intro b h m; cases m
  | cons a l ih =>
    intro b h m
    rw [List.map_cons, List.zipIdx_cons, List.lookup_cons] at h
    split at h
    · cases h
    · rename_i e
      rcases List.mem_cons.mp m with rfl | m
      · simp at e
      · exact ih h m
theorem look_app {α β : Type} [BEq α] (l r : List (α × β)) (x : α) : (l ++ r).lookup x = match l.lookup x with | some v => some v | none => r.lookup x := by
  induction l with
  | nil => rfl
  | cons p l ih =>
    rw [List.cons_append, List.lookup_cons, List.lookup_cons]
    split
    · rfl
    · exact ih
/-- where a scope's variables lie: its own from b on, up to b those of the scopes around -/
noncomputable def mkPk (k : NameKind) (a b : Option (Str ⊕ Addr)) : Option (Str ⊕ Addr) := match k with | .local => a | .cell => b | _ => none
noncomputable def mkPl (b : Nat) (ol : List (Str × NameKind)) (own : List (Str × Addr)) (up : Nat → Option (Str ⊕ Addr)) (i : Nat) : Option (Str ⊕ Addr) :=
  if i < b then up i else ol[i - b]?.bind fun p => mkPk p.2 (some (.inl p.1)) ((own.lookup p.1).map .inr)
theorem sub_canc {a b c : Nat} (h : c ≤ a) (h2 : c ≤ b) (e : a - c = b - c) : a = b := by lia
theorem lc_ne {k : NameKind} (h : k = .local ∨ k = .cell) : some k ≠ some .free := by rcases h with rfl | rfl <;> exact fun h => nomatch h
theorem cellsFrom_app : ∀ (names : List (Str × NameKind)) (n : Nat) (acc : List (Str × Addr)), cellsFrom n names acc = cellsFrom n names [] ++ acc
  | [], n, acc => rfl
  | (x, k) :: r, n, acc => by
    unfold cellsFrom
    split
    · rw [cellsFrom_app r (n + 1) ((x, n) :: acc), cellsFrom_app r (n + 1) [(x, n)], List.append_assoc]; rfl
    · exact cellsFrom_app r n acc
theorem cellsFrom_mem : ∀ (names : List (Str × NameKind)) (n : Nat) {x : Str} {c : Addr}, (x, c) ∈ cellsFrom n names [] → (x, .cell) ∈ names ∧ n ≤ c
  | [], n, x, c, h => nomatch h
  | (y, k) :: r, n, x, c, h => by
    unfold cellsFrom at h
    split at h
    · rename_i hk
      rw [cellsFrom_app] at h
      rcases List.mem_append.mp h with h | h
      · obtain ⟨a, b⟩ := cellsFrom_mem r (n + 1) h
        exact ⟨.tail _ a, Nat.le_of_succ_le b⟩
      · rcases List.mem_cons.mp h with h | h
        · cases h
          rw [eq_of_beq hk]
          exact ⟨.head _, Nat.le_refl _⟩
        · cases h
    · obtain ⟨a, b⟩ := cellsFrom_mem r n h
      exact ⟨.tail _ a, b⟩
theorem cellsFrom_has : ∀ (names : List (Str × NameKind)) (n : Nat) {x : Str}, (x, .cell) ∈ names → ∃ c, (cellsFrom n names []).lookup x = some c
  | [], n, x, h => nomatch h
  | (y, k) :: r, n, x, h => by
    unfold cellsFrom
    rcases List.mem_cons.mp h with h | h
    · cases h
      rw [if_pos (show (NameKind.cell == NameKind.cell) = true from rfl), cellsFrom_app, look_app]
      split
      · exact ⟨_, rfl⟩
      · exact ⟨n, by simp⟩
    · split
      · obtain ⟨c, e⟩ := cellsFrom_has r (n + 1) h
        exact ⟨c, by rw [cellsFrom_app, look_app, e]⟩
      · exact cellsFrom_has r n h
theorem cellsFrom_apart (names : List (Str × NameKind)) : ∀ (n : Nat), (cellsFrom n names []).Pairwise fun x y => x.2 ≠ y.2 := by
  induction names with
  | nil => intro n; exact .nil
  | cons p r ih =>
    intro n
    obtain ⟨y, k⟩ := p
    unfold cellsFrom
    split
    · rw [cellsFrom_app, List.pairwise_append]
      refine ⟨ih _, List.pairwise_singleton _ _, fun a ha b hb => ?_⟩
      rcases List.mem_cons.mp hb with rfl | hb
      · obtain ⟨a1, a2⟩ := a
        have := (cellsFrom_mem r _ ha).2
        exact fun e => by cases (show a2 = n from e); exact Nat.lt_irrefl _ this
      · cases hb
    · exact ih n
/-- what a scope's layout rests on -/
structure Base (G : GM) (env : Env) (vis : Vis) (sc : Scope) (L n : Nat) (cl : List (Str × Addr)) (up : Nat → Option (Str ⊕ Addr)) : Prop where
  nd : (sc.names.map (·.1)).Nodup
  kind : env.scope.kind = .function
  gl : env.globals = mainGlobals
  bl : env.builtins = builtinsNs
  fr : env.locals = L
  look : ∀ x, (kOf sc x ≠ some .free → env.kindOf x = kOf sc x) ∧ (kOf sc x = some .free → env.kindOf x = some .free ∨ env.kindOf x = some .cell)
  cells : env.cells = cellsFrom n sc.names [] ++ cl
  free : ∀ x i, kOf sc x = some .free → vis.lookup x.cps.toList = some i → ∃ c, cl.lookup x = some c ∧ up i = some (.inr c)
  ups : ∀ i p, up i = some p → i < vis.length ∧ ∃ c o, p = .inr c ∧ G c = some o ∧ c < n
  upinj : ∀ i j p, up i = some p → up j = some p → i = j
  lt : L < n
noncomputable def mkL (vis : Vis) (sc : Scope) (L n : Nat) (up : Nat → Option (Str ⊕ Addr)) : Lay := ⟨L, (cellsFrom n sc.names []).map (·.2), mkPl vis.length (ownL sc) (cellsFrom n sc.names []) up⟩
theorem ownL_mem {sc : Scope} {x : Str} {k : NameKind} : (x, k) ∈ ownL sc ↔ (x, k) ∈ sc.names ∧ (k = .local ∨ k = .cell) ∧ x.cps.toList ≠ [46, 48] := by
  unfold ownL
  rw [List.mem_filter]
  simp
section
variable {G : GM} {env : Env} {vis : Vis} {sc : Scope} {L n : Nat} {cl : List (Str × Addr)} {up : Nat → Option (Str ⊕ Addr)}
theorem nm_own (B : Base G env vis sc L n cl up) {x : Str} {i : Nat} (h : nmOf (ownIds sc vis.length ++ vis) sc x = some (.loc i)) :
    (vis.length ≤ i ∧ ∃ k, (ownL sc)[i - vis.length]? = some (x, k) ∧ kOf sc x = some k ∧ (k = .local ∨ k = .cell)) ∨ (kOf sc x = some .free ∧ vis.lookup x.cps.toList = some i) := by
  obtain ⟨hodd, h⟩ := nmOf_inv h
  rcases h with ⟨k, j, hk, hk', hj, e⟩ | ⟨-, h⟩
  · cases Nm.loc.inj e
    rw [look_app] at hj
    unfold ownIds at hj
    have hm : (ownL sc).map (fun p => p.1.cps.toList) = ((ownL sc).map (·.1)).map (·.cps.toList) := by rw [List.map_map]; rfl
    rw [hm] at hj
    generalize hl : (((ownL sc).map (·.1)).map (·.cps.toList)).zipIdx vis.length = lk at hj
    generalize hv : lk.lookup x.cps.toList = o at hj
    subst hl
    have no : (x, k) ∈ sc.names → (k = .local ∨ k = .cell) → x ∈ (ownL sc).map (·.1) := fun m q => List.mem_map.mpr ⟨(x, k), ownL_mem.mpr ⟨m, q, fun e => by
      unfold oddName at hodd
      rw [beq_iff_eq.mpr e, Bool.or_true] at hodd
      cases hodd⟩, rfl⟩
    rcases o with _ | v
    · have nn := zl_none hv
      refine .inr ⟨?_, hj⟩
      rcases hk' with q | q | q
      · exact (nn (no (kOf_mem hk) (.inl q))).elim
      · exact (nn (no (kOf_mem hk) (.inr q))).elim
      · exact q ▸ hk
    · cases Option.some.inj hj
      obtain ⟨h1, h2⟩ := zl hv
      rw [List.getElem?_map] at h2
      obtain ⟨⟨x', k'⟩, hp, hx⟩ := Option.map_eq_some_iff.mp h2
      cases (show x' = x from hx)
      obtain ⟨m1, m2, _⟩ := ownL_mem.mp (List.mem_of_getElem? hp)
      cases nodup_snd B.nd m1 (kOf_mem hk)
      exact .inl ⟨h1, _, hp, hk, m2⟩
  · exact (gName_noloc h).elim
theorem nm_glo' {vis : Vis} {sc : Scope} {x : Str} {nm : Nm} (h : nmOf vis sc x = some nm) (hn : ∀ i, nm ≠ .loc i) : kOf sc x = some .globalImplicit := by
  rcases (nmOf_inv h).2 with ⟨_, i, -, -, -, e⟩ | ⟨hk, -⟩
  · exact absurd e (hn i)
  · exact hk
theorem nodup_at {α : Type} {l : List α} (h : l.Nodup) {i j : Nat} {a : α} (x : l[i]? = some a) (y : l[j]? = some a) : i = j := by
  induction l generalizing i j with
  | nil => simp at x
  | cons b l ih =>
    obtain ⟨h1, h2⟩ := List.nodup_cons.mp h
    rcases i with _ | i
    ·
      rcases j with _ | j
      · rfl
      ·
        simp at x y
        exact (h1 (x ▸ List.mem_of_getElem? y)).elim
    ·
      rcases j with _ | j
      ·
        simp at x y
        exact (h1 (y ▸ List.mem_of_getElem? x)).elim
      ·
        simp at x y
        rw [ih h2 x y]
theorem ownL_nodup (h : (sc.names.map (·.1)).Nodup) : ((ownL sc).map (·.1)).Nodup := by
  unfold ownL
  exact List.Sublist.nodup (List.Sublist.map _ List.filter_sublist) h
theorem mkPl_own {b : Nat} {ol : List (Str × NameKind)} {own : List (Str × Addr)} {i : Nat} {p : Str ⊕ Addr} (h : mkPl b ol own up i = some p) :
    (i < b ∧ up i = some p) ∨ (b ≤ i ∧ ∃ x, (ol[i - b]? = some (x, .local) ∧ p = .inl x) ∨ (ol[i - b]? = some (x, .cell) ∧ ∃ c, own.lookup x = some c ∧ p = .inr c)) := by
  by_cases hi : i < b
  · exact .inl ⟨hi, (if_pos hi).symm.trans h⟩
  · refine .inr ⟨Nat.le_of_not_lt hi, Option.bind1 ((if_neg hi).symm.trans h) fun q hq h => ?_⟩
    obtain ⟨x, k⟩ := q
    cases k with
    | «local» => exact ⟨x, .inl ⟨hq, (Option.some.inj h).symm⟩⟩
    | cell => exact Option.map1 h fun c e1 e2 => ⟨x, .inr ⟨hq, c, e1, e2.symm⟩⟩
    | _ => exact noneE h
theorem layOk (B : Base G env vis sc L n cl up) : LayOk G (mkL vis sc L n up) env (ownIds sc vis.length ++ vis) sc where
  kind := B.kind
  gl := B.gl
  bl := B.bl
  fr := B.fr
  loc x i h := by
    rcases nm_own B h with ⟨h1, k, h2, h3, h4⟩ | ⟨h1, h2⟩
    · have hk := (B.look x).1 (h3 ▸ lc_ne h4)
      rw [h3] at hk
      have hpl : (mkL vis sc L n up).pl i = mkPk k (some (.inl x)) (((cellsFrom n sc.names []).lookup x).map .inr) := by show mkPl _ _ _ _ _ = _; unfold mkPl; rw [if_neg (Nat.not_lt.mpr h1), h2]; rfl
      rcases h4 with rfl | rfl
      · exact .inl ⟨hk, hpl⟩
      · obtain ⟨c, hc⟩ := cellsFrom_has sc.names n (kOf_mem h3)
        exact .inr ⟨.inl hk, c, by rw [B.cells, look_app, hc], hpl.trans (congrArg (Option.map Sum.inr) hc)⟩
    · obtain ⟨c, h3, h4⟩ := B.free x i h1 h2
      refine .inr ⟨((B.look x).2 h1).symm, c, ?_, ?_⟩
      · rw [B.cells, look_app]
        split
        · rename_i v hv
          have := (cellsFrom_mem _ _ (mem_of_lookup hv)).1
          have := nodup_snd B.nd this (kOf_mem h1)
          cases this
        · exact h3
      · show mkPl _ _ _ _ _ = _
        unfold mkPl
        rw [if_pos (B.ups i _ h4).1]
        exact h4
  glo x nm h hn := by
    have := nm_glo' h hn
    rw [(B.look x).1 (by rw [this]; simp), this]
  cel i c h := by
    rcases mkPl_own h with ⟨_, h2⟩ | ⟨_, x, ⟨_, h2⟩ | ⟨_, c', h2, h3⟩⟩
    · obtain ⟨_, c', o, e, g, _⟩ := B.ups i _ h2
      cases e
      exact .inr ⟨o, g⟩
    · cases h2
    · cases h3
      exact .inl (List.mem_map.mpr ⟨_, mem_of_lookup h2, rfl⟩)
  inj i j p hi hj := by
    have nd := ownL_nodup B.nd
    have at1 : ∀ {x : Str} {k k' : NameKind}, (ownL sc)[i - vis.length]? = some (x, k) → (ownL sc)[j - vis.length]? = some (x, k') → i - vis.length = j - vis.length := fun {x k k'} a b =>
      nodup_at nd (a := x) (by rw [List.getElem?_map, a]; rfl) (by rw [List.getElem?_map, b]; rfl)
    rcases mkPl_own hi with ⟨h1, h2⟩ | ⟨h1, x, ⟨h2, rfl⟩ | ⟨h2, c', h3, rfl⟩⟩
    · obtain ⟨_, c, o, rfl, g, lt⟩ := B.ups i _ h2
      rcases mkPl_own hj with ⟨k1, k2⟩ | ⟨k1, y, ⟨k2, k3⟩ | ⟨k2, c', k3, k4⟩⟩
      · exact B.upinj i j _ h2 k2
      · cases k3
      · cases k4
        have := (cellsFrom_mem _ _ (mem_of_lookup k3)).2
        exact absurd (Nat.lt_of_lt_of_le lt this) (Nat.lt_irrefl _)
    · rcases mkPl_own hj with ⟨k1, k2⟩ | ⟨k1, y, ⟨k2, k3⟩ | ⟨k2, c', k3, k4⟩⟩
      · obtain ⟨_, c, o, e, g, lt⟩ := B.ups j _ k2
        cases e
      · cases k3
        exact sub_canc h1 k1 (at1 h2 k2)
      · cases k4
    · rcases mkPl_own hj with ⟨k1, k2⟩ | ⟨k1, y, ⟨k2, k3⟩ | ⟨k2, c'', k3, k4⟩⟩
      · obtain ⟨_, c, o, e, g, lt⟩ := B.ups j _ k2
        cases e
        have := (cellsFrom_mem _ _ (mem_of_lookup h3)).2
        exact absurd (Nat.lt_of_lt_of_le lt this) (Nat.lt_irrefl _)
      · cases k3
      · cases k4
        have := name_of_addr (cellsFrom_apart sc.names n) (mem_of_lookup h3) (mem_of_lookup k3)
        subst this
        exact sub_canc h1 k1 (at1 h2 k2)
  nd := by
    show (L :: (cellsFrom n sc.names []).map (·.2)).Nodup
    refine List.nodup_cons.mpr ⟨fun m => ?_, ?_⟩
    · obtain ⟨⟨x, c⟩, h1, h2⟩ := List.mem_map.mp m
      have := (cellsFrom_mem _ _ h1).2
      have h2 : c = L := h2
      have := B.lt
      lia
    · rw [List.nodup_iff_pairwise_ne, List.pairwise_map]
      exact cellsFrom_apart sc.names n
  nloc x i h hl := by
    intro e
    cases hk : kOf sc x with
    | none => rw [(B.look x).1 (by rw [hk]; simp), hk] at e; cases e
    | some k =>
      by_cases q : k = .free
      · subst q
        rcases (B.look x).2 hk with r | r <;> rw [r] at e <;> cases e
      · rw [(B.look x).1 (by rw [hk]; simpa using q), hk] at e
        cases e
        unfold isLocal at hl
        rw [hk] at hl
        cases hl
  sto x i h hf := by
    rcases nm_own B h with ⟨h1, k, h2, h3, h4⟩ | ⟨h1, h2⟩
    · have hk := (B.look x).1 (h3 ▸ lc_ne h4)
      refine ⟨hk ▸ h3 ▸ lc_ne h4, fun c hc => ?_⟩
      rcases mkPl_own hc with ⟨k1, _⟩ | ⟨_, y, ⟨_, k3⟩ | ⟨_, c', k3, k4⟩⟩
      · lia
      · cases k3
      · cases k4
        exact List.mem_map.mpr ⟨_, mem_of_lookup k3, rfl⟩
    · unfold isFree at hf
      rw [h1] at hf
      cases hf
  vl i p h := by
    have hl : (ownIds sc vis.length ++ vis).length = (ownL sc).length + vis.length := by unfold ownIds; simp
    rw [hl]
    rcases mkPl_own h with ⟨k1, _⟩ | ⟨_, y, ⟨k3, _⟩ | ⟨k3, _⟩⟩
    · lia
    · have := (List.getElem?_eq_some_iff.mp k3).1; lia
    · have := (List.getElem?_eq_some_iff.mp k3).1; lia
end
/-! ### the closure -/
noncomputable def closL (env : Env) : List (Str × NameKind) → List (Str × Addr) → List (Str × Addr)
  | [], acc => acc
  | (n, k) :: r, acc => if k == .free then closL env r ((n, (env.cells.lookup n).getD 0) :: acc) else closL env r acc
theorem closure_ok {scope : Scope} {env : Env} (h : ∀ x ∈ scope.names, x.2 = .free → ∃ c, env.cells.lookup x.1 = some c) : closureFor scope env = pure (closL env scope.names []) := by
  have key : ∀ (names : List (Str × NameKind)), (∀ x ∈ names, x.2 = .free → ∃ c, env.cells.lookup x.1 = some c) → ∀ acc : List (Str × Addr),
      (forIn names acc fun (x : Str × NameKind) r => if (x.2 == NameKind.free) = true then (do let a ← cellOf env x.1; pure (ForInStep.yield ((x.1, a) :: r))) else pure (ForInStep.yield r) : Sem (List (Str × Addr))) = pure (closL env names acc) := by
    intro names
    induction names with
    | nil => intro _ acc; rfl
    | cons x l ih =>
      intro hx acc
      obtain ⟨n, k⟩ := x
      rw [List.forIn_cons]
      unfold closL
      by_cases q : (k == NameKind.free) = true
      · obtain ⟨c, hc⟩ := hx (n, k) (.head _) (eq_of_beq q)
        have e : cellOf env n = pure c := by unfold cellOf; rw [hc]
        dsimp only
        rw [if_pos q, if_pos q, e, pure_bind, pure_bind]
        show forIn l ((n, c) :: acc) _ = _
        rw [ih (fun y hy => hx y (.tail _ hy)), hc]; rfl
      · dsimp only
        rw [if_neg q, if_neg q, pure_bind]
        exact ih (fun y hy => hx y (.tail _ hy)) acc
  exact (congrArg (fun m : Sem (List (Str × Addr)) => m >>= fun r => pure r) (key _ h [])).trans (pure_bind _ _)
theorem closL_app (env : Env) : ∀ (names : List (Str × NameKind)) (acc : List (Str × Addr)), closL env names acc = closL env names [] ++ acc
  | [], acc => rfl
  | (n, k) :: r, acc => by
    unfold closL
    split
    · rw [closL_app env r (_ :: acc), closL_app env r [_], List.append_assoc]; rfl
    · exact closL_app env r acc
theorem closL_look (env : Env) {x : Str} {c : Addr} (hc : env.cells.lookup x = some c) : ∀ (names : List (Str × NameKind)), (x, .free) ∈ names → (closL env names []).lookup x = some c
  | [], h => nomatch h
  | (n, k) :: r, h => by
    unfold closL
    by_cases hm : (x, NameKind.free) ∈ r
    · have := closL_look env hc r hm
      split
      · rw [closL_app, look_app, this]
      · exact this
    · rcases List.mem_cons.mp h with e | e
      · cases e
        rw [if_pos (show (NameKind.free == NameKind.free) = true from rfl), closL_app, look_app]
        split
        · rename_i v hv
          -- then x is free later on
          have : ∀ (l : List (Str × NameKind)) {v : Addr}, (closL env l []).lookup x = some v → (x, NameKind.free) ∈ l := by
            intro l
            induction l with
            | nil => intro v h; cases h
            | cons p l ih =>
              intro v h
              obtain ⟨m, k'⟩ := p
              unfold closL at h
              split at h
              · rename_i hk
                rw [closL_app, look_app] at h
                split at h
                · rename_i u hu; exact .tail _ (ih hu)
                · rw [List.lookup_cons] at h
                  split at h
                  · rename_i hx; rw [eq_of_beq hx, eq_of_beq hk]; exact .head _
                  · cases h
              · exact .tail _ (ih h)
          exact absurd (this r hv) hm
        · rw [List.lookup_cons, beq_self_eq_true, hc]; rfl
      · exact absurd e hm
theorem newEnvComp {M : Model} {A : Around} {E : Value → Shared → Prop} {s : Shared} {scope : Scope} {globals : Addr} {cl : List (Str × Addr)} {qual : Str} {env : Env} {Q : Env → Shared → Prop}
    (h : Q { scope, locals := s.heap.objs.size, globals, cells := cellsFrom (s.heap.objs.size + 1) scope.names cl, qual, func := none, code := env.code, frame := env.frame, builtins := env.builtins } { s with heap := pushCells (s.heap.push { cls := .type "dict", data := .dict #[] }) scope.names }) :
    wpAny M A (newFunctionEnv scope globals cl [] qual none .none (some env)) Q E s := by
  simp only [newFunctionEnv, Option.isSome_some, if_true]
  refine wpAny_bind (wpAny_alloc ?_)
  refine wpAny_bind (wpAny_layCells _ (fun name kind cells => by cases hkc : kind == NameKind.cell <;> simp [hkc]) _ _ _ _ ?_)
  rw [show ({ s with heap := s.heap.push { cls := .type "dict", data := .dict #[] } } : Shared).heap.objs.size = s.heap.objs.size + 1 from Heap.size_push ..]
  exact wpAny_bind (wpAny_pure (wpAny_pure h))
theorem relabel_look {env : Env} {x : Str} : ∀ {names : List (Str × NameKind)},
    (names.map fun (n, k) => if (k == NameKind.free && env.scope.kind == .function && env.kindOf n == some .cell) then (n, NameKind.cell) else (n, k)).lookup x
      = (names.lookup x).map fun k => if (k == NameKind.free && env.scope.kind == .function && env.kindOf x == some .cell) then NameKind.cell else k
  | [] => rfl
  | (n, k) :: r => by
    have e : (if (k == NameKind.free && env.scope.kind == .function && env.kindOf n == some .cell) then (n, NameKind.cell) else (n, k)) = (n, if (k == NameKind.free && env.scope.kind == .function && env.kindOf n == some .cell) then NameKind.cell else k) := by split <;> rfl
    rw [List.map_cons]
    show ((if (k == NameKind.free && env.scope.kind == .function && env.kindOf n == some .cell) = true then (n, NameKind.cell) else (n, k)) :: _).lookup x = _
    rw [e, List.lookup_cons, List.lookup_cons]
    cases hx : x == n with
    | true =>
      have := eq_of_beq hx
      subst this
      rfl
    | false => exact relabel_look (names := r)
theorem tests_no {cs : List Expr} {env : Env} : (forIn cs false fun c r => if r = true then do let ok ← isTrue c env (eval c env); pure (ForInStep.yield ok) else pure (ForInStep.yield r) : Sem Bool) = pure false := by
  induction cs with
  | nil => rfl
  | cons c cs ih => rw [List.forIn_cons, if_neg (by decide), pure_bind]; exact ih
section
variable {prog : Program} {w : World} {A : Around} {E : Value → Shared → Prop} {R : Result → Shared → Prop} {s : Shared}
theorem compLoop_own {elt target iter : Expr} {ifs : List Expr} {scope : Scope} {pos : Pos} {it acc : Value} {env : Env} (I : Nat → Shared → Prop)
    (turn : ∀ n s, I n s → wpAny (model prog w) A (pyNext it) (fun r s₁ => match r with
      | none => R (.ok .next) s₁
      | some v => wpAny (model prog w) A (letOwnedTupleGo target it v) (fun _ s₁' => wpAny (model prog w) A (assign target env v) (fun _ s₂ =>
          wpAny (model prog w) A (forIn ifs true fun c r => if r = true then do let ok ← isTrue c env (eval c env); pure (ForInStep.yield ok) else pure (ForInStep.yield r)) (fun ok s₃ =>
            if ok = true then wpAny (model prog w) A (eval elt env) (fun x s₄ =>
              wpAny (model prog w) A (call (.builtin "list.append") [acc, x]) (fun _ s₅ => ∃ m, m < n ∧ I m s₅) (notedBy (model prog w) A env fun e s' => R (.error e) s') s₄) (notedBy (model prog w) A env fun e s' => R (.error e) s') s₃
            else ∃ m, m < n ∧ I m s₃) (notedBy (model prog w) A env fun e s' => R (.error e) s') s₂) (notedBy (model prog w) A env fun e s' => R (.error e) s') s₁') (notedBy (model prog w) A env fun e s' => R (.error e) s') s₁) (notedBy (model prog w) A env fun e s' => R (.error e) s') s)
    (n : Nat) (h : I n s) :
    codeAny (model prog w) A (.compLoop (.ListComp elt [⟨target, iter, ifs, 0⟩] scope pos) 0 it acc env) R s := by
  refine codeAny_loop rfl I (fun n s hI => ?_) n h
  show wpAny _ A ((compTurn (.ListComp elt [⟨target, iter, ifs, 0⟩] scope pos) 0 it acc env).onRaise (fun x => do noteFrame x env; theTreesLotGoes x)) _ _ s
  refine wpAny_noted ?_
  rw [compTurn_list]
  refine wpAny_bind (wpAny_standAt (wpAny_bind (wpAny_mono (turn n s hI) (fun r s₁ h₁ => ?_) fun _ _ h' => h')))
  rcases r with _ | v
  · exact wpAny_pure h₁
  ·
    refine wpAny_bind (wpAny_mono h₁ (fun _ s₁' h₁' => ?_) fun _ _ h' => h')
    refine wpAny_bind (wpAny_mono h₁' (fun _ s₂ h₂ => wpAny_bind (wpAny_mono h₂ (fun ok s₃ h₃ => ?_) fun _ _ h' => h')) fun _ _ h' => h')
    rcases ok with _ | _
    · exact wpAny_pure ⟨rfl, h₃⟩
    ·
      exact wpAny_bind (wpAny_bind (wpAny_mono h₃ (fun x s₄ h₄ => wpAny_bind (wpAny_mono h₄ (fun _ s₅ h₅ => wpAny_pure (wpAny_pure ⟨rfl, h₅⟩)) fun _ _ h' => h')) fun _ _ h' => h'))
end
section
variable {F : Fn} {n : Nat} {C : Cx} {Z Z' : ZM} {as as' : AS} {ρ ρ' : Ev} {μ μ' : Mu} {s s' : Shared} {E : Value → Shared → Prop}
theorem tests_ok (SB : SoundB F n) {k : Nat} (K : C.Ok n) : ∀ (cs : List Expr) (μ : Mu) (b : Bool) (μ' : Mu), allB F ρ μ (cs.map (compE k C.vis C.sc)) = .ok (b, μ') → ∀ Z as s (Q : Bool → Shared → Prop), St C Z as ρ μ s → (∀ Z' as' s', ZLe Z Z' → as <+: as' → St C Z' as' ρ μ' s' → Q b s') →
    wpAny (model pT C.w) C.A (forIn cs true fun c r => if r = true then do let ok ← isTrue c C.env (eval c C.env); pure (ForInStep.yield ok) else pure (ForInStep.yield r)) Q E s
  | [], μ, b, μ', e, Z, as, s, Q, S, P => by
    simp only [List.map_nil, allB] at e; cases e
    exact wpAny_pure (P _ _ _ (.refl _) (List.prefix_refl _) S)
  | c :: cs, μ, b, μ', e, Z, as, s, Q, S, P => by
    rw [List.map_cons, allB] at e
    refine Res.bind2 e fun t μ₁ e1 e2 => ?_
    rw [List.forIn_cons, if_pos rfl]
    refine wpAny_bind (wpAny_bind (SB k c C ρ μ t μ₁ e1 K Z as s _ E S fun Z₁ as₁ s₁ l₁ p₁ S₁ => wpAny_pure ?_))
    rcases t with _ | _
    ·
      cases e2
      show wpAny _ _ (forIn cs false _) _ _ _
      rw [tests_no]
      exact wpAny_pure (P _ _ _ l₁ p₁ S₁)
    ·
      exact tests_ok SB K cs μ₁ b μ' e2 Z₁ as₁ s₁ Q S₁ fun Z₂ as₂ s₂ l₂ p₂ S₂ => P _ _ _ (l₁.trans l₂) (p₁.trans p₂) S₂
/-- what was known of the variables around is known still -/
theorem St.reb {ρ₀ : Ev} {μ₀ : Mu} {s₀ : Shared} (S₀ : St C Z as ρ₀ μ₀ s₀) (S : St C Z' as' ρ μ s) (z : ZLe Z Z') (p : as <+: as') (h : ∀ i v, ρ₀[i]? = some (some v) → (∀ nm, C.L.pl i ≠ some (.inl nm)) ∧ ∀ c, C.L.pl i = some (.inr c) → ∃ o, C.G c = some o) : St C Z' as' ρ₀ μ s := by
  refine ⟨S.c, ⟨?_, fun i c v a b => ?_, S.l.own⟩, S.os, S.gens⟩
  · obtain ⟨m, hm, _⟩ := S.l.ns
    exact ⟨m, hm, fun i nm v a b => absurd a ((h i v b).1 nm)⟩
  · obtain ⟨o, g⟩ := (h i v b).2 c a
    obtain ⟨x, ⟨o', e, d⟩, r⟩ := S₀.l.cel i c v a b
    obtain ⟨sl, e0⟩ := (S₀.c.g c o g).to
    rw [e] at e0; cases e0
    obtain ⟨sl', e1⟩ := (S.c.g c o g).to
    exact ⟨x, ⟨_, e1, d⟩, r.mono z p⟩
theorem clr_some {b i : Nat} {v : V} (h : (clr b ρ)[i]? = some (some v)) : i < b ∧ ρ[i]? = some (some v) := by
  unfold clr at h
  by_cases q : i < (ρ.take b).length
  · rw [List.getElem?_append_left q, List.getElem?_take] at h
    split at h
    · rename_i hb; exact ⟨hb, h⟩
    · cases h
  · rw [List.getElem?_append_right (by lia), List.getElem?_replicate] at h
    split at h <;> cases h
end
noncomputable def Lay.up (L : Lay) (i : Nat) : Option (Str ⊕ Addr) := match L.pl i with | some (.inr c) => some (.inr c) | _ => none
theorem Lay.up_inv {L : Lay} {i : Nat} {p : Str ⊕ Addr} (h : L.up i = some p) : L.pl i = some p ∧ ∃ c, p = .inr c := by
  unfold Lay.up at h
  generalize L.pl i = o at *
  rcases o with _ | y
  · exact noneE h
  · cases y with
    | inl => exact noneE h
    | inr c => exact ⟨h, c, (Option.some.inj h).symm⟩
noncomputable def compE' (csc : Scope) (h : Heap) (env : Env) : Env := { scope := relabel csc env, locals := h.objs.size, globals := env.globals, cells := cellsFrom (h.objs.size + 1) csc.names (closL env csc.names []), qual := env.qual, func := none, code := env.code, frame := env.frame, builtins := env.builtins }
/-- inside a comprehension -/
noncomputable def Cx.cp (C : Cx) (h : Heap) (csc : Scope) : Cx := { C with
  G := guardG C.G h (C.L.fr :: C.L.cs) C.L.fr, env := compE' csc h C.env, L := mkL C.vis csc h.objs.size (h.objs.size + 1) C.L.up, vis := ownIds csc C.vis.length ++ C.vis, sc := csc }
section
variable {F : Fn} {n : Nat} {C : Cx} {Z Z' : ZM} {as as' : AS} {ρ ρ' : Ev} {μ μ' : Mu} {s s' : Shared} {E : Value → Shared → Prop}
theorem okComp_inv {vis : Vis} {sc csc : Scope} (h : okComp vis sc csc = true) : csc.kind = .function ∧ (csc.names.map (·.1)).Nodup ∧ ∀ x, kOf csc x = some .free → ∃ i, nmOf vis sc x = some (.loc i) ∧ isLocal sc x = false := by
  unfold okComp at h
  refine and2 h fun h1 h2 => ?_
  refine and2 h1 fun h1 h3 => ?_
  refine ⟨eq_of_beq h1, ndS_mem h3, fun x hx => ?_⟩
  refine and2 (List.all_eq_true.mp h2 _ (kOf_mem hx)) fun a b => ?_
  have b : isLocal sc x = false := by rwa [Bool.not_eq_true'] at b
  generalize hn : nmOf vis sc x = o at *
  rcases o with _ | nm
  · exact falseE a
  · cases nm with
    | loc i => exact ⟨i, rfl, b⟩
    | _ => exact falseE a
theorem free_cell (K : C.Ok n) {x : Str} {i : Nat} (h1 : nmOf C.vis C.sc x = some (.loc i)) (h2 : isLocal C.sc x = false) : ∃ c, C.env.cells.lookup x = some c ∧ C.L.pl i = some (.inr c) := by
  rcases K.lay.loc x i h1 with ⟨a, _⟩ | ⟨_, r⟩
  · exact absurd a (K.lay.nloc x i h1 h2)
  · exact r
theorem nm_vis {vis : Vis} {sc : Scope} {x : Str} {i : Nat} (h : nmOf vis sc x = some (.loc i)) : vis.lookup x.cps.toList = some i := by
  rcases (nmOf_inv h).2 with ⟨_, j, -, -, hj, e⟩ | ⟨-, h⟩
  · rw [Nm.loc.inj e]; exact hj
  · exact (gName_noloc h).elim
theorem base_cp (S : St C Z as ρ μ s) (K : C.Ok n) {csc : Scope} (hc : okComp C.vis C.sc csc = true) :
    Base (guardG C.G s.heap (C.L.fr :: C.L.cs) C.L.fr) (compE' csc s.heap C.env) C.vis csc s.heap.objs.size (s.heap.objs.size + 1) (closL C.env csc.names []) C.L.up := by
  obtain ⟨h1, h2, h3⟩ := okComp_inv hc
  have hl : ∀ x, (compE' csc s.heap C.env).kindOf x = (kOf csc x).map fun k => if (k == NameKind.free && C.env.scope.kind == .function && C.env.kindOf x == some .cell) then NameKind.cell else k := fun x => by
    rw [← kOf_lookup]
    exact relabel_look
  refine ⟨h2, h1, K.lay.gl, K.lay.bl, rfl, fun x => ⟨fun hx => ?_, fun hx => ?_⟩, cellsFrom_app _ _ _, fun x i hx hv => ?_, fun i p hp => ?_, fun i j p hi hj => ?_, Nat.lt_succ_self _⟩
  · rw [hl]
    cases hk : kOf csc x with
    | none => rfl
    | some k =>
      rw [hk] at hx
      have : (k == NameKind.free) = false := by cases k <;> first | rfl | exact absurd rfl hx
      rw [Option.map_some, this, Bool.false_and, Bool.false_and, if_neg (by decide)]
  · rw [hl, hx]
    simp only [Option.map_some]
    split
    · exact .inr rfl
    · exact .inl rfl
  · obtain ⟨j, h4, h5⟩ := h3 x hx
    have := nm_vis h4
    rw [hv] at this; cases this
    obtain ⟨c, e1, e2⟩ := free_cell K h4 h5
    exact ⟨c, closL_look C.env e1 _ (kOf_mem hx), by unfold Lay.up; rw [e2]⟩
  · obtain ⟨h4, c, rfl⟩ := Lay.up_inv hp
    refine ⟨K.lay.vl i _ h4, c, ?_⟩
    rcases K.lay.cel i c h4 with m | ⟨o, g⟩
    · obtain ⟨⟨o, e⟩, _⟩ := S.c.exA c (.tail _ m)
      obtain ⟨o', g, _⟩ := guard_some (G := C.G) (fr := C.L.fr) (l := C.L.fr :: C.L.cs) (.tail _ m) e
      exact ⟨o', rfl, g, Nat.lt_succ_of_lt (Heap.lt_size e)⟩
    · obtain ⟨sl, e⟩ := (S.c.g _ _ g).to
      exact ⟨o, rfl, guard_keep S.gEx g, Nat.lt_succ_of_lt (Heap.lt_size e)⟩
  · exact K.lay.inj i j p (Lay.up_inv hi).1 (Lay.up_inv hj).1
theorem cp_ok (S : St C Z as ρ μ s) (K : C.Ok n) {csc : Scope} (hc : okComp C.vis C.sc csc = true) : (C.cp s.heap csc).Ok n where
  gnd := K.gnd
  base b o e := guard_keep S.gEx (K.base b o e)
  ao := K.ao
  lay := layOk (base_cp S K hc)
  frs := K.frs
  abv := by
    obtain ⟨o, e⟩ := S.frAlive
    exact Nat.le_trans K.abv (Nat.le_of_lt (Heap.lt_size e))
  fok e m := by
    obtain ⟨k, L, o, h1, h2, h3⟩ := (bx_ok S K (l := C.L.fr :: C.L.cs) (.head _) S.gEx).fok e m
    exact ⟨k, L, h1, h2, .inr ⟨o, h3⟩⟩
theorem pushCells_ns {h : Heap} {names : List (Str × NameKind)} : (pushCells (h.push { cls := .type "dict", data := .dict #[] }) names).Ns h.objs.size fun _ => none := (Heap.Ns.new h (.type "dict")).keeps (pushCells_keeps _ _)
theorem cp_in (S : St C Z as ρ μ s) (K : C.Ok n) {csc : Scope} (hc : okComp C.vis C.sc csc = true) :
    St (C.cp s.heap csc) Z as (clr C.vis.length ρ) μ { s with heap := pushCells (s.heap.push { cls := .type "dict", data := .dict #[] }) csc.names } := by
  have B := base_cp S K hc
  have kk : ∀ b o, s.heap.get? b = some o → (pushCells (s.heap.push { cls := .type "dict", data := .dict #[] }) csc.names).get? b = some o := fun b o e => pushCells_keeps _ _ b o (Heap.get?_push_of_some _ e)
  have ok := cellsFrom_ok csc.names (s.heap.push { cls := .type "dict", data := .dict #[] }) (s.heap.objs.size + 1) [] ⟨fun _ _ hm => (nomatch hm), List.Pairwise.nil⟩ (by rw [Heap.size_push]; exact Nat.le_refl _)
  rw [Heap.size_push] at ok
  have newA : ∀ a ∈ s.heap.objs.size :: (cellsFrom (s.heap.objs.size + 1) csc.names []).map (·.2), s.heap.get? a = none ∧ ∃ o, (pushCells (s.heap.push { cls := .type "dict", data := .dict #[] }) csc.names).get? a = some o := by
    intro a m
    rcases List.mem_cons.mp m with rfl | m
    · obtain ⟨o, _, _, e, _⟩ := pushCells_ns (h := s.heap) (names := csc.names)
      exact ⟨no_at_size _, o, e⟩
    · obtain ⟨⟨x, c⟩, h1, rfl⟩ := List.mem_map.mp m
      obtain ⟨⟨o, e, _⟩, h2⟩ := ok.empty x c h1
      refine ⟨?_, o, e⟩
      cases q : s.heap.get? c with
      | none => rfl
      | some o => exact absurd (Heap.lt_size q) (Nat.not_lt.mpr (Nat.le_of_succ_le h2))
  have notG : ∀ {a}, s.heap.get? a = none → guardG C.G s.heap (C.L.fr :: C.L.cs) C.L.fr a = none := fun {a} e => by
    cases q : guardG C.G s.heap (C.L.fr :: C.L.cs) C.L.fr a with
    | none => rfl
    | some o => obtain ⟨sl, this⟩ := (guard_get S (fun _ => K.abv) q).to; rw [e] at this; cases this
  have E := enterM S K
  refine ⟨⟨fun a f e => (S.c.z a f e).keep (kk a), fun a o e => (guard_get S (fun _ => K.abv) e).keep fun _ q => kk a _ q, E.c.vd, fun a m => ?_, S.c.len, fun i p q x y => (S.c.priv i p q x y).keep (.refl _) (List.prefix_refl _) fun a _ o e => kk a o e, fun i p q x y a m => ?_, S.c.sep⟩,
    ⟨⟨_, pushCells_ns, fun i nm v a b => ?_⟩, fun i c v a b => ?_, fun c m => ?_⟩, S.os, S.gens⟩
  · obtain ⟨e, o, e'⟩ := newA a m
    exact ⟨⟨o, e'⟩, (S.c.fresh e).1, notG e⟩
  · obtain ⟨z, g, _⟩ := E.c.own i p q x y a m
    refine ⟨z, g, fun m' => ?_⟩
    obtain ⟨o, e⟩ := (S.c.priv i p q x y).alive m
    rw [(newA a m').1] at e; cases e
  · obtain ⟨hb, hv⟩ := clr_some b
    rcases mkPl_own a with ⟨_, k2⟩ | ⟨k1, _⟩
    · obtain ⟨_, c, e⟩ := Lay.up_inv k2; cases e
    · lia
  · obtain ⟨hb, hv⟩ := clr_some b
    rcases mkPl_own a with ⟨_, k2⟩ | ⟨k1, _⟩
    · obtain ⟨k2, _⟩ := Lay.up_inv k2
      obtain ⟨x, ⟨o, e, d⟩, r⟩ := S.l.cel i c v k2 hv
      exact ⟨x, ⟨o, kk _ _ e, d⟩, r⟩
    · lia
  · obtain ⟨⟨x, c'⟩, h1, rfl⟩ := List.mem_map.mp m
    exact ⟨none, (ok.empty x c' h1).1⟩
theorem cp_out (S : St C Z as ρ μ s) (K : C.Ok n) {csc : Scope} (z : ZLe Z Z') (p : as <+: as') (S' : St (C.cp s.heap csc) Z' as' ρ' μ' s') :
    St C Z' as' ρ μ' s' ∧ Fresh Z' C.G (C.L.fr :: C.L.cs) as' μ' s.heap.objs.size ∧ ∃ m, s'.heap.Ns s.heap.objs.size m := by
  have X : Sc (C.bx s.heap (C.L.fr :: C.L.cs)) Z' as' μ' s' := ⟨⟨S'.c.z, S'.c.g, S'.c.vd, fun a m => (nomatch m), S'.c.len, S'.c.priv, fun i p q x y a m => let ⟨z, g, _⟩ := S'.c.own i p q x y a m; ⟨z, g, by simp⟩, S'.c.sep⟩, S'.os, S'.gens⟩
  refine ⟨leaveM S K z p X, ⟨(S'.c.exA _ (.head _)).2.1, (S.fresh (no_at_size _)).2.1, (S.fresh (no_at_size _)).2.2.1, fun i p q x y m => (S'.c.own i p q x y _ m).2.2 (.head _)⟩, ?_⟩
  obtain ⟨m, hm, _⟩ := S'.l.ns
  exact ⟨m, hm⟩
end
section
variable {F : Fn} {n : Nat} {C D : Cx} {Z Z' : ZM} {as as' : AS} {ρ ρ' : Ev} {μ μ' : Mu} {s s' : Shared} {E : Value → Shared → Prop}
inductive CInv (F : Fn) (D : Cx) (Z : ZM) (as : AS) (k : Nat) (ts : List Nat) (tp : Bool) (ifs : List Expr) (elt : Expr) (I : Addr) (il : Bool) (acc : Nat) (ρ : Ev) (μ' : Mu) (m : Nat) (s : Shared) : Prop
  | mk (Z₁ : ZM) (as₁ : AS) (μ₁ : Mu) (l : List Mine.D) (hl : l.length = m) (le : ZLe Z Z₁) (pre : as <+: as₁) (S : St D Z₁ as₁ ρ μ₁ s) (fr : Fresh Z₁ D.G (D.L.fr :: D.L.cs) as₁ μ₁ I) (it : ItS D.w Z₁ s.heap I il l) (e : compL F ρ ts tp (ifs.map (compE k D.vis D.sc)) (compE k D.vis D.sc elt) acc μ₁ l = .ok μ') : CInv F D Z as k ts tp ifs elt I il acc ρ μ' m s
theorem comp_loop (SX : SoundX F n) (SB : SoundB F n) {k : Nat} (K : D.Ok n) {elt target iter : Expr} {ifs : List Expr} {scope : Scope} {pos : Pos} {ts : List Nat} {tp il : Bool} (ht : tgts D.vis D.sc target = some (ts, tp)) (S : St D Z as ρ μ s)
    (out : ∀ i v, ρ[i]? = some (some v) → (∀ nm, D.L.pl i ≠ some (.inl nm)) ∧ ∀ c, D.L.pl i = some (.inr c) → ∃ o, D.G c = some o) {I : Addr} (fr : Fresh Z D.G (D.L.fr :: D.L.cs) as μ I) {l : List Mine.D} (it : ItS D.w Z s.heap I il l) (hi : tp = true → il = true)
    {acc : Nat} {q : Addr × Addr} (hacc : as[acc]? = some q) (e : compL F ρ ts tp (ifs.map (compE k D.vis D.sc)) (compE k D.vis D.sc elt) acc μ l = .ok μ') {R : Result → Shared → Prop} (P : ∀ Z' as' s', ZLe Z Z' → as <+: as' → St D Z' as' ρ μ' s' → R (.ok .next) s') :
    codeAny (model pT D.w) D.A (.compLoop (.ListComp elt [⟨target, iter, ifs, 0⟩] scope pos) 0 (.ref I) (.ref q.1) D.env) R s := by
  refine compLoop_own (CInv F D Z as k ts tp ifs elt I il acc ρ μ') (fun m s hm => ?_) l.length ⟨Z, as, μ, l, rfl, .refl _, List.prefix_refl _, S, fr, it, e⟩
  obtain ⟨Z₁, as₁, μ₁, l', rfl, l₁, p₁, S₁, fr₁, it₁, e₁⟩ := hm
  rcases l' with _ | ⟨a, l'⟩
  ·
    simp only [compL] at e₁; cases e₁
    exact next_end S₁ K fr₁ it₁ fun s₂ S₂ => P _ _ _ l₁ p₁ S₂
  ·
    rw [compL] at e₁
    refine next_item S₁ K fr₁ it₁ fun s₂ y S₂ it₂ ry => ?_
    refine optR e₁ fun ρ₂ hb e₁ => Res.bind2 e₁ fun b μ₃ e2 e3 => ?_
    refine letOwned_ok ht hb ry it₂ hi ?_
    have S₂' := gd_in S₂ fr₁
    have K₂ := gd_ok S₂ K fr₁
    obtain ⟨oI, hI⟩ := it₂.alive
    refine bindT_ok (C := D.gd s₂.heap I) S₂' K₂ ht hb ry fun s₃ S₃ => ?_
    refine tests_ok (C := D.gd s₂.heap I) SB K₂ ifs μ₁ b μ₃ e2 Z₁ as₁ s₃ _ S₃ fun Z₄ as₄ s₄ l₄ p₄ S₄ => ?_
    have back : ∀ {Z₅ : ZM} {as₅ : AS} {μ₅ : Mu} {s₅ : Shared}, ZLe Z₁ Z₅ → as₁ <+: as₅ → St (D.gd s₂.heap I) Z₅ as₅ ρ₂ μ₅ s₅ → compL F ρ ts tp (ifs.map (compE k D.vis D.sc)) (compE k D.vis D.sc elt) acc μ₅ l' = .ok μ' → ∃ m, m < (a :: l').length ∧ CInv F D Z as k ts tp ifs elt I il acc ρ μ' m s₅ := by
      intro Z₅ as₅ μ₅ s₅ l₅ p₅ S₅ e₅
      obtain ⟨S₆, fr₆, hI₆⟩ := gd_out S₂ fr₁ hI S₅
      exact ⟨l'.length, Nat.lt_succ_self _, ⟨Z₅, as₅, μ₅, l', rfl, l₁.trans l₅, p₁.trans p₅, S₂.reb S₆ l₅ p₅ out, fr₆, it₂.again l₅ hI hI₆, e₅⟩⟩
    rcases b with _ | _
    · exact back l₄ p₄ S₄ e3
    ·
      simp only [if_true] at e3
      refine Res.bind2 e3 fun v μ₅ e5 e6 => ?_
      rw [if_pos rfl]
      refine SX k elt (D.gd s₂.heap I) ρ₂ μ₃ v μ₅ e5 K₂ Z₄ as₄ s₄ _ _ S₄ fun Z₅ as₅ s₅ x l₅ p₅ S₅ rx => ?_
      have ha : as₅[acc]? = some q := by
        obtain ⟨t, rfl⟩ := p₁.trans (p₄.trans p₅)
        rw [List.getElem?_append_left (List.getElem?_eq_some_iff.mp hacc).1]; exact hacc
      have rq : VRep (D.gd s₂.heap I).w Z₅ as₅ (.ref q.1) (.r acc) := ⟨q, ha, rfl⟩
      exact Res.bind2 e6 fun w μ₆ e7 e8 => append_ok (C := D.gd s₂.heap I) (i := acc) (v := v) S₅ K₂ e7 rq rx fun Z₇ as₇ s₇ z l₇ p₇ S₇ _ => back (l₄.trans (l₅.trans l₇)) (p₄.trans (p₅.trans p₇)) S₇ e8
theorem kOf_of_mem {sc : Scope} (nd : (sc.names.map (·.1)).Nodup) {x : Str} {k : NameKind} (h : (x, k) ∈ sc.names) : kOf sc x = some k := by
  cases e : kOf sc x with
  | some k' => rw [nodup_snd nd h (kOf_mem e)]
  | none =>
    unfold kOf at e
    rw [Option.map_eq_none_iff, List.find?_eq_none] at e
    exact absurd (sEqL_iff.mpr rfl) (e _ h)
theorem itIter (it : ItS C.w Z s.heap I b l) {A : Around} {Q : Value → Shared → Prop} (P : Q (.ref I) s) : wpAny (model pT C.w) A (pyIter (.ref I)) Q E s := by
  cases it with
  | list z o c r => exact wpAny_pyIter_listiter c P
  | tup z o c r => exact wpAny_pyIter_tupleiter c P
  | rng c => exact wpAny_pyIter_rangeiter c P
theorem comp_core (SX : SoundX F n) (SB : SoundB F n) (bad : BadX F) {k : Nat} (K : C.Ok n) {elt target iter : Expr} {ifs : List Expr} {csc : Scope} {pos pp : Pos} (hc : okComp C.vis C.sc csc = true) {ts : List Nat} {tp : Bool} (ht : tgts (ownIds csc C.vis.length ++ C.vis) csc target = some (ts, tp)) {x : V} {μ₁ μ₂ : Mu} {d : Mine.D} {l : List Mine.D}
    (e1 : F.x ρ μ (compE k C.vis C.sc iter) = .ok (x, μ₁)) (e2 : frz μ₁ x = .ok (d, μ₂)) (e3 : itemsT tp d = some l)
    (e4 : compL F (clr C.vis.length ρ) ts tp (ifs.map (compE k (ownIds csc C.vis.length ++ C.vis) csc)) (compE k (ownIds csc C.vis.length ++ C.vis) csc elt) μ₂.length (μ₂ ++ [.lst true []]) l = .ok μ') (S : St C Z as ρ μ s) {use : Option (Value → Sem Unit)} {Q : Value → Shared → Prop}
    (P : ∀ Z' as' s' av Lc m, ZLe Z Z' → as <+: as' → St C Z' as' ρ μ' s' → VRep C.w Z' as' av (.r μ₂.length) → Fresh Z' C.G (C.L.fr :: C.L.cs) as' μ' Lc → s'.heap.Ns Lc m → compPost (model pT C.w) C.A E use Q av Lc (.ok .next) s') :
    wpAny (model pT C.w) C.A (comprehension (.ListComp elt [⟨target, iter, ifs, 0⟩] csc pos) csc C.env pp (newList []) false (eval iter C.env) use) Q E s := by
  obtain ⟨h1, h2, h3⟩ := okComp_inv hc
  refine wpAny_comprehension_free rfl (folded_ok bad e1) (closure_ok fun y hy hf => ?_) h1 (fun y hy hl => ?_) (SX k iter C ρ μ x μ₁ e1 K Z as s _ E S fun Z₁ as₁ s₁ y l₁ p₁ S₁ r₁ => ?_)
  · obtain ⟨i, h4, h5⟩ := h3 y.1 (kOf_of_mem h2 (by rw [← hf]; exact hy))
    obtain ⟨c, h6, _⟩ := free_cell K h4 h5
    exact ⟨c, h6⟩
  · rw [kOf_lookup]; exact kOf_of_mem h2 (by rw [← hl]; exact hy)
  · obtain ⟨Z₂, l₂, S₂, r₂⟩ := S₁.frz e2 r₁
    obtain ⟨e5, e6⟩ := itemsT_items e3
    refine iter_ok S₂ K e5 r₂ fun s₃ I il S₃ fr it₃ hil => ?_
    have hi : tp = true → il = true := fun q => hil.mpr (e6 q)
    clear hil
    refine wpAny_newObj_type (newEnvComp ?_) (by size_fits)
    obtain ⟨oI, hI⟩ := it₃.alive
    have S₄ := S₃.pushP (tk := s₃.toks) (dr := s₃.drawn) (h' := s₃.heap.push { cls := .type "list", dict := none, data := .seq ([] : List Value).toArray }) (p := .lst true []) (q := (s₃.heap.objs.size, s₃.heap.objs.size)) (fun b o e => Heap.get?_push_of_some _ e) (fun a m => by simp [fpP] at m; subst m; exact no_at_size _)
      (prep_list (vs := []) (Heap.get?_push_size _ rfl) .nil)
    have rq : VRep C.w Z₂ (as₁ ++ [(s₃.heap.objs.size, s₃.heap.objs.size)]) (.ref s₃.heap.objs.size) (.r μ₂.length) := vrep_new (q := (s₃.heap.objs.size, s₃.heap.objs.size)) S₃.c.len
    have fr' : Fresh Z₂ C.G (C.L.fr :: C.L.cs) (as₁ ++ [(s₃.heap.objs.size, s₃.heap.objs.size)]) (μ₂ ++ [.lst true []]) I := by
      refine ⟨fr.1, fr.2.1, fr.2.2.1, fun i p q a b m => ?_⟩
      by_cases hlt : i < μ₂.length
      · rw [List.getElem?_append_left hlt] at a
        rw [List.getElem?_append_left (by rw [S₃.c.len]; exact hlt)] at b
        exact fr.2.2.2 i p q a b m
      · rw [List.getElem?_append_right (by lia)] at a
        rw [List.getElem?_append_right (by rw [S₃.c.len]; lia), S₃.c.len] at b
        have hz : i - μ₂.length = 0 := by
          have := (List.getElem?_eq_some_iff.mp a).1
          simp at this; lia
        rw [hz] at a b
        simp at a b
        subst a b
        simp [fpP] at m
        exact absurd (Heap.lt_size hI) (by rw [m]; exact Nat.lt_irrefl _)
    have it₄ := it₃.mono (.refl _) (h' := s₃.heap.push { cls := .type "list", dict := none, data := .seq ([] : List Value).toArray }) fun o e => Heap.get?_push_of_some _ e
    have hI' : (s₃.heap.push { cls := .type "list", dict := none, data := .seq ([] : List Value).toArray }).get? I = some oI := Heap.get?_push_of_some _ hI
    have K₅ := cp_ok S₄ K hc
    have S₅ := cp_in S₄ K hc
    have loop : codeAny (model pT C.w) C.A (.compLoop (.ListComp elt [⟨target, iter, ifs, 0⟩] csc pos) 0 (.ref I) (.ref s₃.heap.objs.size) (compE' csc (s₃.heap.push { cls := .type "list", dict := none, data := .seq ([] : List Value).toArray }) C.env))
        (compPost (model pT C.w) C.A E use Q (.ref s₃.heap.objs.size) (s₃.heap.push { cls := .type "list", dict := none, data := .seq ([] : List Value).toArray }).objs.size)
        { s₃ with heap := pushCells ((s₃.heap.push { cls := .type "list", dict := none, data := .seq ([] : List Value).toArray }).push { cls := .type "dict", data := .dict #[] }) csc.names } := by
      refine comp_loop (D := C.cp (s₃.heap.push { cls := .type "list", dict := none, data := .seq ([] : List Value).toArray }) csc) SX SB K₅ ht S₅ (fun i v hv => ?_) (l := l) (il := il) ?_ (it₄.mono (.refl _) fun o e => pushCells_keeps _ _ _ _ (Heap.get?_push_of_some _ e)) hi (acc := μ₂.length) (q := (s₃.heap.objs.size, s₃.heap.objs.size)) (by rw [← S₃.c.len]; simp) e4 fun Z₆ as₆ s₆ l₆ p₆ S₆ => ?_
      · obtain ⟨hb, _⟩ := clr_some hv
        refine ⟨fun nm q => ?_, fun c q => ?_⟩
        · rcases mkPl_own q with ⟨_, k2⟩ | ⟨k1, _⟩
          · obtain ⟨_, c, e⟩ := Lay.up_inv k2; cases e
          · exact absurd hb (Nat.not_lt.mpr k1)
        · rcases mkPl_own q with ⟨_, k2⟩ | ⟨k1, _⟩
          · obtain ⟨_, c', o, e, g, _⟩ := (base_cp S₄ K hc).ups i _ k2
            cases e
            exact ⟨o, g⟩
          · exact absurd hb (Nat.not_lt.mpr k1)
      · obtain ⟨f1, f2, f3, f4⟩ := fr'
        refine ⟨f1, (guard_out f3).trans f2, fun m => ?_, f4⟩
        have lt := Heap.lt_size hI'
        rcases List.mem_cons.mp m with q | m
        · exact Nat.lt_irrefl _ (q ▸ lt)
        · obtain ⟨⟨y, c⟩, q1, q2⟩ := List.mem_map.mp m
          have := (cellsFrom_mem _ _ q1).2
          have q2 : c = I := q2
          subst q2
          exact Nat.lt_irrefl _ (Nat.lt_of_lt_of_le lt (Nat.le_of_succ_le this))
      · obtain ⟨S₇, fr₇, m, hm⟩ := cp_out S₄ K l₆ p₆ S₆
        exact P Z₆ as₆ s₆ _ _ m (l₁.trans (l₂.trans l₆)) (p₁.trans ((List.prefix_append _ _).trans p₆)) S₇ (rq.mono l₆ p₆) fr₇ hm
    exact codeAny_compStart_list loop (itIter (it₄.mono (.refl _) fun o e => pushCells_keeps _ _ _ _ (Heap.get?_push_of_some _ e)) loop)
theorem comp_ok (SX : SoundX F n) (SB : SoundB F n) (bad : BadX F) {k : Nat} (K : C.Ok n) {elt target iter : Expr} {ifs : List Expr} {csc : Scope} {pos : Pos} (hc : okComp C.vis C.sc csc = true) {ts : List Nat} {tp : Bool} (ht : tgts (ownIds csc C.vis.length ++ C.vis) csc target = some (ts, tp)) {x : V} {μ₁ μ₂ : Mu} {d : Mine.D} {l : List Mine.D}
    (e1 : F.x ρ μ (compE k C.vis C.sc iter) = .ok (x, μ₁)) (e2 : frz μ₁ x = .ok (d, μ₂)) (e3 : itemsT tp d = some l)
    (e4 : compL F (clr C.vis.length ρ) ts tp (ifs.map (compE k (ownIds csc C.vis.length ++ C.vis) csc)) (compE k (ownIds csc C.vis.length ++ C.vis) csc elt) μ₂.length (μ₂ ++ [.lst true []]) l = .ok μ') (S : St C Z as ρ μ s) {Q : Value → Shared → Prop}
    (P : Post C Z as ρ μ' (.r μ₂.length) Q) : wpAny (model pT C.w) C.A (eval (.ListComp elt [⟨target, iter, ifs, 0⟩] csc pos) C.env) Q E s := by
  rw [eval_ListComp]
  refine comp_core SX SB bad K hc ht e1 e2 e3 e4 S fun Z₁ as₁ s₁ av Lc m l₁ p₁ S₁ r₁ fr hm => ?_
  exact ⟨m, hm, fun h' sb => P _ _ _ _ l₁ p₁ (S₁.other K fr (tk := s₁.toks) (dr := s₁.drawn) fun b o ne e => (sb.2 b ne).trans e) r₁⟩
theorem comp_asg (SX : SoundX F n) (SB : SoundB F n) (bad : BadX F) {k : Nat} (K : C.Ok n) {elt target iter : Expr} {ifs : List Expr} {csc : Scope} {pos : Pos} (hc : okComp C.vis C.sc csc = true) {ts : List Nat} {tp : Bool} (ht : tgts (ownIds csc C.vis.length ++ C.vis) csc target = some (ts, tp)) {x : V} {μ₁ μ₂ : Mu} {d : Mine.D} {l : List Mine.D}
    (e1 : F.x ρ μ (compE k C.vis C.sc iter) = .ok (x, μ₁)) (e2 : frz μ₁ x = .ok (d, μ₂)) (e3 : itemsT tp d = some l)
    (e4 : compL F (clr C.vis.length ρ) ts tp (ifs.map (compE k (ownIds csc C.vis.length ++ C.vis) csc)) (compE k (ownIds csc C.vis.length ++ C.vis) csc elt) μ₂.length (μ₂ ++ [.lst true []]) l = .ok μ') (S : St C Z as ρ μ s)
    {y : Str} {q p : Pos} {i : Nat} (hy : tgt C.vis C.sc (.Name y q) = some i) {Q : Flow → Shared → Prop} (P : PostS C Z as .nxt (ρ.set i (some (.r μ₂.length))) μ' Q) : wpAny (model pT C.w) C.A (exec (.Assign [.Name y q] (.ListComp elt [⟨target, iter, ifs, 0⟩] csc pos) p) C.env) Q E s := by
  have sw : ∃ b : Bool, swapsWith (.ListComp elt [⟨target, iter, ifs, 0⟩] csc pos) (some (.Name y q)) p.line C.env = pure b := ⟨_, rfl⟩
  obtain ⟨b, sw⟩ := sw
  obtain ⟨x', p', e', hf, hn⟩ := tgt_inv hy
  cases e'
  obtain ⟨h1, h2⟩ := K.lay.sto y i hn hf
  rcases b with _ | _
  ·
    refine wpAny_Assign_Name (comp_ok SX SB bad K hc ht e1 e2 e3 e4 S fun Z₁ as₁ s₁ z l₁ p₁ S₁ r₁ => ?_) sw
    exact name_store S₁ K hn h1 r₁ h2 fun s₂ S₂ => P.nx l₁ p₁ S₂
  ·
    rw [exec_Assign_Name_used _ _ _ _ sw]
    refine wpAny_bind (wpAny_standAt (wpAny_bind ?_))
    show wpAny (model pT C.w) C.A (comprehension (.ListComp elt [⟨target, iter, ifs, 0⟩] csc pos) csc C.env _ (newList []) false (eval iter C.env) (some _) >>= fun _ => pure ()) _ E s
    refine wpAny_bind (comp_core SX SB bad K hc ht e1 e2 e3 e4 S fun Z₁ as₁ s₁ av Lc m l₁ p₁ S₁ r₁ fr hm => ?_)
    show wpAny _ _ _ _ _ _
    have S₂ := gd_in S₁ fr
    have K₂ := gd_ok S₁ K fr
    obtain ⟨o, es, ep, ho, hd⟩ := id hm
    refine wpAny_assign_Name (name_store (C := C.gd s₁.heap Lc) S₂ K₂ hn h1 r₁ h2 fun s₃ S₃ => ?_)
    obtain ⟨S₄, fr₄, h₄⟩ := gd_out S₁ fr ho S₃
    obtain ⟨sl, h₅⟩ := h₄.to
    refine ⟨m, ⟨_, es, ep, h₅, hd⟩, fun h' sb => ?_⟩
    refine wpAny_pure (wpAny_pure ?_)
    exact P.nx l₁ p₁ (S₄.other K fr₄ (tk := s₃.toks) (dr := s₃.drawn) fun b o ne e => (sb.2 b ne).trans e)
end
section
variable {F : Fn} {n : Nat} {C : Cx} {Z Z' : ZM} {as as' : AS} {ρ ρ' : Ev} {μ μ' : Mu} {s s' : Shared} {E : Value → Shared → Prop}
/-! ### displays -/
theorem list_disp (SX : SoundX F n) (bad : BadX F) {k : Nat} (K : C.Ok n) {es : List Expr} {pos : Pos} {vs : List V} {ds : List D} {v : V} {μ₁ μ₂ : Mu} (e1 : evL F ρ μ (es.map (compE k C.vis C.sc)) = .ok (vs, μ₁)) (e2 : frzs μ₁ vs = .ok (ds, μ₂)) (e3 : newL μ₂ ds = .ok (v, μ')) (S : St C Z as ρ μ s) {Q : Value → Shared → Prop} (P : Post C Z as ρ μ' v Q) :
    wpAny (model pT C.w) C.A (eval (.List es pos) C.env) Q E s := by
  refine wpAny_List (evL_ok SX bad K es μ vs μ₁ e1 Z as s _ E S fun Z₁ as₁ s₁ xs l₁ p₁ S₁ r₁ => ?_)
  obtain ⟨Z₂, l₂, S₂, r₂⟩ := S₁.frzs e2 r₁
  refine iteR e3 fun hf e3 => ?_
  refine ⟨by rw [r₂.1]; exact Nat.le_trans (fits_le hf) sizeLine_big, ?_⟩
  have S₃ := S₂.pushP (tk := s₁.toks) (dr := s₁.drawn) (h' := s₁.heap.push { cls := .type "list", data := .seq xs.toArray }) (p := .lst true ds) (q := (s₁.heap.objs.size, s₁.heap.objs.size)) (fun b o e => Heap.get?_push_of_some _ e) (fun a m => by cases m with | head => exact no_at_size _ | tail _ m => cases m)
    (prep_list (Heap.get?_push_size _ rfl) r₂)
  exact (P.ok e3) _ _ _ _ (l₁.trans l₂) (p₁.trans (List.prefix_append _ _)) S₃ (vrep_new (q := (s₁.heap.objs.size, s₁.heap.objs.size)) S₂.c.len)
theorem tup_disp (SX : SoundX F n) (bad : BadX F) {k : Nat} (K : C.Ok n) {es : List Expr} {kk : Nat} {pos : Pos} {vs : List V} {ds : List D} {μ₁ μ₂ : Mu} (e1 : evL F ρ μ (es.map (compE k C.vis C.sc)) = .ok (vs, μ₁)) (e2 : frzs μ₁ vs = .ok (ds, μ₂)) (e3 : fits ds = true) (S : St C Z as ρ μ s) {Q : Value → Shared → Prop} (P : Post C Z as ρ μ₂ (.c (.tup ds)) Q) :
    wpAny (model pT C.w) C.A (eval (.Tuple es kk pos) C.env) Q E s := by
  refine wpAny_Tuple (evL_ok SX bad K es μ vs μ₁ e1 Z as s _ E S fun Z₁ as₁ s₁ xs l₁ p₁ S₁ r₁ => ?_)
  obtain ⟨Z₂, l₂, S₂, r₂⟩ := S₁.frzs e2 r₁
  refine ⟨by rw [r₂.1]; exact Nat.le_trans (fits_le e3) sizeLine_big, ?_⟩
  have fr := S₂.fresh (no_at_size s₁.heap)
  have S₃ := S₂.ext (tk := s₁.toks) (dr := s₁.drawn) (h' := s₁.heap.push { cls := .type "tuple", data := .seq xs.toArray }) fun b o e => Heap.get?_push_of_some _ e
  obtain ⟨c, z⟩ := S₃.c.addZ (a := s₁.heap.objs.size) (f := .ex { cls := .type "tuple", data := .seq xs.toArray }) fr.1 fr.2.1 fr.2.2.1 (Heap.get?_push_size _ rfl) fr.2.2.2
  refine P _ _ _ _ (l₁.trans (l₂.trans z)) p₁ ⟨c, S₃.l.mono z (List.prefix_refl _) fun _ _ _ e => e, S₃.os, S₃.gens⟩ ?_
  exact .tup (o := { cls := .type "tuple", data := .seq xs.toArray }) (vs := xs) (by simp) ⟨rfl, rfl, _, rfl⟩ r₂.1 fun i v d a b => (r₂.2 i v d a b).mono z
noncomputable def KV (w : World) (Z : ZM) (as : AS) (p : Value × Value) (q : T × V) : Prop := (∃ t, p.1 = .str (sT q.1) t) ∧ VRep w Z as p.2 q.2
theorem pairs_ok (SX : SoundX F n) {k : Nat} (K : C.Ok n) {pos : Pos} : ∀ (ks : List (Option Expr)) (es : List Expr) (ts : List T), ks.mapM keyText = some ts → ks.length = es.length → ∀ (μ : Mu) (vs : List V) (μ' : Mu), evL F ρ μ (es.map (compE k C.vis C.sc)) = .ok (vs, μ') →
    ∀ Z as s (Q : List (Value × Value) → Shared → Prop), St C Z as ρ μ s → (∀ Z' as' s' ps, ZLe Z Z' → as <+: as' → St C Z' as' ρ μ' s' → AlR (KV C.w Z' as') ps (ts.zip vs) → ts.length = vs.length → Q ps s') → wpAny (model pT C.w) C.A (evalPairs (pairTrees ks es C.env pos)) Q E s
  | [], [], ts, h, hl, μ, vs, μ', e, Z, as, s, Q, S, P => by
    cases h
    simp only [List.map_nil, evL] at e; cases e
    exact wpAny_pure (P _ _ _ _ (.refl _) (List.prefix_refl _) S .nil rfl)
  | ko :: ks, x :: es, ts, h, hl, μ, vs, μ', e, Z, as, s, Q, S, P => by
    obtain ⟨t, ts', rfl, h1, h2⟩ := mapM_cons' h
    rw [List.map_cons, evL] at e
    refine Res.bind2 e fun v μ₁ e1 e2 => ?_
    refine Res.bind2 e2 fun ws μ₂ e3 e4 => ?_
    cases e4
    refine Option.map1 h1 fun st h3 h4 => Option.bind1 h3 fun ke hko h3 => ?_
    subst hko h4
    obtain ⟨kk, pp, rfl⟩ := strE_v h3
    show wpAny _ _ (do let kv ← eval (.Constant (.str st) kk pp) C.env; let vv ← holding [kv] (do let y ← eval x C.env; standAt pos; pure y); return (kv, vv) :: (← holding [kv, vv] (evalPairs (pairTrees ks es C.env pos)))) Q E s
    refine wpAny_bind (wpAny_Constant_str ?_)
    refine wpAny_bind (wpAny_holding (wpAny_bind (SX k x C ρ μ v μ₁ e1 K Z as _ _ E S.tok fun Z₁ as₁ s₁ y l₁ p₁ S₁ r₁ => wpAny_bind (wpAny_standAt (wpAny_pure ?_)))))
    refine wpAny_bind (wpAny_holding (pairs_ok SX K ks es ts' h2 (by simpa using hl) μ₁ ws μ' e3 Z₁ as₁ s₁ _ S₁ fun Z₂ as₂ s₂ ps l₂ p₂ S₂ r₂ hl₂ => wpAny_pure ?_))
    exact P _ _ _ _ (l₁.trans l₂) (p₁.trans p₂) S₂ (.cons ⟨⟨_, rfl⟩, r₁.mono l₂ p₂⟩ r₂) (by simp [hl₂])
theorem merged_new : ∀ (kvs acc : List (Str × Value)), ((acc ++ kvs).map (·.1)).Nodup → merged acc kvs = acc ++ kvs
  | [], acc, _ => by simp [merged]
  | (k, v) :: kvs, acc, h => by
    have e : merged acc ((k, v) :: kvs) = merged (stored acc k v) kvs := rfl
    rw [e, stored_new, merged_new kvs (acc ++ [(k, v)]) (by simpa using h)]
    · simp
    · rw [valueAt, Option.map_eq_none_iff, List.find?_eq_none]
      intro x hx q
      have q : x.1 = k := by simpa using q
      rw [List.map_append, List.map_cons] at h
      exact (List.nodup_append.mp h).2.2 _ (List.mem_map.mpr ⟨x, hx, rfl⟩) _ (.head _) q
theorem kv_all {w : World} {Z Z' : ZM} {as as' : AS} : ∀ (ts : List T) (vs : List V) (ps : List (Value × Value)) (ds : List D), AlR (KV w Z as) ps (ts.zip vs) → ts.length = vs.length → AlR (Rep w Z') (ps.map (·.2)) ds →
    ∃ kvs : List (Str × Value), Carries (PySem.strKind pT w) ps kvs ∧ kvs.map (·.1) = ts.map sT ∧ AlR (fun (kv : Str × Value) (e : T × V) => kv.1 = sT e.1 ∧ VRep w Z' as' kv.2 e.2) kvs (ts.zip (ds.map .c))
  | [], vs, ps, ds, r, hl, r' => by
    cases r.cases_nil
    exact ⟨[], trivial, rfl, .nil⟩
  | t :: ts, [], ps, ds, r, hl, r' => nomatch hl
  | t :: ts, v :: vs, ps, ds, r, hl, r' => by
    obtain ⟨p, ps', rfl, ⟨⟨tk, e⟩, rv⟩, r1⟩ := r.cases_cons
    rcases ds with _ | ⟨d, ds⟩
    · have := r'.1; cases this
    ·
      obtain ⟨kvs, c1, c2, c3⟩ := kv_all ts vs ps' ds r1 (by simpa using hl) r'.inv_cons.2
      obtain ⟨p1, p2⟩ := p
      cases e
      exact ⟨(sT t, p2) :: kvs, ⟨strKind_is pT w _ _, rfl, c1⟩, by simp [c2], .cons ⟨rfl, r'.inv_cons.1⟩ c3⟩
theorem dict_disp (SX : SoundX F n) {k : Nat} (K : C.Ok n) {ks : List (Option Expr)} {es : List Expr} {pos : Pos} {ts : List T} (hk : ks.mapM keyText = some ts) {vs : List V} {ds : List D} {μ₁ μ₂ : Mu} (e1 : evL F ρ μ (es.map (compE k C.vis C.sc)) = .ok (vs, μ₁)) (e2 : frzs μ₁ vs = .ok (ds, μ₂))
    (e3 : ts.length = ds.length) (e4 : ts.Nodup) (e5 : ts.length ≤ 10) (hl : ks.length = es.length) (S : St C Z as ρ μ s) {Q : Value → Shared → Prop} (P : Post C Z as ρ (μ₂ ++ [.dct (ts.zip (ds.map .c))]) (.r μ₂.length) Q) :
    wpAny (model pT C.w) C.A (eval (.Dict ks es pos) C.env) Q E s := by
  have ns : s.heap.objs.size ≠ sysModules := fun q => by
    obtain ⟨o, e, _⟩ := (S.gnd K).sys.globs
    have := Heap.lt_size e
    rw [q] at this
    exact absurd this (by decide)
  rcases ks with _ | ⟨k0, ks⟩
  ·
    cases hk
    rcases es with _ | ⟨_, _⟩
    ·
      simp only [List.map_nil, evL] at e1; cases e1
      cases e2
      refine wpAny_Dict_empty ?_
      have S₃ := S.pushP (tk := s.toks) (dr := s.drawn) (h' := s.heap.push { cls := .type "dict", data := .dict #[] }) (p := .dct []) (q := (s.heap.objs.size, s.heap.objs.size)) (fun b o e => Heap.get?_push_of_some _ e) (fun a m => by simp [fpP] at m; subst m; exact no_at_size _)
        (prep_dict ns (Heap.DictOf.new s.heap) .nil)
      exact P _ _ _ _ (.refl _) (List.prefix_append _ _) S₃ (vrep_new (q := (s.heap.objs.size, s.heap.objs.size)) S.c.len)
    · cases hl
  ·
    have h5 : ts.length = (k0 :: ks).length := by
      have : ∀ {l : List (Option Expr)} {r : List T}, l.mapM keyText = some r → r.length = l.length := by
        intro l
        induction l with
        | nil => intro r h; cases h; rfl
        | cons a l ih =>
          intro r h
          obtain ⟨b, t, rfl, _, h2⟩ := mapM_cons' h
          simp [ih h2]
      exact this hk
    have hall : (k0 :: ks).all (·.isSome) = true := by
      have : ∀ {l : List (Option Expr)} {r : List T}, l.mapM keyText = some r → l.all (·.isSome) = true := by
        intro l
        induction l with
        | nil => intro r h; rfl
        | cons a l ih =>
          intro r h
          obtain ⟨b, t, rfl, h1, h2⟩ := mapM_cons' h
          rw [List.all_cons, ih h2, Bool.and_true]
          rcases a with _ | _
          · cases h1
          · rfl
      exact this hk
    refine wpAny_Dict_any hall hl (by simp) (by lia) ?_
    have fr := S.fresh (no_at_size s.heap)
    have hd : (s.heap.push { cls := .type "dict", data := .dict #[] }).get? s.heap.objs.size = some { cls := .type "dict", data := .dict #[] } := Heap.get?_push_size _ rfl
    have S₁ := S.ext (tk := s.toks) (dr := s.drawn) (h' := s.heap.push { cls := .type "dict", data := .dict #[] }) fun b o e => Heap.get?_push_of_some _ e
    have S₂ := gd_in S₁ fr
    have K₂ := gd_ok S₁ K fr
    refine pairs_ok (C := C.gd (s.heap.push { cls := .type "dict", data := .dict #[] }) s.heap.objs.size) SX K₂ _ _ _ hk hl μ vs μ₁ e1 Z as _ _ S₂ fun Z₃ as₃ s₃ ps l₃ p₃ S₃ r₃ hl₃ => ?_
    have rv : AlR (VRep C.w Z₃ as₃) (ps.map (·.2)) vs := by
      refine ⟨by rw [List.length_map, r₃.1, List.length_zip]; lia, fun i a b ha hb => ?_⟩
      rw [List.getElem?_map] at ha
      obtain ⟨p, hp, rfl⟩ := Option.map_eq_some_iff.mp ha
      obtain ⟨q, hq, r⟩ := r₃.get' hp
      obtain ⟨_, hv⟩ := List.getElem?_zip_eq_some.mp hq
      rw [hb] at hv; cases hv
      exact r.2
    obtain ⟨Z₅, l₅, S₅, r₅⟩ := S₃.frzs e2 rv
    obtain ⟨S₄, fr₄, h₄⟩ := gd_out S₁ fr hd S₅
    have h₄ := h₄.noM (by unfold MARK; simp)
    have D0 : s₃.heap.DictOf (PySem.strKind pT C.w) s.heap.objs.size [] := ⟨_, #[], 0, h₄, ⟨rfl, rfl, rfl⟩, rfl, fun _ he => by simp at he, Pairs.nil, List.nodup_nil⟩
    obtain ⟨kvs, c1, c2, c3⟩ := kv_all ts vs ps ds r₃ hl₃ r₅
    have hkl : kvs.length = ts.length := by have := congrArg List.length c2; simpa using this
    refine wpAny_storeAll ps kvs [] s₃ _ c1 D0 (by rw [List.length_nil, Nat.zero_add, hkl]; exact Nat.le_trans (Nat.le_trans e5 (by decide)) sizeLine_big) fun h' D' sb => ?_
    rw [merged_new kvs [] (by
      rw [List.nil_append, c2]
      rw [List.nodup_iff_pairwise_ne, List.pairwise_map]
      exact (List.nodup_iff_pairwise_ne.mp e4).imp fun ne q => ne (sT_inj.mp q)), List.nil_append] at D'
    have S₆ := S₄.other K fr₄ (tk := s₃.toks + ps.length) (dr := s₃.drawn) fun b o ne e => (sb.2 b ne).trans e
    have S₇ := S₆.pushF (p := .dct (ts.zip (ds.map .c))) (q := (s.heap.objs.size, s.heap.objs.size)) (fun a m => by simp [fpP] at m; subst m; exact fr₄) (prep_dict ns D' c3)
    exact P _ _ _ _ (l₃.trans l₅) (p₃.trans (List.prefix_append _ _)) S₇ (vrep_new (q := (s.heap.objs.size, s.heap.objs.size)) S₄.c.len)
end
section
variable {F : Fn} {n : Nat} {C : Cx} {Z Z' : ZM} {as as' : AS} {ρ ρ' : Ev} {μ μ' : Mu} {s s' : Shared} {E : Value → Shared → Prop}
theorem optX_ok {o : Option X} {r} (h : stepX F ρ μ (optX o) = .ok r) : ∃ x, o = some x ∧ stepX F ρ μ x = .ok r := by
  rcases o with _ | x
  · cases h
  · exact ⟨x, rfl, h⟩
theorem const_ok (S : St C Z as ρ μ s) {c : Const} {d : D} (h : constD c = some d) {k : Nat} {pos : Pos} {Q : Value → Shared → Prop} (P : Post C Z as ρ μ (.c d) Q) : wpAny (model pT C.w) C.A (eval (.Constant c k pos) C.env) Q E s := by
  cases c <;> first | cases h | skip
  · exact wpAny_Constant_none (P.here S .none)
  · exact wpAny_Constant_bool (P.here S (.bool _))
  · exact wpAny_Constant_int (P.here S.tok (.int _ _))
  · exact wpAny_Constant_str (P.here S.tok (.str _ _))
theorem name_ok (S : St C Z as ρ μ s) (K : C.Ok n) {x : Str} {pos : Pos} {nm : Nm} (h : nmOf C.vis C.sc x = some nm) {e : X} (he : nmX nm = some e) {v : V} (hv : stepX F ρ μ e = .ok (v, μ')) {Q : Value → Shared → Prop} (P : Post C Z as ρ μ' v Q) : wpAny (model pT C.w) C.A (eval (.Name x pos) C.env) Q E s := by
  rcases nm with i | a | a | b | d
  ·
    cases he
    exact optR hv fun v' hv' hv => wpAny_Name (name_loc S K h (getV_v hv') fun y r => (P.ok hv).here S r) (nmOf_odd h).1
  ·
    cases he; cases hv
    exact name_glo S K h (fun i h => by cases h) fun y hy => by cases (show y = .ref a from hy); exact P.here S (Rep.glo _)
  ·
    cases he; cases hv
    exact name_glo S K h (fun i h => by cases h) fun y hy => by cases (show y = .ref a from hy); exact P.here S (Rep.glo _)
  ·
    cases b <;> first | cases he | skip
    cases hv
    exact name_glo S K h (fun i h => by cases h) fun y hy => by cases (show y = .type "list" from hy); exact P.here S (Rep.glo _)
  ·
    cases he; cases hv
    refine name_glo S K h (fun i h => by cases h) fun y hy => ?_
    cases d <;> first | exact hy.elim | skip
    obtain ⟨t, rfl⟩ := hy
    exact P.here S (Rep.int _ _)
theorem behind_ok {op : CmpOp} {k : Nat} {r : Expr} (bad : BadX F) {q} (e : F.x ρ μ (compE k C.vis C.sc r) = .ok q) : behindInMarks op r = false := by
  cases r with
  | Set l _ _ => cases k <;> exact absurd e (bad _ _ _)
  | _ => rfl
theorem bin_ok (SX : SoundX F n) {k : Nat} (K : C.Ok n) {l r : Expr} {op : Operator} {pos : Pos} {o : Bo} (ho : boOf op = some o) {x y v : V} {μ₁ μ₂ : Mu} (e1 : F.x ρ μ (compE k C.vis C.sc l) = .ok (x, μ₁)) (e2 : F.x ρ μ₁ (compE k C.vis C.sc r) = .ok (y, μ₂)) (e3 : binop μ₂ o x y = .ok (v, μ'))
    (S : St C Z as ρ μ s) {Q : Value → Shared → Prop} (P : Post C Z as ρ μ' v Q) : wpAny (model pT C.w) C.A (eval (.BinOp l op r pos) C.env) Q E s := by
  cases boOf_op ho
  exact wpAny_BinOp (SX k l C ρ μ x μ₁ e1 K Z as s _ E S fun Z₁ as₁ s₁ vx l₁ p₁ S₁ r₁ => SX k r C ρ μ₁ y μ₂ e2 K Z₁ as₁ s₁ _ E S₁ fun Z₂ as₂ s₂ vy l₂ p₂ S₂ r₂ =>
    binop_ok S₂ K e3 (r₁.mono l₂ p₂) r₂ (P.up (l₁.trans l₂) (p₁.trans p₂)))
theorem cmp_ok (SX : SoundX F n) (bad : BadX F) {k : Nat} (K : C.Ok n) {l r : Expr} {op : CmpOp} {pos : Pos} {x y : V} {b : Bool} {μ₁ μ₂ : Mu} (e1 : F.x ρ μ (compE k C.vis C.sc l) = .ok (x, μ₁)) (e2 : F.x ρ μ₁ (compE k C.vis C.sc r) = .ok (y, μ₂)) (e3 : cmpop μ₂ (coOf op) x y = some b)
    (S : St C Z as ρ μ s) {Q : Value → Shared → Prop} (P : Post C Z as ρ μ₂ (.c (.bool b)) Q) : wpAny (model pT C.w) C.A (eval (.Compare l [op] [r] pos) C.env) Q E s := by
  refine wpAny_Compare1 (SX k l C ρ μ x μ₁ e1 K Z as s _ E S fun Z₁ as₁ s₁ vx l₁ p₁ S₁ r₁ => SX k r C ρ μ₁ y μ₂ e2 K Z₁ as₁ s₁ _ E S₁ fun Z₂ as₂ s₂ vy l₂ p₂ S₂ r₂ => ?_) (behind_ok bad e2)
  have := cmpop_ok (E := E) (Q := Q) S₂ K e3 (r₁.mono l₂ p₂) r₂ fun tk => P _ _ _ _ (l₁.trans l₂) (p₁.trans p₂) S₂.tok (Rep.bool b)
  rwa [coOf_op] at this
theorem cmpB_ok (SX : SoundX F n) (bad : BadX F) {k : Nat} (K : C.Ok n) {l r : Expr} {op : CmpOp} {pos : Pos} {x y : V} {b : Bool} {μ₁ μ₂ : Mu} (e1 : F.x ρ μ (compE k C.vis C.sc l) = .ok (x, μ₁)) (e2 : F.x ρ μ₁ (compE k C.vis C.sc r) = .ok (y, μ₂)) (e3 : cmpop μ₂ (coOf op) x y = some b)
    (S : St C Z as ρ μ s) {Q : Bool → Shared → Prop} (P : ∀ Z' as' s', ZLe Z Z' → as <+: as' → St C Z' as' ρ μ₂ s' → Q b s') {whole : Sem Value} : wpAny (model pT C.w) C.A (isTrue (.Compare l [op] [r] pos) C.env whole) Q E s := by
  refine wpAny_isTrue_Compare1 (SX k l C ρ μ x μ₁ e1 K Z as s _ E S fun Z₁ as₁ s₁ vx l₁ p₁ S₁ r₁ => SX k r C ρ μ₁ y μ₂ e2 K Z₁ as₁ s₁ _ E S₁ fun Z₂ as₂ s₂ vy l₂ p₂ S₂ r₂ => ?_) (behind_ok bad e2)
  have := cmpop_ok (E := E) (Q := fun c s₃ => wpAny (model pT C.w) C.A (truthy c) Q E s₃) S₂ K e3 (r₁.mono l₂ p₂) r₂ fun tk => wpAny_truthy_bool (P _ _ _ (l₁.trans l₂) (p₁.trans p₂) S₂.tok)
  rwa [coOf_op] at this
theorem not_ok (SX : SoundX F n) {k : Nat} (K : C.Ok n) {x : Expr} {pos : Pos} {b : Bool} (e1 : evB F ρ μ (compE k C.vis C.sc x) = .ok (b, μ')) (S : St C Z as ρ μ s) {Q : Value → Shared → Prop} (P : Post C Z as ρ μ' (.c (.bool (!b))) Q) :
    wpAny (model pT C.w) C.A (eval (.UnaryOp .Not x pos) C.env) Q E s := by
  refine wpAny_UnaryOp (SX k x C ρ μ _ μ' (evB_inv e1) K Z as s _ E S fun Z₁ as₁ s₁ y l₁ p₁ S₁ r₁ => ?_)
  cases vbool r₁
  unfold unaryOp
  refine wpAny_holding ?_
  show wpAny _ _ (do let t ← truthy (.bool b); pure (.bool (!t))) Q E s₁
  exact wpAny_bind (wpAny_truthy_bool (wpAny_pure (P _ _ _ _ l₁ p₁ S₁ (Rep.bool _))))
theorem neg_ok (SX : SoundX F n) {k : Nat} (K : C.Ok n) {x : Expr} {pos : Pos} {i : Int} (e1 : F.x ρ μ (compE k C.vis C.sc x) = .ok (.c (.int i), μ')) (S : St C Z as ρ μ s) {Q : Value → Shared → Prop} (P : Post C Z as ρ μ' (.c (.int (-i))) Q) :
    wpAny (model pT C.w) C.A (eval (.UnaryOp .USub x pos) C.env) Q E s := by
  refine wpAny_UnaryOp (SX k x C ρ μ _ μ' e1 K Z as s _ E S fun Z₁ as₁ s₁ y l₁ p₁ S₁ r₁ => ?_)
  obtain ⟨t, rfl⟩ := vint r₁
  exact PyProof.Rows.neg_int (P _ _ _ _ l₁ p₁ S₁.tok (Rep.int _ _))
theorem sub_ok (SX : SoundX F n) {k : Nat} (K : C.Ok n) {o i : Expr} {pos : Pos} (hs : ∀ a b p, i ≠ .Slice a b none p) {x y v : V} {μ₁ μ₂ : Mu} (e1 : F.x ρ μ (compE k C.vis C.sc o) = .ok (x, μ₁)) (e2 : F.x ρ μ₁ (compE k C.vis C.sc i) = .ok (y, μ₂)) (e3 : ixop μ₂ x y = some v)
    (S : St C Z as ρ μ s) {Q : Value → Shared → Prop} (P : Post C Z as ρ μ₂ v Q) : wpAny (model pT C.w) C.A (eval (.Subscript o i pos) C.env) Q E s := by
  rw [arm_eval_Subscript]
  refine wpAny_bind (SX k o C ρ μ x μ₁ e1 K Z as s _ E S fun Z₁ as₁ s₁ vx l₁ p₁ S₁ r₁ => wpAny_bind (wpAny_holding (SX k i C ρ μ₁ y μ₂ e2 K Z₁ as₁ s₁ _ E S₁ fun Z₂ as₂ s₂ vy l₂ p₂ S₂ r₂ => wpAny_bind (wpAny_standAt ?_))))
  exact ix_ok S₂ K e3 (r₁.mono l₂ p₂) r₂ hs (P.up (l₁.trans l₂) (p₁.trans p₂))
theorem attr_ok (SX : SoundX F n) {k : Nat} (K : C.Ok n) {o : Expr} {a : Str} {pos : Pos} {at' : At} (ho : okBase o = true) (ha : At.of a.cps.toList = some at') {x v : V} (e1 : F.x ρ μ (compE k C.vis C.sc o) = .ok (x, μ')) (e2 : atop μ' x at' = some v)
    (S : St C Z as ρ μ s) {Q : Value → Shared → Prop} (P : Post C Z as ρ μ' v Q) : wpAny (model pT C.w) C.A (eval (.Attribute o a pos) C.env) Q E s := by
  rw [arm_eval_Attribute, base_ok ho]
  have hn : a = sT at'.name := by
    have := List.find?_some ha
    have := of_decide_eq_true this
    rw [this]
  subst hn
  refine wpAny_bind (SX k o C ρ μ x μ' e1 K Z as s _ E S fun Z₁ as₁ s₁ vx l₁ p₁ S₁ r₁ => wpAny_bind (wpAny_standAt (wpAny_bind (wpAny_holding (at_ok S₁ K e2 r₁ fun Z₂ as₂ s₂ y l₂ p₂ S₂ r₂ => ?_)))))
  refine wpAny_bind (wpAny_letTemporaryGo ?_)
  exact wpAny_pure (P _ _ _ _ (l₁.trans l₂) (p₁.trans p₂) S₂ r₂)
end
section
variable {F : Fn} {n : Nat} {C : Cx} {Z Z' : ZM} {as as' : AS} {ρ ρ' : Ev} {μ μ' : Mu} {s s' : Shared} {E : Value → Shared → Prop}
theorem ite_ok (SX : SoundX F n) (SB : SoundB F n) {k : Nat} (K : C.Ok n) {t a b : Expr} {pos : Pos} {c : Bool} {v : V} {μ₁ : Mu} (e1 : evB F ρ μ (compE k C.vis C.sc t) = .ok (c, μ₁)) (e2 : (if c = true then F.x ρ μ₁ (compE k C.vis C.sc a) else F.x ρ μ₁ (compE k C.vis C.sc b)) = .ok (v, μ'))
    (S : St C Z as ρ μ s) {Q : Value → Shared → Prop} (P : Post C Z as ρ μ' v Q) : wpAny (model pT C.w) C.A (eval (.IfExp t a b pos) C.env) Q E s := by
  refine wpAny_IfExp (SB k t C ρ μ c μ₁ e1 K Z as s _ E S fun Z₁ as₁ s₁ l₁ p₁ S₁ => ?_)
  rcases c with _ | _
  · exact SX k b C ρ μ₁ v μ' e2 K Z₁ as₁ s₁ Q E S₁ (P.up l₁ p₁)
  · exact SX k a C ρ μ₁ v μ' e2 K Z₁ as₁ s₁ Q E S₁ (P.up l₁ p₁)
theorem iteB_ok (SX : SoundX F n) (SB : SoundB F n) {k : Nat} (K : C.Ok n) {t a b : Expr} {pos : Pos} {c r : Bool} {μ₁ : Mu} (e1 : evB F ρ μ (compE k C.vis C.sc t) = .ok (c, μ₁)) (e2 : (if c = true then F.x ρ μ₁ (compE k C.vis C.sc a) else F.x ρ μ₁ (compE k C.vis C.sc b)) = .ok (.c (.bool r), μ'))
    (S : St C Z as ρ μ s) {Q : Bool → Shared → Prop} (P : ∀ Z' as' s', ZLe Z Z' → as <+: as' → St C Z' as' ρ μ' s' → Q r s') {whole : Sem Value} : wpAny (model pT C.w) C.A (isTrue (.IfExp t a b pos) C.env whole) Q E s := by
  have eb : ∀ {x : X} {μ : Mu}, F.x ρ μ x = .ok (.c (.bool r), μ') → evB F ρ μ x = .ok (r, μ') := fun {x μ} h => by unfold evB; rw [h]; rfl
  rw [arm_isTrue_IfExp]
  refine wpAny_bind (SB k t C ρ μ c μ₁ e1 K Z as s _ E S fun Z₁ as₁ s₁ l₁ p₁ S₁ => ?_)
  rcases c with _ | _
  · exact SB k b C ρ μ₁ r μ' (eb e2) K Z₁ as₁ s₁ Q E S₁ fun _ _ _ l p S => P _ _ _ (l₁.trans l) (p₁.trans p) S
  · exact SB k a C ρ μ₁ r μ' (eb e2) K Z₁ as₁ s₁ Q E S₁ fun _ _ _ l p S => P _ _ _ (l₁.trans l) (p₁.trans p) S
theorem fs_ok' (SX : SoundX F n) (bad : BadX F) {k : Nat} (K : C.Ok n) {l : List Expr} {pos : Pos} {t : T} (h2 : 2 ≤ l.length) (e1 : evF F ρ μ (l.map (cF (compE k C.vis C.sc))) = .ok (t, μ')) (e2 : okT t = true) (S : St C Z as ρ μ s) {Q : Value → Shared → Prop} (P : Post C Z as ρ μ' (.c (.str t)) Q) : wpAny (model pT C.w) C.A (eval (.JoinedStr l pos) C.env) Q E s := by
  match l, h2 with
  | v₁ :: v₂ :: rest, _ =>
    refine wpAny_JoinedStr ?_
    have hl := okT_le e2
    exact fs_ok SX bad K _ μ t μ' e1 Z as s [] _ E (by simpa using hl) S fun Z₁ as₁ s₁ l₁ p₁ S₁ => ⟨by rw [List.nil_append, sT_len]; exact Nat.le_trans (Nat.le_trans hl (by decide)) sizeLine_big, P _ _ _ _ l₁ p₁ S₁.tok (Rep.str _ _)⟩
theorem ifd {c : Bool} {a : X} {r} (h : stepX F ρ μ (if c = true then a else .bad) = .ok r) : c = true ∧ stepX F ρ μ a = .ok r := by
  rcases c with _ | _
  · cases h
  · exact ⟨rfl, h⟩
theorem ifp {c : Prop} [Decidable c] {a : X} {r} (h : stepX F ρ μ (if c then a else .bad) = .ok r) : c ∧ stepX F ρ μ a = .ok r := by
  by_cases q : c
  · rw [if_pos q] at h; exact ⟨q, h⟩
  · rw [if_neg q] at h; cases h
theorem atE_inv {f : Expr} {r} (h : atE f = some r) : f = .Attribute r.1 r.2.1 r.2.2 := by
  induction f using PySem.Expr.casesOn <;> first | exact noneE h | (cases h; rfl)
theorem slE_inv {f : Expr} {r} (h : slE f = some r) : ∃ p, f = .Slice r.1 r.2.1 r.2.2 p := by
  induction f using PySem.Expr.casesOn <;> first | exact noneE h | (cases h; exact ⟨_, rfl⟩)
theorem optXm {α : Type} {o : Option α} {g : α → X} {r} {G : Prop} (h : stepX F ρ μ (optX (o.map g)) = .ok r) (k : ∀ a, o = some a → stepX F ρ μ (g a) = .ok r → G) : G := by
  rcases o with _ | x
  · cases h
  · exact k x rfl h
theorem ifX {c : Bool} {a : X} {r} {G : Prop} (h : stepX F ρ μ (if c = true then a else .bad) = .ok r) (k : c = true → stepX F ρ μ a = .ok r → G) : G := by
  rcases c with _ | _
  · cases h
  · exact k rfl h
/-! ### how an expression is turned into the evaluator's: by cases, for any property -/
theorem ite_X {P : X → Prop} (hb : P .bad) {c : Prop} [Decidable c] {x : X} (h : c → P x) : P (if c then x else .bad) := by
  by_cases q : c
  · rw [if_pos q]; exact h q
  · rw [if_neg q]; exact hb
theorem opt_X {α : Type} {P : X → Prop} (hb : P .bad) {o : Option α} {g : α → X} (h : ∀ a, o = some a → P (g a)) : P (optX (o.map g)) := by
  rcases o with _ | a
  · exact hb
  · exact h a rfl
theorem cCmp_cases {P : X → Prop} (hb : P .bad) {rc : Expr → X} {l : X} {ops : List CmpOp} {rs : List Expr} (h : ∀ op r, ops = [op] → rs = [r] → P (.cmp (coOf op) l (rc r))) : P (cCmp rc l ops rs) := by
  unfold cCmp
  generalize h1 : only ops = o
  rcases o with _ | op
  · exact hb
  · exact opt_X hb fun r h2 => h op r (only1 h1) (only1 h2)
theorem cComp_cases {P : X → Prop} (hb : P .bad) {rc : Vis → Scope → Expr → X} {vis : Vis} {sc csc : Scope} {elt : Expr} {gens : List Comprehension} (h : ∀ target iter ifs t, gens = [⟨target, iter, ifs, 0⟩] → okComp vis sc csc = true → tgts (ownIds csc vis.length ++ vis) csc target = some t →
    P (.comp vis.length t.1 t.2 (rc vis sc iter) (ifs.map (rc (ownIds csc vis.length ++ vis) csc)) (rc (ownIds csc vis.length ++ vis) csc elt))) : P (cComp rc vis sc elt gens csc) := by
  unfold cComp
  generalize hg : only gens = o
  rcases o with _ | ⟨target, iter, ifs, a⟩
  · exact hb
  · refine ite_X hb fun hc => opt_X hb fun t ht => and2 hc fun h1 h2 => ?_
    have h2 : a = 0 := of_decide_eq_true h2
    subst h2
    exact h target iter ifs t (only1 hg) h1 ht
theorem cCallN_cases {P : X → Prop} (hb : P .bad) {rc : Expr → X} {vis : Vis} {sc : Scope} {f : Str} {args : List Expr} (h1 : ∀ a, nmOf vis sc f = some (.fn a) → keptF a = true → P (.fn a (args.map rc)))
    (h2 : ∀ a, nmOf vis sc f = some (.cl a) → (Nat.beq a 318 || Nat.beq a 478) = true → P (.cl a (args.map rc))) (h3 : ∀ b, nmOf vis sc f = some (.bi b) → P (.bi b (args.map rc))) : P (cCallN rc vis sc f args) := by
  unfold cCallN
  generalize hn : nmOf vis sc f = o at *
  rcases o with _ | nm
  · exact hb
  · cases nm with
    | fn a => exact ite_X hb (h1 a rfl)
    | cl a => exact ite_X hb (h2 a rfl)
    | bi b => exact h3 b rfl
    | _ => exact hb
theorem cCall_cases {P : X → Prop} (hb : P .bad) {rc : Expr → X} {vis : Vis} {sc : Scope} {f : Expr} {args : List Expr} {kws : List Keyword} {pos : Pos} (h1 : ∀ x p, f = .Name x p → kws = [] → P (cCallN rc vis sc x args))
    (h2 : ∀ o m ap mt, f = .Attribute o m ap → kws = [] → okCall o args ap pos = true → Mt.of m.cps.toList = some mt → P (.mt mt (rc o) (args.map rc)))
    (h3 : ∀ o m ap f', f = .Attribute o m ap → kws = [] → okCall o args ap pos = true → metTab.lookup m.cps.toList = some f' → P (.me f' (rc o) (args.map rc))) : P (cCall rc vis sc f args kws pos) := by
  refine ite_X hb fun hk => ?_
  have hk := List.isEmpty_iff.mp hk
  generalize hx : nmE f = o
  rcases o with _ | x
  · generalize ha : atE f = o
    rcases o with _ | ⟨o, m, ap⟩
    · exact hb
    · refine ite_X hb fun hc => ?_
      generalize hm : Mt.of m.cps.toList = q
      rcases q with _ | mt
      · exact opt_X hb fun f' hf => h3 o m ap f' (atE_inv ha) hk hc hf
      · exact h2 o m ap mt (atE_inv ha) hk hc hm
  · obtain ⟨p, hp⟩ := nmE_inv hx
    exact h1 x p hp hk
theorem cSub_cases {P : X → Prop} (hb : P .bad) {rc : Expr → X} {o i : Expr} (h1 : ∀ lo hi p, i = .Slice lo hi none p → isNm o = true → P (.sl (rc o) (lo.map rc) (hi.map rc))) (h2 : slE i = none → P (.ix (rc o) (rc i))) : P (cSub rc o i) := by
  unfold cSub
  generalize hs : slE i = q at *
  rcases q with _ | ⟨lo, hi, st⟩
  · exact h2 rfl
  · obtain ⟨p, hp⟩ := slE_inv hs
    refine ite_X hb fun hc => and2 hc fun h3 h4 => ?_
    have h4 := Option.isNone_iff_eq_none.mp h4
    have h4 : st = none := h4
    subst h4
    exact h1 lo hi p hp h3
theorem priv_in {c : Addr} (h : (Nat.beq c 318 || Nat.beq c 478) = true) : c ∈ [vecA, matA] := by
  rcases Bool.or_eq_true_iff.mp h with h | h
  · rw [Nat.eq_of_beq_eq_true h]; exact .head _
  · rw [Nat.eq_of_beq_eq_true h]; exact .tail _ (.head _)
theorem stepX_ok (tab : Addr → Option Fd) (SX : SoundX F n) (SB : SoundB F n) (SC : SoundC F n) (bad : BadX F) : SoundX (stepF tab F) (n + 1) := by
  intro k e C ρ μ v μ' he K1 Z as s Q E S P
  have K := K1.le (Nat.le_succ n)
  change stepX F ρ μ (compE k C.vis C.sc e) = .ok (v, μ') at he
  refine hold fun G out => ?_
  rcases k with _ | k
  · cases he
  ·
    induction e using PySem.Expr.casesOn with
    | Constant c kk pos =>
      exact optXm he fun d h3 h2 => out (const_ok S h3 (P.ok h2))
    | Name y pos =>
      obtain ⟨x, h1, h2⟩ := optX_ok he
      exact Option.bind1 h1 fun nm h3 h4 => out (name_ok S K h3 h4 h2 P)
    | BinOp l op r pos =>
      exact optXm he fun o h3 he => Res.bind2 he fun x μ₁ e1 he => Res.bind2 he fun y μ₂ e2 e3 => out (bin_ok SX K h3 e1 e2 e3 S P)
    | UnaryOp op x pos =>
      change stepX F ρ μ (cUn op (compE k C.vis C.sc x)) = _ at he
      cases op with
      | Not => exact Res.bind2 he fun b μ₁ e1 h2 => out (not_ok SX K e1 S (P.ok h2))
      | USub =>
        refine Res.bind2 he fun b μ₁ e1 h2 => optR h2 fun i hi h2 => ?_
        cases toI_v hi
        exact out (neg_ok SX K e1 S (P.ok h2))
      | _ => cases he
    | BoolOp op l pos =>
      change stepX F ρ μ (cBool op (l.map (compE k C.vis C.sc))) = _ at he
      rw [arm_eval_BoolOp] at out
      cases op with
      | And => exact Res.bind2 he fun b μ₁ e1 h2 => out (boolOp_ok SX K .And false (.inl ⟨rfl, rfl⟩) _ μ b _ e1 Z as s Q E S (P.ok h2))
      | Or => exact Res.bind2 he fun b μ₁ e1 h2 => out (boolOp_ok SX K .Or true (.inr ⟨rfl, rfl⟩) _ μ b _ e1 Z as s Q E S (P.ok h2))
    | Compare l ops rs pos =>
      refine cCmp_cases (P := fun x => stepX F ρ μ x = .ok (v, μ') → G) noR (fun op r h1 h2 he => ?_) he
      subst h1 h2
      exact Res.bind2 he fun x μ₁ e1 he => Res.bind2 he fun y μ₂ e2 he => optR he fun b hb h2 => out (cmp_ok SX bad K e1 e2 hb S (P.ok h2))
    | IfExp t a b pos =>
      exact Res.bind2 he fun c μ₁ e1 e2 => out (ite_ok SX SB K e1 e2 S P)
    | Call f args kws pos =>
      refine cCall_cases (P := fun x => stepX F ρ μ x = .ok (v, μ') → G) noR (fun x p hf hk => ?_) (fun o m ap mt hf hk hc hm hq => ?_) (fun o m ap f' hf hk hc hm hq => ?_) he
      · subst hf hk
        refine cCallN_cases (P := fun x => stepX F ρ μ x = .ok (v, μ') → G) noR (fun a hn hk he => ?_) (fun c hn hk he => ?_) (fun b hn he => ?_)
        · exact Res.bind2 he fun vs μ₁ e1 he => Res.bind2 he fun ds μ₂ e2 he => Res.bind2 he fun v' μ₃ e3 he => Res.bind2 he fun d μ₄ e4 he => out (fn_ok SX SC bad K hn hk e1 e2 e3 e4 S (P.ok he))
        · exact Res.bind2 he fun vs μ₁ e1 he => Res.bind2 he fun ds μ₂ e2 he => optR he fun f hf he => Res.bind2 he fun v' μ₃ e3 he => iteR he fun hv he => out (cl_ok SX SC bad K1 hn (priv_in hk) hf e1 e2 (nul_v hv ▸ e3) S (P.ok he))
        · exact Res.bind2 he fun vs μ₁ e1 he => out (bi_ok SX bad K hn e1 he S P)
      · subst hf hk
        exact Res.bind2 hq fun x μ₁ e1 he => iteR he fun hmo he => Res.bind2 he fun vs μ₂ e3 e4 => out (mt_ok SX bad K hc hm e1 hmo e3 e4 S P)
      · subst hf hk
        refine Res.bind2 hq fun x μ₁ e1 he => optR he fun i hi h => ?_
        obtain ⟨rfl, l, hl⟩ := matR_v hi
        exact Res.bind2 h fun vs μ₂ e2 he => Res.bind2 he fun ds μ₃ e3 he => Res.bind2 he fun v' μ₄ e4 he => Res.bind2 he fun d μ₅ e5 he => out (me_ok SX SC bad K hc hm e1 hl e2 e3 e4 e5 S (P.ok he))
    | Attribute o a pos =>
      exact ifX he fun ho he => optXm he fun a' ha he => Res.bind2 he fun x μ₁ e1 he => optR he fun w hw h2 => out (attr_ok SX K ho ha e1 hw S (P.ok h2))
    | Subscript o i pos =>
      refine cSub_cases (P := fun x => stepX F ρ μ x = .ok (v, μ') → G) noR (fun lo hi p hs h1 h => ?_) (fun hns he => ?_) he
      · subst hs
        exact Res.bind2 h fun x μ₁ e1 he => Res.bind2 he fun lo μ₂ e2 he => Res.bind2 he fun hi μ₃ e3 he => out (sl_ok SX K h1 e1 e2 e3 he S P)
      · exact Res.bind2 he fun x μ₁ e1 he => Res.bind2 he fun y μ₂ e2 he => optR he fun w hw h2 => out (sub_ok SX K (fun a b p q => by rw [q] at hns; exact nomatch hns) e1 e2 hw S (P.ok h2))
    | List l pos =>
      exact Res.bind2 he fun vs μ₁ e1 he => Res.bind2 he fun ds μ₂ e2 he => out (list_disp SX bad K e1 e2 he S P)
    | Tuple l kk pos =>
      exact Res.bind2 he fun vs μ₁ e1 he => Res.bind2 he fun ds μ₂ e2 he => iteR he fun hf he => out (tup_disp SX bad K e1 e2 hf S (P.ok he))
    | Dict ks vs pos =>
      exact ifX he fun hl he => optXm he fun ts ht he => Res.bind2 he fun vs μ₁ e1 he => Res.bind2 he fun ds μ₂ e2 he => iteR he fun hc he => out (dict_disp SX K ht e1 e2 hc.1 hc.2.1 hc.2.2 (of_decide_eq_true hl) S (P.ok he))
    | ListComp elt gens csc pos =>
      refine cComp_cases (P := fun x => stepX F ρ μ x = .ok (v, μ') → G) noR (fun target iter ifs t hg hc ht hq => ?_) he
      subst hg
      exact Res.bind2 hq fun x μ₁ e1 he => Res.bind2 he fun d μ₂ e2 he => optR he fun l hl he => Res.bind1 he fun μ₃ e4 he => out (comp_ok SX SB bad K hc ht e1 e2 hl e4 S (P.ok he))
    | JoinedStr l pos =>
      exact iteR (x := (evF F ρ μ (l.map (cF (compE k C.vis C.sc)))).bind fun (t, μ) => if okT t then Res.ok (V.c (.str t), μ) else .no) he fun h2 he => Res.bind2 he fun t μ₁ e1 he => iteR he fun ht he => out (fs_ok' SX bad K (by simpa using h2) e1 ht S (P.ok he))
    | _ => cases he
end
section
variable {F : Fn} {n : Nat} {C : Cx} {Z Z' : ZM} {as as' : AS} {ρ ρ' : Ev} {μ μ' : Mu} {s s' : Shared} {E : Value → Shared → Prop}
theorem stepB_ok (tab : Addr → Option Fd) (SX : SoundX F n) (SB : SoundB F n) (SC : SoundC F n) (bad : BadX F) : SoundB (stepF tab F) (n + 1) := by
  intro k e C ρ μ b μ' he K1 Z as s Q E S P
  have K := K1.le (Nat.le_succ n)
  have hv := evB_inv he
  have val : (isTrue e C.env (eval e C.env) = (do let v ← eval e C.env; standAt e.pos; holding [v] (truthy v))) → wpAny (model pT C.w) C.A (isTrue e C.env (eval e C.env)) Q E s := fun h =>
    wpAny_isTrue_value (stepX_ok tab SX SB SC bad k e C ρ μ _ μ' hv K1 Z as s _ E S fun Z₁ as₁ s₁ y l₁ p₁ S₁ r₁ => by cases vbool r₁; exact wpAny_truthy_bool (P _ _ _ l₁ p₁ S₁)) h
  have hb : ∀ {x : X} {μ₁ μ₂ : Mu}, stepX F ρ μ₁ x = .ok (.c (.bool b), μ₂) → stepX F ρ μ₁ x = .ok (.c (.bool b), μ₂) := id
  change stepX F ρ μ (compE k C.vis C.sc e) = .ok (.c (.bool b), μ') at hv
  rcases k with _ | k
  · cases hv
  ·
    cases e with
    | UnaryOp op x pos =>
      cases op with
      | Not =>
        change (evB F ρ μ (compE k C.vis C.sc x)).bind _ = _ at hv
        refine Res.bind2 hv fun c μ₁ e1 e2 => ?_
        cases e2
        exact wpAny_isTrue_Not (SB k x C ρ μ c _ e1 K Z as s _ E S P)
      | _ => exact val rfl
    | BoolOp op l pos =>
      cases op with
      | And =>
        change (evAO F false ρ μ (l.map (compE k C.vis C.sc))).bind _ = _ at hv
        refine Res.bind2 hv fun c μ₁ e1 e2 => ?_
        cases e2
        exact wpAny_isTrue_BoolOp (allTrue_ok SB K .And false (.inl ⟨rfl, rfl⟩) l μ _ _ e1 Z as s Q E S P)
      | Or =>
        change (evAO F true ρ μ (l.map (compE k C.vis C.sc))).bind _ = _ at hv
        refine Res.bind2 hv fun c μ₁ e1 e2 => ?_
        cases e2
        exact wpAny_isTrue_BoolOp (allTrue_ok SB K .Or true (.inr ⟨rfl, rfl⟩) l μ _ _ e1 Z as s Q E S P)
    | IfExp t a c pos =>
      change (evB F ρ μ (compE k C.vis C.sc t)).bind _ = _ at hv
      refine Res.bind2 hv fun d μ₁ e1 e2 => ?_
      exact iteB_ok SX SB K e1 e2 S P
    | Compare l ops rs pos =>
      refine cCmp_cases (P := fun x => stepX F ρ μ x = .ok (.c (.bool b), μ') → _) noR (fun op r h1 h2 hv => ?_) hv
      subst h1 h2
      refine Res.bind2 hv fun x μ₁ e1 e2 => ?_
      refine Res.bind2 e2 fun y μ₂ e3 e4 => ?_
      refine optR e4 fun r hr e4 => ?_
      cases e4
      exact cmpB_ok SX bad K e1 e3 hr S P
    | _ => exact val rfl
end
/-- the one try of the text -/
noncomputable def SoundT (F : Fn) (n : Nat) : Prop := ∀ (k : Nat) (b : List Stmt) (f x y a : Str) (p1 p2 p3 p4 p5 p : Pos) (C : Cx) (ρ : Ev) (μ : Mu) (fl : Fl) (ρ' : Ev) (μ' : Mu), nmOf C.vis C.sc f = some (.cl 51) → sEqL x y = true → At.of a.cps.toList = some .message → isLocal C.sc x = true → oddName x = false →
  stepS F ρ μ (.tryM (b.map (compS k C.vis C.sc))) = .ok (fl, ρ', μ') → C.Ok n → FnCx C → ∀ Z as s Q E, St C Z as ρ μ s → PostS C Z as fl ρ' μ' Q →
  wpAny (model pT C.w) C.A (exec (.Try b [.ExceptHandler (some (.Name f p1)) (some x) [.Return (some (.Attribute (.Name y p2) a p3)) p4] p5] [] [] p) C.env) Q E s
section
variable {F : Fn} {n : Nat} {C : Cx} {Z Z' : ZM} {as as' : AS} {ρ ρ' : Ev} {μ μ' : Mu} {s s' : Shared} {E : Value → Shared → Prop}
theorem optS_ok {o : Option S} {r} (h : stepS F ρ μ (optS o) = .ok r) : ∃ x, o = some x ∧ stepS F ρ μ x = .ok r := by
  rcases o with _ | x
  · cases h
  · exact ⟨x, rfl, h⟩
theorem swaps_no {k : Nat} {e : Expr} {t : Option Expr} {line : Nat} {r} (bad : BadX F) (h1 : isLC e = false) (h2 : F.x ρ μ (compE k C.vis C.sc e) = .ok r) : swapsWith e t line C.env = pure false := by
  induction e using PySem.Expr.casesOn with
  | ListComp => exact nomatch h1
  | SetComp => cases k <;> exact absurd h2 (bad _ _ _)
  | DictComp => cases k <;> exact absurd h2 (bad _ _ _)
  | _ => rfl
theorem isLC_inv {e : Expr} (h : isLC e = true) : ∃ a b c d, e = .ListComp a b c d := by
  induction e using PySem.Expr.casesOn <;> first | exact falseE h | exact ⟨_, _, _, _, rfl⟩
/-- a name is given a list's value -/
theorem asgC_ok (SX : SoundX F n) (SB : SoundB F n) (bad : BadX F) {k : Nat} (K : C.Ok n) {e : Expr} {x : Str} {q p : Pos} {i : Nat} (ht : tgt C.vis C.sc (.Name x q) = some i) (hl : isLC e = true) {v : V} (he : stepX F ρ μ (compE k C.vis C.sc e) = .ok (v, μ'))
    (S : St C Z as ρ μ s) {Q : Flow → Shared → Prop} (P : PostS C Z as .nxt (ρ.set i (some v)) μ' Q) : wpAny (model pT C.w) C.A (exec (.Assign [.Name x q] e p) C.env) Q E s := by
  obtain ⟨elt, gens, csc, pos, rfl⟩ := isLC_inv hl
  rcases k with _ | k
  · cases he
  ·
    refine cComp_cases (P := fun x => stepX F ρ μ x = .ok (v, μ') → _) noR (fun target iter ifs t hg hc ht' hq => ?_) he
    subst hg
    exact Res.bind2 hq fun x μ₁ e1 he => Res.bind2 he fun d μ₂ e2 he => optR he fun l hl he => Res.bind1 he fun μ₃ e4 he => by
      cases he
      exact comp_asg SX SB bad K hc ht' e1 e2 hl e4 S ht P
theorem tupE_none {e : Expr} (h : (tupE e).isNone = true) : ∀ a b c, e ≠ .Tuple a b c := by
  rintro a b c rfl; cases h
theorem subE_inv {e : Expr} {r} (h : subE e = some r) : ∃ p, e = .Subscript r.1 r.2 p := by
  induction e using PySem.Expr.casesOn <;> first | exact noneE h | (cases h; exact ⟨_, rfl⟩)
theorem tgt_pos {x : Str} {p q : Pos} : tgt C.vis C.sc (.Name x p) = tgt C.vis C.sc (.Name x q) := rfl
theorem ifdS {c : Bool} {a : Mine.S} {r} (h : stepS F ρ μ (if c = true then a else .bad) = .ok r) : c = true ∧ stepS F ρ μ a = .ok r := by
  rcases c with _ | _
  · cases h
  · exact ⟨rfl, h⟩
theorem ifS {c : Bool} {a : Mine.S} {r} {G : Prop} (h : stepS F ρ μ (if c = true then a else .bad) = .ok r) (k : c = true → stepS F ρ μ a = .ok r → G) : G := by
  rcases c with _ | _
  · cases h
  · exact k rfl h
theorem optSm {α : Type} {o : Option α} {g : α → Mine.S} {r} {G : Prop} (h : stepS F ρ μ (optS (o.map g)) = .ok r) (k : ∀ a, o = some a → stepS F ρ μ (g a) = .ok r → G) : G := by
  rcases o with _ | x
  · cases h
  · exact k x rfl h
theorem satop_ok {a : At} {x v : V} {μ₁ : Mu} (h : satop μ x a v = some μ₁) (S : St C Z as ρ μ s) (K : C.Ok n) {y z : Value} (ry : VRep C.w Z as y v) (rz : VRep C.w Z as z x) {Q : Unit → Shared → Prop} (P : ∀ s', St C Z as ρ μ₁ s' → Q () s') :
    wpAny (model pT C.w) C.A (setAttr z (sT a.name) y) Q E s := by
  refine hold fun G out => ?_
  rcases x with d | i
  ·
    refine ite1 h fun hc h => and2 hc fun hc1 hc => and2 hc fun hc2 hc3 => ?_
    subst h
    obtain ⟨k, t, u, rfl⟩ := isVecD_v hc1
    obtain ⟨b, rfl⟩ := isB_v hc3
    cases of_decide_eq_true hc2
    cases vbool ry
    exact out (set_flag S K rz P)
  ·
    refine Option.bind1 h fun p hp h => ?_
    rcases p with ⟨_, _⟩ | _ | ⟨c, l⟩ | d
    · exact noneE h
    · exact noneE h
    ·
      refine ite1 h fun hc h => and2 hc fun hc1 hc2 => ?_
      subst h
      exact out (set_priv S K hp (priv_in hc1) (Nat.le_trans (of_decide_eq_true hc2) (by decide)) rz ry P)
    ·
      refine ite1 h fun hc h => and2 hc fun hc1 hc => and2 hc fun hc2 hc3 => ?_
      subst h
      obtain ⟨k, t, u, rfl⟩ := isVecD_v hc1
      obtain ⟨b, rfl⟩ := isB_v hc3
      cases of_decide_eq_true hc2
      cases vbool ry
      obtain ⟨q, hq, pr⟩ := S.c.vrep_alive hp
      cases vref rz hq
      exact out (set_flag S K pr P)
theorem sixop_ok {x y v : V} {μ₁ : Mu} (h : sixop μ x y v = some μ₁) (S : St C Z as ρ μ s) (K : C.Ok n) {vx xx yx : Value} (rv : VRep C.w Z as vx v) (rx : VRep C.w Z as xx x) (ry : VRep C.w Z as yx y) {Q : Unit → Shared → Prop} (P : ∀ s', St C Z as ρ μ₁ s' → Q () s') :
    wpAny (model pT C.w) C.A (setItem xx yx vx) Q E s := by
  refine hold fun G out => ?_
  rcases x with d | i
  · exact noneE h
  ·
    unfold sixop at h
    dsimp only at h
    generalize hy : toI y = o at h
    rcases o with _ | m
    ·
      refine Option.bind1 h fun k hk h => Option.bind1 h fun p hp h => ?_
      cases toT_v hk
      rcases p with ⟨_, _⟩ | es | ⟨_, _⟩ | _
      · exact noneE h
      ·
        refine ite1 h fun hc h => ?_
        subst h
        exact out (setD_ok S K hp (of_decide_eq_true hc) rx ry rv P)
      · exact noneE h
      · exact noneE h
    ·
      refine Option.bind1 h fun d hd h => Option.bind1 h fun p hp h => ?_
      cases toI_v hy
      cases toD_v hd
      rcases p with ⟨pl, l⟩ | _ | ⟨_, _⟩ | _
      ·
        refine ite1 h fun hc h => and2 hc fun hc1 hc => and2 hc fun hc2 hc3 => ?_
        subst h
        exact out (setL_ok S K hp (of_decide_eq_true hc1) (of_decide_eq_true hc2) (fits_le hc3) rx ry rv P)
      · exact noneE h
      · exact noneE h
      · exact noneE h
theorem opt_S {α : Type} {P : Mine.S → Prop} (hb : P .bad) {o : Option α} {g : α → Mine.S} (h : ∀ a, o = some a → P (g a)) : P (optS (o.map g)) := by
  rcases o with _ | a
  · exact hb
  · exact h a rfl
theorem cAug_cases {P : Mine.S → Prop} (hb : P .bad) {rx : Expr → X} {vis : Vis} {sc : Scope} {t e : Expr} {op : Operator} (h : ∀ x q i o, t = .Name x q → tgt vis sc (.Name x q) = some i → boOf op = some o → P (.aug i o (rx e))) : P (cAug rx vis sc t op e) := by
  unfold cAug
  generalize hx : nmE t = o
  rcases o with _ | x
  · exact hb
  · obtain ⟨q, hq⟩ := nmE_inv hx
    show P (optS ((tgt vis sc (.Name x q)).bind _))
    generalize ht : tgt vis sc (.Name x q) = o
    rcases o with _ | i
    · exact hb
    · exact opt_S hb fun o ho => h x q i o hq ht ho
theorem cAsg_cases {P : Mine.S → Prop} (hb : P .bad) {rx : Expr → X} {vis : Vis} {sc : Scope} {ts : List Expr} {e : Expr} (h1 : ∀ x q i, ts = [.Name x q] → tgt vis sc (.Name x q) = some i → P (if isLC e then .asgC i (rx e) else .asg i (rx e)))
    (h2 : ∀ l a b is, ts = [.Tuple l a b] → (tupE e).isNone = true → l.mapM (tgt vis sc) = some is → P (.asgT is (rx e))) (h3 : ∀ o a pp a', ts = [.Attribute o a pp] → At.of a.cps.toList = some a' → P (.sat (rx o) a' (rx e)))
    (h4 : ∀ o i pp, ts = [.Subscript o i pp] → P (.six (rx o) (rx i) (rx e))) : P (cAsg rx vis sc ts e) := by
  unfold cAsg
  generalize ht : only ts = o
  rcases o with _ | t
  · exact hb
  · have ht := only1 ht
    subst ht
    dsimp only
    generalize hx : nmE t = o
    rcases o with _ | x
    · dsimp only
      generalize hl : tupE t = o
      rcases o with _ | l
      · dsimp only
        generalize ha : atE t = o
        rcases o with _ | ⟨o, a, pp⟩
        · dsimp only
          generalize hs : subE t = o
          rcases o with _ | ⟨o, i⟩
          · exact hb
          · obtain ⟨pp, hp⟩ := subE_inv hs
            exact h4 o i pp (congrArg (fun t => [t]) hp)
        · exact opt_S hb fun a' hi => h3 o a pp a' (congrArg (fun t => [t]) (atE_inv ha)) hi
      · obtain ⟨a, b, hp⟩ := tupE_inv hl
        by_cases hn : (tupE e).isNone = true
        · show P (if (tupE e).isNone = true then _ else _)
          rw [if_pos hn]
          exact opt_S hb fun is hi => h2 l a b is (congrArg (fun t => [t]) hp) hn hi
        · show P (if (tupE e).isNone = true then _ else _)
          rw [if_neg hn]
          exact hb
    · obtain ⟨q, hq⟩ := nmE_inv hx
      exact opt_S hb fun i hi => h1 x q i (congrArg (fun t => [t]) hq) hi
theorem assign_ok (SX : SoundX F n) (SB : SoundB F n) (bad : BadX F) {k : Nat} (K : C.Ok n) {e : Expr} {ts : List Expr} {p : Pos} {fl : Fl} (he : stepS F ρ μ (cAsg (compE k C.vis C.sc) C.vis C.sc ts e) = .ok (fl, ρ', μ'))
    (S : St C Z as ρ μ s) {Q : Flow → Shared → Prop} (P : PostS C Z as fl ρ' μ' Q) : wpAny (model pT C.w) C.A (exec (.Assign ts e p) C.env) Q E s := by
  refine hold fun G out => ?_
  revert he
  refine cAsg_cases (P := fun x => stepS F ρ μ x = .ok (fl, ρ', μ') → G) noR (fun x q i hs hi he => ?_) (fun l a b is hs hn hi he => ?_) (fun o a pp a' hs hi he => ?_) (fun o i pp hs he => ?_)
  · subst hs
    by_cases hl : isLC e = true
    · rw [if_pos hl] at he
      exact Res.bind2 he fun v μ₁ e1 he => out (asgC_ok (q := q) SX SB bad K hi hl e1 S (P.nx' he))
    · rw [if_neg hl] at he
      exact Res.bind2 he fun v μ₁ e1 he => out (asg_ok (q := q) SX K hi (swaps_no bad (Bool.eq_false_iff.mpr hl) e1) e1 S (P.nx' he))
  · subst hs
    exact Res.bind2 he fun v μ₁ e1 he => optR he fun ds hd he => iteR he fun hlen he => out (asgT_ok SX K hi (tupE_none hn) e1 hd hlen S (P.nx' he))
  · subst hs
    exact Res.bind2 he fun v μ₁ e1 he => Res.bind2 he fun x μ₂ e2 he => optR he fun μ₃ e3 he => out (sat_ok SX K hi e1 e2 S fun Z₂ as₂ s₂ y z l₂ p₂ S₂ ry rz => satop_ok e3 S₂ K ry rz fun s₃ S₃ => (P.nx' he).nx l₂ p₂ S₃)
  · subst hs
    exact Res.bind2 he fun v μ₁ e1 he => Res.bind2 he fun x μ₂ e2 he => Res.bind2 he fun y μ₃ e3 he => optR he fun μ₄ e4 he => out (six_ok SX K e1 e2 e3 S fun Z₂ as₂ s₂ vx xx yx l₂ p₂ S₂ rv rx ry => sixop_ok e4 S₂ K rv rx ry fun s₃ S₃ => (P.nx' he).nx l₂ p₂ S₃)
end
section
variable {F : Fn} {n : Nat} {C : Cx} {Z Z' : ZM} {as as' : AS} {ρ ρ' : Ev} {μ μ' : Mu} {s s' : Shared} {E : Value → Shared → Prop}
theorem only_v {α : Type} {l : List α} {a : α} (h : only l = some a) : l = [a] := by
  rcases l with _ | ⟨b, r⟩
  · exact noneE h
  ·
    rcases r with _ | ⟨_, _⟩
    · exact congrArg (· :: []) (Option.some.inj h)
    · exact noneE h
theorem retE_v {st : Stmt} {e : Expr} (h : retE st = some e) : ∃ p, st = .Return (some e) p := by
  cases st <;> first | exact noneE h | exact ⟨_, congrArg (Stmt.Return · _) h⟩
theorem calE_v {e : Expr} {q} (h : calE e = some q) : ∃ p, e = .Call q.1 q.2.1 q.2.2 p := by
  cases e <;> first | exact noneE h | (cases Option.some.inj h; exact ⟨_, rfl⟩)
theorem hanE_v {e : ExceptHandler} {q} (h : hanE e = some q) : ∃ p, e = .ExceptHandler (some q.1) (some q.2.1) q.2.2 p := by
  obtain ⟨t', x', b, p⟩ := e
  refine Option.bind1 h fun t ht h1 => Option.map1 h1 fun x hx h2 => ?_
  subst h2
  exact ⟨p, by rw [ht, hx]⟩
theorem isR_v {o : Option Nm} (h : isR o = true) : o = some (.cl 51) := by
  rcases o with _ | m
  · exact falseE h
  ·
    rcases m with _ | _ | a | _ | _
    · exact falseE h
    · exact falseE h
    · exact congrArg (fun a => some (Nm.cl a)) (Nat.eq_of_beq_eq_true h)
    · exact falseE h
    · exact falseE h
theorem nil_v {α : Type} {l : List α} (h : l.isEmpty = true) : l = [] := List.isEmpty_iff.mp h
theorem tryE_v {hs : List ExceptHandler} {q} (h : tryE hs = some q) : ∃ p1 p2 p3 p4 p5, hs = [.ExceptHandler (some (.Name q.1 p1)) (some q.2.1) [.Return (some (.Attribute (.Name q.2.2.1 p2) q.2.2.2 p3)) p4] p5] := by
  refine Option.bind1 h fun a ha h => Option.bind1 h fun b hb h => Option.bind1 h fun c hc h => Option.bind1 h fun d hd h => Option.bind1 h fun e he h => Option.bind1 h fun r hr h => Option.map1 h fun y hy h => ?_
  subst h
  obtain ⟨p5, e1⟩ := hanE_v hb
  obtain ⟨p1, e2⟩ := nmE_inv hc
  obtain ⟨p4, e3⟩ := retE_v he
  obtain ⟨p2, e4⟩ := nmE_inv hy
  exact ⟨p1, p2, r.2.2, p4, p5, by rw [only_v ha, e1, e2, only_v hd, e3, atE_inv hr, e4]⟩
theorem raiE_v {e : Expr} {q} (h : raiE e = some q) : ∃ p p', e = .Call (.Name q.1 p) [q.2] [] p' := by
  refine Option.bind1 h fun a ha h => ?_
  by_cases hk : a.2.2.isEmpty = true
  · rw [if_pos hk] at h
    refine Option.bind1 h fun f hf h => Option.map1 h fun m hm h => ?_
    subst h
    obtain ⟨p', e1⟩ := calE_v ha
    obtain ⟨p, e2⟩ := nmE_inv hf
    exact ⟨p, p', by rw [e1, e2, only_v hm, nil_v hk]⟩
  · rw [if_neg hk] at h; exact noneE h
theorem try_E {α : Type} {F' : Mine.S → Res α} (hb : F' .bad = .no) {rs : Stmt → Mine.S} {vis : Vis} {sc : Scope} {b : List Stmt} {hs : List ExceptHandler} {o f : List Stmt} {y : α} {G : Prop} (h : F' (cTry rs vis sc b hs o f) = .ok y)
    (k : ∀ q, tryE hs = some q → o = [] → f = [] → nmOf vis sc q.1 = some (.cl 51) → sEqL q.2.1 q.2.2.1 = true → At.of q.2.2.2.cps.toList = some .message → isLocal sc q.2.1 = true → oddName q.2.1 = false → F' (.tryM (b.map rs)) = .ok y → G) : G := by
  unfold cTry at h
  by_cases h0 : (o.isEmpty && f.isEmpty) = true
  · rw [if_pos h0] at h
    generalize hq : tryE hs = t at h
    rcases t with _ | q
    · exact noR (hb.symm.trans h)
    ·
      change F' (if _ then _ else _) = _ at h
      by_cases h1 : (isR (nmOf vis sc q.1) && ((sEqL q.2.1 q.2.2.1 && decide (At.of q.2.2.2.cps.toList = some .message)) && (isLocal sc q.2.1 && !oddName q.2.1))) = true
      · rw [if_pos h1] at h
        exact and2 h0 fun a1 a2 => and2 h1 fun b1 b2 => and2 b2 fun b3 b4 => and2 b3 fun b5 b6 => and2 b4 fun b7 b8 => k q hq (nil_v a1) (nil_v a2) (isR_v b1) b5 (of_decide_eq_true b6) b7 (Bool.not_eq_true' _ ▸ b8) h
      · rw [if_neg h1] at h; exact noR (hb.symm.trans h)
  · rw [if_neg h0] at h; exact noR (hb.symm.trans h)
theorem raise_no {rx : Expr → X} {vis : Vis} {sc : Scope} {e c : Option Expr} {r} (h : stepS F ρ μ (cRaise rx vis sc e c) = .ok r) : False :=
  ifS h fun _ h => optSm h fun _ _ h => ifS h fun _ h => noR h
theorem stepS_ok (tab : Addr → Option Fd) (SX : SoundX F n) (SB : SoundB F n) (SS : SoundS F n) (ST : SoundT F n) (bad : BadX F) : SoundS (stepF tab F) (n + 1) := by
  intro k st C ρ μ fl ρ' μ' he K1 H Z as s Q E S P
  have K := K1.le (Nat.le_succ n)
  change stepS F ρ μ (compS k C.vis C.sc st) = .ok (fl, ρ', μ') at he
  refine hold fun G out => ?_
  rcases k with _ | k
  · cases he
  ·
    cases st with
    | Assign ts e p => exact out (assign_ok SX SB bad K he S P)
    | AugAssign t op e p =>
      refine cAug_cases (P := fun x => stepS F ρ μ x = .ok (fl, ρ', μ') → G) noR (fun x q i o hx hi ho hq => ?_) he
      subst hx
      exact optR hq fun v hv he => Res.bind2 he fun y μ₁ e1 he => optR he fun a ha he => optR he fun b hb he => iteR he fun hoo h' => by
        cases toI_v ha
        cases toI_v hb
        subst hoo
        cases boOf_op ho
        exact out (aug_ok (q := q) SX K hi (getV_v hv) e1 S (P.nx' h'))
    | Expr e p =>
      exact ifS he fun hc he => Res.bind2 he fun v μ₁ e1 he => out (wpAny_Expr_any (SX k e C ρ μ v _ e1 K Z as s _ E S fun Z₁ as₁ s₁ y l₁ p₁ S₁ r₁ => (P.nx' he).nx l₁ p₁ S₁) (by unfold interactive; rw [K.lay.kind]; rfl) (by cases e <;> first | rfl | exact falseE hc))
    | If t a b p =>
      exact Res.bind2 he fun c μ₁ e1 e2 => out (if_ok SB SS K H e1 e2 S P)
    | While t b o p =>
      refine ifS he fun hc he => ?_
      cases nil_v hc
      exact out (while_ok SB SS K H he S P)
    | For t it b o p =>
      refine ifS he fun hc he => ?_
      cases nil_v hc
      exact optSm he fun tt ht he => Res.bind2 he fun x μ₁ e1 he => Res.bind2 he fun d μ₂ e2 he => optR he fun l hl he => out (for_ok SX SS bad K H ht e1 e2 hl he S P)
    | Return e p =>
      rcases e with _ | e
      ·
        cases he
        exact out (wpAny_Return_none (P Z as s (.refl _) (List.prefix_refl _) S _ .none))
      ·
        refine Res.bind2 he fun v μ₁ e1 he => ?_
        cases he
        exact out (wpAny_Return_some (SX k e C ρ μ v _ e1 K Z as s _ E S fun Z₁ as₁ s₁ y l₁ p₁ S₁ r₁ => P Z₁ as₁ s₁ l₁ p₁ S₁ y r₁))
    | Raise e c p => exact (raise_no he).elim
    | Try b hs o f p =>
      exact try_E (F' := stepS F ρ μ) rfl he fun q hq ho hf hn h1 h2 h3 h4 h' => by
        obtain ⟨p1, p2, p3, p4, p5, rfl⟩ := tryE_v hq
        subst ho hf
        exact out (ST k b _ _ _ _ _ _ _ _ _ _ C ρ μ fl ρ' μ' hn h1 h2 h3 h4 h' K H Z as s Q E S P)
    | _ => cases he
end
/-! ### how a call's arguments are bound -/
theorem zip_look : ∀ {ns : List Str} {vs : List Value} {i : Nat} {n : Str} {v : Value}, ns.Nodup → ns[i]? = some n → vs[i]? = some v → (ns.zip vs).lookup n = some v
  | [], vs, i, n, v, _, h, _ => by simp at h
  | a :: ns, [], i, n, v, _, _, h => by simp at h
  | a :: ns, b :: vs, i, n, v, nd, h, h' => by
    obtain ⟨n1, n2⟩ := List.nodup_cons.mp nd
    rw [List.zip_cons_cons, List.lookup_cons]
    rcases i with _ | i
    · simp at h h'; subst h h'; rw [beq_self_eq_true]
    ·
      simp at h h'
      have : (n == a) = false := by
        cases q : n == a with
        | false => rfl
        | true => rw [eq_of_beq q] at h; exact absurd (List.mem_of_getElem? h) n1
      rw [this]
      exact zip_look n2 h h'
theorem zip_no : ∀ {ns : List Str} {vs : List Value} {n : Str}, n ∉ ns → (ns.zip vs).lookup n = none
  | [], vs, n, _ => rfl
  | a :: ns, [], n, _ => rfl
  | a :: ns, b :: vs, n, h => by
    rw [List.zip_cons_cons, List.lookup_cons]
    have : (n == a) = false := by
      cases q : n == a with
      | false => rfl
      | true => exact absurd (eq_of_beq q ▸ List.Mem.head _) h
    rw [this]
    exact zip_no fun m => h (.tail _ m)
theorem zip_fm : ∀ {ns : List Str} {vs : List Value}, ns.Nodup → ns.length = vs.length → ns.filterMap (fun n => ((ns.zip vs).lookup n).map (n, ·)) = ns.zip vs := by
  intro ns vs nd hl
  have key : ∀ (ms : List Str) (ws : List Value), ms.length = ws.length → (∀ (i : Nat) (n : Str) (v : Value), ms[i]? = some n → ws[i]? = some v → (ns.zip vs).lookup n = some v) → ms.filterMap (fun n => ((ns.zip vs).lookup n).map (n, ·)) = ms.zip ws := by
    intro ms
    induction ms with
    | nil => intro ws _ _; rfl
    | cons m ms ih =>
      intro ws hl h
      rcases ws with _ | ⟨w, ws⟩
      · cases hl
      ·
        rw [List.filterMap_cons, h 0 m w rfl rfl, List.zip_cons_cons]
        dsimp only [Option.map_some]
        rw [ih ws (by simpa using hl) fun i n v a b => h (i + 1) n v (by simpa using a) (by simpa using b)]
  exact key ns vs hl fun i n v a b => zip_look nd a b
theorem zip_take' : ∀ (ns : List Str) (vs : List Value), ns.zip vs = (ns.take vs.length).zip vs
  | [], vs => by simp
  | a :: ns, [] => by simp
  | a :: ns, b :: vs => by rw [List.length_cons, List.take_succ_cons, List.zip_cons_cons, List.zip_cons_cons, ← zip_take' ns vs]
/-- the defaults' loop -/
theorem dfl_loop (ns : List Str) (nd : ns.Nodup) : ∀ (k : Nat) (vs ds : List Value), vs.length + k = ns.length → ds.length = k →
    (forIn ((ns.drop vs.length).zip ds) (ns.zip vs) fun (x : Str × Value) (r : List (Str × Value)) => (if (r.lookup x.1).isNone = true then pure (ForInStep.yield (r ++ [(x.1, x.2)])) else pure (ForInStep.yield r) : Sem (ForInStep (List (Str × Value))))) = pure (ns.zip (vs ++ ds))
  | 0, vs, ds, h, hd => by
    have : ds = [] := List.length_eq_zero_iff.mp hd
    subst this
    simp
  | k + 1, vs, [], h, hd => by cases hd
  | k + 1, vs, d :: ds, h, hd => by
    have hlt : vs.length < ns.length := by lia
    rw [List.drop_eq_getElem_cons hlt, List.zip_cons_cons, List.forIn_cons]
    have hno : (ns.zip vs).lookup ns[vs.length] = none := by
      rw [zip_take' ns vs]
      refine zip_no fun m => ?_
      obtain ⟨i, hi, e⟩ := List.mem_iff_getElem.mp m
      rw [List.getElem_take] at e
      have hi' : i < vs.length := by simp at hi; lia
      have : i = vs.length := nodup_at nd (a := ns[vs.length]) (by rw [List.getElem?_eq_getElem (by lia), e]) (List.getElem?_eq_getElem hlt)
      lia
    dsimp only
    rw [if_pos (by rw [hno]; rfl), pure_bind]
    have e : ns.zip vs ++ [(ns[vs.length], d)] = ns.zip (vs ++ [d]) := by
      have h1 : ns = ns.take vs.length ++ ns.drop vs.length := (List.take_append_drop _ _).symm
      have h2 : ns.drop vs.length = ns[vs.length] :: ns.drop (vs.length + 1) := List.drop_eq_getElem_cons hlt
      calc ns.zip vs ++ [(ns[vs.length], d)] = (ns.take vs.length ++ ns[vs.length] :: ns.drop (vs.length + 1)).zip (vs ++ [d]) := by
            rw [List.zip_append (by simp; lia), ← zip_take' ns vs, List.zip_cons_cons, List.zip_nil_right]
        _ = ns.zip (vs ++ [d]) := by rw [← h2, ← h1]
    rw [e]
    have := dfl_loop ns nd k (vs ++ [d]) ds (by simp; lia) (by simpa using hd)
    simp only [List.length_append, List.length_cons, List.length_nil, List.append_assoc, List.cons_append, List.nil_append] at this
    exact this
theorem bool_and1 {a b : Bool} (h : (a && b) = true) : a = true := by cases a; exact h; rfl
theorem wp_eq {α : Type} {M : Model} {A : Around} {E : Value → Shared → Prop} {s : Shared} {Q : α → Shared → Prop} {x y : Sem α} (h : x = y) (k : wpAny M A y Q E s) : wpAny M A x Q E s := h ▸ k
theorem zip_some {ns : List Str} (nd : ns.Nodup) {vals : List Value} {i : Nat} {n : Str} (hi : i < vals.length) (e : ns[i]? = some n) : ((ns.zip vals).lookup n).isSome = true := by rw [zip_look nd e (List.getElem?_eq_getElem hi)]; rfl
theorem bind_miss {ns : List Str} (nd : ns.Nodup) {vals dw : List Value} (l2 : ns.length ≤ vals.length + dw.length) : ¬ (!((ns.take (ns.length - dw.length)).filter (fun n => ((ns.zip vals).lookup n).isNone)).isEmpty) = true := by
  have h5 : (ns.take (ns.length - dw.length)).filter (fun n => ((ns.zip vals).lookup n).isNone) = [] := by
    rw [List.filter_eq_nil_iff]
    intro n hn
    obtain ⟨i, hi, e⟩ := List.mem_iff_getElem.mp hn
    rw [List.getElem_take] at e
    have h2 := hi
    rw [List.length_take] at h2
    have hi' : i < vals.length := by lia
    rw [← Option.not_isSome, zip_some nd hi' (by rw [List.getElem?_eq_getElem (by lia), e])]; exact Bool.false_ne_true
  rw [h5]; exact Bool.false_ne_true
theorem loop_on {ns : List Str} {vals : List Value} (qs : List (Str × Value)) : ∀ (ps : List (Str × Value)), (∀ p ∈ ps, ((ns.zip vals).lookup p.1).isSome = true) →
      (forIn (ps ++ qs) (ns.zip vals) fun (x : Str × Value) (r : List (Str × Value)) => (if (r.lookup x.1).isNone = true then pure (ForInStep.yield (r ++ [(x.1, x.2)])) else pure (ForInStep.yield r) : Sem (ForInStep (List (Str × Value))))) = forIn qs (ns.zip vals) fun (x : Str × Value) (r : List (Str × Value)) => (if (r.lookup x.1).isNone = true then pure (ForInStep.yield (r ++ [(x.1, x.2)])) else pure (ForInStep.yield r) : Sem (ForInStep (List (Str × Value))))
  | [], _ => rfl
  | p :: ps, h => by
    rw [List.cons_append, List.forIn_cons, if_neg (by rw [← Option.not_isSome, h p (.head _)]; exact Bool.false_ne_true), pure_bind]
    exact loop_on qs ps fun q m => h q (.tail _ m)
theorem bind_loop {ns : List Str} (nd : ns.Nodup) {vals dw : List Value} (l1 : vals.length ≤ ns.length) (l2 : ns.length ≤ vals.length + dw.length) (l3 : dw.length ≤ ns.length) :
    (forIn ((ns.drop (ns.length - dw.length)).zip dw) (ns.zip vals) fun (x : Str × Value) (r : List (Str × Value)) => (if (r.lookup x.1).isNone = true then pure (ForInStep.yield (r ++ [(x.1, x.2)])) else pure (ForInStep.yield r) : Sem (ForInStep (List (Str × Value))))) = pure (ns.zip (vals ++ dw.drop (dw.length - (ns.length - vals.length)))) := by
  have h6 : (ns.drop (ns.length - dw.length)).zip dw = ((ns.drop (ns.length - dw.length)).take (vals.length - (ns.length - dw.length))).zip (dw.take (vals.length - (ns.length - dw.length))) ++ (ns.drop vals.length).zip (dw.drop (dw.length - (ns.length - vals.length))) := by
    have h7 : ns.drop vals.length = (ns.drop (ns.length - dw.length)).drop (vals.length - (ns.length - dw.length)) := by rw [List.drop_drop]; congr 1; lia
    have h8 : dw.length - (ns.length - vals.length) = vals.length - (ns.length - dw.length) := by lia
    rw [h7, h8, ← List.zip_append (by rw [List.length_take, List.length_take, List.length_drop]; lia), List.take_append_drop, List.take_append_drop]
  rw [h6]
  refine (loop_on _ _ fun p hp => ?_).trans (dfl_loop ns nd (ns.length - vals.length) vals _ (by lia) (by rw [List.length_drop]; lia))
  obtain ⟨i, hi, e⟩ := List.mem_iff_getElem.mp (List.of_mem_zip (show (p.1, p.2) ∈ ((ns.drop (ns.length - dw.length)).take (vals.length - (ns.length - dw.length))).zip (dw.take (vals.length - (ns.length - dw.length))) from hp)).1
  rw [List.getElem_take, List.getElem_drop] at e
  have h2 := hi
  rw [List.length_take] at h2
  have hi' : ns.length - dw.length + i < vals.length := by lia
  exact zip_some nd hi' (by rw [List.getElem?_eq_getElem (by lia), e])
theorem drop_all {ns : List Str} {dv : List Value} (l3 : dv.length ≤ ns.length) : dv.drop (dv.length - ns.length) = dv := by rw [Nat.sub_eq_zero_of_le l3, List.drop_zero]
theorem bind_miss' {ns : List Str} (nd : ns.Nodup) {vals dv : List Value} (l2 : ns.length ≤ vals.length + dv.length) (l3 : dv.length ≤ ns.length) : ¬ (!((ns.take (ns.length - (dv.drop (dv.length - ns.length)).length)).filter (fun n => ((ns.zip vals).lookup n).isNone)).isEmpty) = true := by
  rw [drop_all l3]; exact bind_miss nd l2
theorem bind_loop' {ns : List Str} (nd : ns.Nodup) {vals dv : List Value} (l1 : vals.length ≤ ns.length) (l2 : ns.length ≤ vals.length + dv.length) (l3 : dv.length ≤ ns.length) :
    (forIn ((ns.drop (ns.length - (dv.drop (dv.length - ns.length)).length)).zip (dv.drop (dv.length - ns.length))) (ns.zip vals) fun (x : Str × Value) (r : List (Str × Value)) => (if (r.lookup x.1).isNone = true then pure (ForInStep.yield (r ++ [(x.1, x.2)])) else pure (ForInStep.yield r) : Sem (ForInStep (List (Str × Value))))) = pure (ns.zip (vals ++ dv.drop (dv.length - (ns.length - vals.length)))) := by
  rw [drop_all l3]; exact bind_loop nd l1 l2 l3
theorem bind_fin {ns : List Str} (nd : ns.Nodup) {vals dv : List Value} (l1 : vals.length ≤ ns.length) (l2 : ns.length ≤ vals.length + dv.length) : (ns ++ []).filterMap (fun n => ((ns.zip (vals ++ dv.drop (dv.length - (ns.length - vals.length)))).lookup n).map (n, ·)) = ns.zip (vals ++ dv.drop (dv.length - (ns.length - vals.length))) := by
  rw [List.append_nil]
  exact zip_fm nd (by rw [List.length_append, List.length_drop]; lia)
theorem cast_Q {α : Type} {Q : α → Shared → Prop} {s : Shared} {a b : α} (h : a = b) (k : Q b s) : Q a s := h ▸ k
theorem args_eta {p : Arguments} (h1 : p.posonlyargs = []) (h2 : p.kwonlyargs = []) (h3 : p.vararg = none) (h4 : p.kwarg = none) : p = ⟨[], p.args, none, [], p.kw_defaults, none, p.defaults⟩ := by
  obtain ⟨a, b, c, d, e, f, g⟩ := p
  have h1 : a = [] := h1
  have h2 : d = [] := h2
  have h3 : c = none := h3
  have h4 : f = none := h4
  rw [h1, h2, h3, h4]
theorem bind_mk {M : Model} {A : Around} {E : Value → Shared → Prop} {s : Shared} {fd : FuncData} {ag : List Arg} {kd : List (Option Expr)} {df : List Expr} (e : fd.params = ⟨[], ag, none, [], kd, none, df⟩) (nd : (ag.map (·.arg)).Nodup) {vals dv : List Value}
    (hs : ∀ {Q' : Option (Array Value) → Shared → Prop}, (∀ r : Option (Array Value), (r.getD #[]).toList = dv → Q' r s) → wpAny M A (seqItems? fd.defaults) Q' E s) (l1 : vals.length ≤ (ag.map (·.arg)).length) (l2 : (ag.map (·.arg)).length ≤ vals.length + dv.length) (l3 : dv.length ≤ (ag.map (·.arg)).length) {Q : List (Str × Value) → Shared → Prop}
    (hQ : Q ((ag.map (·.arg)).zip (vals ++ dv.drop (dv.length - ((ag.map (·.arg)).length - vals.length)))) s) : wpAny M A (bindArgs fd ⟨vals, []⟩) Q E s := by
  delta bindArgs
  rw [e]
  refine wpAny_bind (wpAny_pure (wpAny_bind (hs fun r hr => ?_)))
  subst hr
  exact wpAny_ite_false (decide_eq_false fun h => absurd (of_decide_eq_true (bool_and1 h)) (Nat.not_lt.mpr l1)) (wpAny_ite_false (decide_eq_false (bind_miss' nd l2 l3)) (wpAny_bind (wp_eq (bind_loop' nd l1 l2 l3) (wpAny_pure (wpAny_bind (wpAny_pure (wpAny_ite_false rfl (wpAny_pure (cast_Q (bind_fin nd l1 l2) hQ)))))))))
theorem bind_gen {M : Model} {A : Around} {E : Value → Shared → Prop} {s : Shared} {fd : FuncData} (h1 : fd.params.posonlyargs = []) (h2 : fd.params.kwonlyargs = []) (h3 : fd.params.vararg = none) (h4 : fd.params.kwarg = none) {ns : List Str} (hns : fd.params.args.map (·.arg) = ns) (nd : ns.Nodup) {vals dv : List Value}
    (hd : (fd.defaults = .none ∧ dv = []) ∨ ∃ t o n, fd.defaults = .ref t ∧ s.heap.get? t = some o ∧ o.data = .seq dv.toArray n) (l1 : vals.length ≤ ns.length) (l2 : ns.length ≤ vals.length + dv.length) (l3 : dv.length ≤ ns.length) {Q : List (Str × Value) → Shared → Prop}
    (hQ : Q (ns.zip (vals ++ dv.drop (dv.length - (ns.length - vals.length)))) s) : wpAny M A (bindArgs fd ⟨vals, []⟩) Q E s := by
  subst hns
  refine bind_mk (args_eta h1 h2 h3 h4) nd (fun h => ?_) l1 l2 l3 hQ
  rcases hd with ⟨e, e2⟩ | ⟨t, o, n, e, ho, hdt⟩
  · rw [e]; exact wpAny_pure (h none e2.symm)
  · rw [e]; exact wpAny_seqItems ho hdt (h _ rfl)
noncomputable def valD : Value → Option D | .none => some .none | .bool b => some (.bool b) | .int i _ => some (.int i) | _ => none
noncomputable def seqO (o : Obj) : Option (List Value) := match o.data with | .seq xs _ => some xs.toList | _ => none
noncomputable def dflD (v : Value) : Option (List D) := match v with
  | .none => some []
  | .ref t => (kT.lookup t).bind fun o => (seqO o).bind fun l => l.mapM valD
  | _ => none
noncomputable def prefixS (l r : List Str) : Bool := match l with
  | [] => true
  | a :: l => match r with
    | [] => false
    | b :: r => sEqL a b && prefixS l r
noncomputable def okFd (fd : FuncData) : Bool := fd.params.posonlyargs.isEmpty && fd.params.kwonlyargs.isEmpty && fd.params.vararg.isNone && fd.params.kwarg.isNone && fd.closure.isEmpty && fd.scope.kind == .function && !fd.scope.isGenerator && !fd.scope.isCoroutine &&
  Nat.beq fd.globals mainGlobals && Nat.beq fd.builtins builtinsNs && ndS (fd.scope.names.map (·.1)) && (fd.scope.names.all fun x => !(x.2 == .free)) && ndS (fd.params.args.map (·.arg)) && prefixS (fd.params.args.map (·.arg)) ((ownL fd.scope).map (·.1))
noncomputable def stmB : FuncBody → Option (List Stmt) | .stmts b => some b | _ => none
theorem stmB_v {x : FuncBody} {b : List Stmt} (h : stmB x = some b) : x = .stmts b := by
  cases x <;> first | exact noneE h | exact congrArg _ (Option.some.inj h)
noncomputable def funD : Data → Option FuncData | .func fd => some fd | _ => none
theorem funD_v {x : Data} {fd : FuncData} (h : funD x = some fd) : x = .func fd := by
  cases x <;> first | exact noneE h | exact congrArg _ (Option.some.inj h)
noncomputable def fdOf (fd : FuncData) : Option Fd := (stmB fd.body).bind fun b => (dflD fd.defaults).bind fun ds =>
  if okFd fd && decide (ds.length ≤ fd.params.args.length) then some ⟨fd.params.args.length, ds, 24, b.map (compS 60 (ownIds fd.scope 0 ++ []) fd.scope)⟩ else none
noncomputable def tabK (a : Addr) : Option Fd := (kF.lookup a).bind fun o => (funD o.data).bind fdOf
structure FdOk (fd : FuncData) (x : Fd) (b : List Stmt) (ds : List D) : Prop where
  h1 : fd.params.posonlyargs = []
  h2 : fd.params.kwonlyargs = []
  h3 : fd.params.vararg = none
  h4 : fd.params.kwarg = none
  clo : fd.closure = []
  kind : fd.scope.kind = .function
  gen : fd.scope.isGenerator = false
  co : fd.scope.isCoroutine = false
  gl : fd.globals = mainGlobals
  bl : fd.builtins = builtinsNs
  nd : (fd.scope.names.map (·.1)).Nodup
  nofree : ∀ x ∈ fd.scope.names, x.2 ≠ .free
  pnd : (fd.params.args.map (·.arg)).Nodup
  pre : ∀ (i : Nat) n, (fd.params.args.map (·.arg))[i]? = some n → ((ownL fd.scope).map (·.1))[i]? = some n
  body : fd.body = .stmts b
  dfl : dflD fd.defaults = some ds
  dl : ds.length ≤ fd.params.args.length
  x : x = ⟨fd.params.args.length, ds, 24, b.map (compS 60 (ownIds fd.scope 0 ++ []) fd.scope)⟩
theorem prefixS_at : ∀ {l r : List Str}, prefixS l r = true → ∀ (i : Nat) n, l[i]? = some n → r[i]? = some n
  | [], r, _, i, n, h => by simp at h
  | a :: l, [], e, i, n, h => by cases e
  | a :: l, b :: r, e, i, n, h => by
    refine and2 e fun e1 e2 => ?_
    rcases i with _ | i
    · simp at h ⊢; rw [← h]; exact (sEqL_iff.mp e1).symm
    · simp at h ⊢; exact prefixS_at e2 i n h
theorem fdOf_ok {fd : FuncData} {x : Fd} (h : fdOf fd = some x) : ∃ b ds, FdOk fd x b ds := by
  refine Option.bind1 h fun b hb h => Option.bind1 h fun ds hd h => ite1 h fun hc hx => and2 hc fun hc hl => ?_
  refine and2 hc fun hc c14 => and2 hc fun hc c13 => and2 hc fun hc c12 => and2 hc fun hc c11 => and2 hc fun hc c10 => and2 hc fun hc c9 => and2 hc fun hc c8 => and2 hc fun hc c7 => and2 hc fun hc c6 => and2 hc fun hc c5 => and2 hc fun hc c4 => and2 hc fun hc c3 => and2 hc fun c1 c2 => ?_
  exact ⟨b, ds, List.isEmpty_iff.mp c1, List.isEmpty_iff.mp c2, Option.isNone_iff_eq_none.mp c3, Option.isNone_iff_eq_none.mp c4, List.isEmpty_iff.mp c5, eq_of_beq c6, Bool.not_eq_true' _ ▸ c7, Bool.not_eq_true' _ ▸ c8, Nat.eq_of_beq_eq_true c9, Nat.eq_of_beq_eq_true c10, ndS_mem c11, (fun x m q => by have := List.all_eq_true.mp c12 x m; rw [q] at this; cases this), ndS_mem c13, prefixS_at c14, stmB_v hb, hd, of_decide_eq_true hl, hx.symm⟩
theorem tabK_ok {a : Addr} {x : Fd} (h : tabK a = some x) : ∃ o fd, kF.lookup a = some o ∧ o.data = .func fd ∧ fdOf fd = some x :=
  Option.bind1 h fun o ho h => Option.bind1 h fun fd hd h => ⟨o, fd, ho, funD_v hd, h⟩
theorem bindL_at (kd : Str → Option NameKind) {ns : List Str} {vs : List Value} (nd : ns.Nodup) {i : Nat} {n : Str} {v : Value} (h1 : ns[i]? = some n) (h2 : vs[i]? = some v) (hk : kd n = some .local) (m : Str → Option Value) : bindL kd (ns.zip vs) m n = some v := by
  have out : ∀ (l : List (Str × Value)) (m : Str → Option Value), (∀ p ∈ l, p.1 ≠ n) → bindL kd l m n = m n := by
    intro l
    induction l with
    | nil => intro m _; rfl
    | cons p l ih =>
      intro m h
      obtain ⟨a, b⟩ := p
      unfold bindL
      rw [ih _ fun q hq => h q (.tail _ hq)]
      have : n ≠ a := fun q => h (a, b) (.head _) q.symm
      split
      · simp [this]
      · rfl
  induction ns generalizing vs i m with
  | nil => simp at h1
  | cons a ns ih =>
    obtain ⟨n1, n2⟩ := List.nodup_cons.mp nd
    rcases vs with _ | ⟨b, vs⟩
    · simp at h2
    ·
      rw [List.zip_cons_cons]
      unfold bindL
      rcases i with _ | i
      ·
        simp at h1 h2
        subst h1 h2
        rw [out _ _ fun p hp q => n1 (q ▸ (List.of_mem_zip hp).1), if_pos hk]
        simp
      ·
        simp at h1 h2
        exact ih n2 h1 h2 _
theorem bindC_at (kd : Str → Option NameKind) {ns : List Str} {vs : List Value} (nd : ns.Nodup) {i : Nat} {n : Str} {v : Value} (h1 : ns[i]? = some n) (h2 : vs[i]? = some v) (hk : kd n ≠ some .local) (m : Str → Option Value) : bindC kd (ns.zip vs) m n = some v := by
  have out : ∀ (l : List (Str × Value)) (m : Str → Option Value), (∀ p ∈ l, p.1 ≠ n) → bindC kd l m n = m n := by
    intro l
    induction l with
    | nil => intro m _; rfl
    | cons p l ih =>
      intro m h
      obtain ⟨a, b⟩ := p
      unfold bindC
      rw [ih _ fun q hq => h q (.tail _ hq)]
      have : n ≠ a := fun q => h (a, b) (.head _) q.symm
      split
      · rfl
      · simp [this]
  induction ns generalizing vs i m with
  | nil => simp at h1
  | cons a ns ih =>
    obtain ⟨n1, n2⟩ := List.nodup_cons.mp nd
    rcases vs with _ | ⟨b, vs⟩
    · simp at h2
    ·
      rw [List.zip_cons_cons]
      unfold bindC
      rcases i with _ | i
      ·
        simp at h1 h2
        subst h1 h2
        rw [out _ _ fun p hp q => n1 (q ▸ (List.of_mem_zip hp).1), if_neg hk]
        simp
      ·
        simp at h1 h2
        exact ih n2 h1 h2 _
theorem cells_uniq : ∀ {names : List (Str × NameKind)} {n : Nat} {x : Str} {c c' : Addr}, (names.map (·.1)).Nodup → (x, c) ∈ cellsFrom n names [] → (x, c') ∈ cellsFrom n names [] → c = c'
  | [], n, x, c, c', _, h, _ => nomatch h
  | (y, k) :: r, n, x, c, c', nd, h, h' => by
    rw [List.map_cons] at nd
    obtain ⟨n1, n2⟩ := List.nodup_cons.mp nd
    have noy : ∀ {c : Addr}, (y, c) ∈ cellsFrom (n + 1) r [] → False := fun h => n1 (List.mem_map.mpr ⟨_, (cellsFrom_mem _ _ h).1, rfl⟩)
    unfold cellsFrom at h h'
    split at h
    · rename_i hk
      rw [if_pos hk] at h'
      rw [cellsFrom_app] at h h'
      rcases List.mem_append.mp h with h | h <;> rcases List.mem_append.mp h' with h' | h'
      · exact cells_uniq n2 h h'
      · cases List.mem_singleton.mp h'; exact (noy h).elim
      · cases List.mem_singleton.mp h; exact (noy h').elim
      · cases List.mem_singleton.mp h; cases List.mem_singleton.mp h'; rfl
    · rename_i hk
      rw [if_neg hk] at h'
      exact cells_uniq n2 h h'
theorem cells_look {names : List (Str × NameKind)} {n : Nat} {x : Str} {c : Addr} (nd : (names.map (·.1)).Nodup) (h : (x, c) ∈ cellsFrom n names []) : (cellsFrom n names []).lookup x = some c := by
  obtain ⟨c', e⟩ := cellsFrom_has names n (cellsFrom_mem _ _ h).1
  rw [e, cells_uniq nd h (mem_of_lookup e)]
noncomputable def noUp (_ : Nat) : Option (Str ⊕ Addr) := none
/-- inside a function of the text -/
noncomputable def Bx.fn (B : Bx) (fd : FuncData) (h : Heap) (a : Addr) : Cx :=
  let env := newEnv fd.scope h.objs.size fd.globals (cellsFrom (h.objs.size + 1) fd.scope.names []) (fd.qualname ++ ".<locals>.") (some a) fd.code none fd.builtins
  { w := B.w, mg := B.mg, mb := B.mb, h₀ := B.h₀, os := B.os, G := B.G, A := B.A.deeper env, Fs := env :: B.Fs, env := env, L := mkL [] fd.scope h.objs.size (h.objs.size + 1) noUp, vis := ownIds fd.scope 0 ++ [], sc := fd.scope }
section
variable {F : Fn} {n : Nat} {B : Bx} {Z : ZM} {as : AS} {μ μ' : Mu} {s s' : Shared} {fd : FuncData} {x : Fd} {b : List Stmt} {ds : List D}
theorem fn_base (O : FdOk fd x b ds) (h : Heap) (a : Addr) : Base B.G (B.fn fd h a).env [] fd.scope h.objs.size (h.objs.size + 1) [] noUp := by
  have hk : ∀ y, kOf fd.scope y ≠ some .free := fun y e => O.nofree _ (kOf_mem e) rfl
  exact ⟨O.nd, O.kind, O.gl, O.bl, rfl, (fun y => ⟨fun _ => kOf_lookup, fun e => absurd e (hk y)⟩), (List.append_nil _).symm, (fun y i e => absurd e (hk y)), (fun i p e => nomatch e), (fun i j p e => nomatch e), Nat.lt_succ_self _⟩
theorem deeper_ok {A : Around} (h : AOk (n + 1) A) (env : Env) : AOk n (A.deeper env) := ⟨h.handled, h.guards, by
      have := h.depth
      show A.depth + 1 + _ + _ < _
      lia, by
      have := h.units
      show A.units + 3 + _ + _ < _
      lia⟩
theorem fn_cx (O : FdOk fd x b ds) {m : Nat} (K : B.Ok m) (hA : ∀ env, AOk n (B.A.deeper env)) {h : Heap} (hs : B.h₀.objs.size ≤ h.objs.size) (a : Addr) : (B.fn fd h a).Ok n where
  gnd := K.gnd
  base := K.base
  ao := hA _
  lay := layOk (fn_base O h a)
  frs := by
    show (B.A.deeper _).frames = _
    unfold Around.deeper
    dsimp only
    rw [K.frs]; rfl
  abv := hs
  fok e m := by
    rcases List.mem_cons.mp m with rfl | m
    · refine ⟨fun q => ?_, h.objs.size, rfl, ?_, .inl rfl⟩
      · have : fd.scope.kind = .module := q
        rw [O.kind] at this; cases this
      · show B.h₀.get? h.objs.size = none
        cases q : B.h₀.get? h.objs.size with
        | none => rfl
        | some o => exact absurd (Nat.lt_of_lt_of_le (Heap.lt_size q) hs) (Nat.lt_irrefl _)
    · obtain ⟨k, L, o, h1, h2, h3⟩ := K.fok e m
      exact ⟨k, L, h1, h2, .inr ⟨o, h3⟩⟩
theorem fn_fc {h : Heap} {a : Addr} : FnCx (B.fn fd h a) := ⟨⟨_, rfl⟩, rfl, fun y e => by
  have e : isLocal fd.scope y = true := e
  show fd.scope.names.lookup y = _
  rw [kOf_lookup]
  exact isLocal_v e⟩
/-- the state behind the entry -/
theorem fn_in (O : FdOk fd x b ds) (S : Sc B Z as μ s) {a : Addr} {ws : List V} {ρ : Ev} {xs : List Value} (r : AlR (VRep B.w Z as) xs ws) (hl : ws.length = fd.params.args.length) (hρ : ρ = ws.map some ++ List.replicate (24 - fd.params.args.length) none)
    (X : InCallC s (B.fn fd s.heap a).env.locals (bindL (B.fn fd s.heap a).env.kindOf ((fd.params.args.map (·.arg)).zip xs) fun _ => none) (B.fn fd s.heap a).env.cells (bindC (B.fn fd s.heap a).env.kindOf ((fd.params.args.map (·.arg)).zip xs) fun _ => none) s') : St (B.fn fd s.heap a) Z as ρ μ s' := by
  obtain ⟨h', tk, rfl, kk⟩ := X.done
  have hcs : (B.fn fd s.heap a).env.cells = cellsFrom (s.heap.objs.size + 1) fd.scope.names [] := rfl
  have cell : ∀ {y : Str} {c : Addr}, (y, c) ∈ cellsFrom (s.heap.objs.size + 1) fd.scope.names [] → h'.IsCell c (bindC (B.fn fd s.heap a).env.kindOf ((fd.params.args.map (·.arg)).zip xs) (fun _ => none) y) := fun {y c} m => X.cell y c (cells_look O.nd m)
  have newA : ∀ c ∈ s.heap.objs.size :: (cellsFrom (s.heap.objs.size + 1) fd.scope.names []).map (·.2), s.heap.get? c = none ∧ ∃ o, h'.get? c = some o := by
    intro c m
    rcases List.mem_cons.mp m with rfl | m
    · obtain ⟨o, _, _, e, _⟩ := X.toInCall.ns
      exact ⟨no_at_size _, o, e⟩
    · obtain ⟨⟨y, c'⟩, h1, rfl⟩ := List.mem_map.mp m
      obtain ⟨o, e, _⟩ := cell h1
      refine ⟨?_, o, e⟩
      have := (cellsFrom_mem _ _ h1).2
      cases q : s.heap.get? c' with
      | none => rfl
      | some o => exact absurd (Heap.lt_size q) (Nat.not_lt.mpr (Nat.le_of_succ_le this))
  -- a variable that is set is an argument
  have arg : ∀ {i : Nat} {v : V}, ρ[i]? = some (some v) → ws[i]? = some v := by
    intro i v h
    rw [hρ] at h
    by_cases q : i < (ws.map some).length
    · rw [List.getElem?_append_left q, List.getElem?_map] at h
      obtain ⟨w, h1, h2⟩ := Option.map_eq_some_iff.mp h
      cases h2; exact h1
    · rw [List.getElem?_append_right (by lia), List.getElem?_replicate] at h
      split at h <;> cases h
  have named : ∀ {i : Nat} {v : V} {y : Str} {k : NameKind}, ws[i]? = some v → (ownL fd.scope)[i]? = some (y, k) → (fd.params.args.map (·.arg))[i]? = some y ∧ ∃ z, xs[i]? = some z ∧ VRep B.w Z as z v := by
    intro i v y k h1 h2
    obtain ⟨z, hz, rz⟩ := r.get h1
    have hi : i < (fd.params.args.map (·.arg)).length := by
      rw [List.length_map, ← hl]; exact (List.getElem?_eq_some_iff.mp h1).1
    have h3 := O.pre i _ (List.getElem?_eq_getElem hi)
    rw [List.getElem?_map, h2] at h3
    have h3 : y = _ := Option.some.inj h3
    exact ⟨by rw [List.getElem?_eq_getElem hi, ← h3], z, hz, rz⟩
  have kindAt : ∀ {i : Nat} {y : Str} {k : NameKind}, (ownL fd.scope)[i]? = some (y, k) → (B.fn fd s.heap a).env.kindOf y = some k := fun {i y k} h =>
    kOf_lookup.trans (kOf_of_mem O.nd (ownL_mem.mp (List.mem_of_getElem? h)).1)
  refine ⟨⟨fun c f e => (S.c.z c f e).keep (kk c), fun c o e => (S.c.g c o e).keep fun _ q => kk _ _ q, S.c.vd, fun c m => ?_, S.c.len, fun i p q h1 h2 => (S.c.priv i p q h1 h2).keep (.refl _) (List.prefix_refl _) fun c _ o e => kk c o e, fun i p q h1 h2 c m => ?_, S.c.sep⟩,
    ⟨⟨_, X.toInCall.ns, fun i nm v h1 h2 => ?_⟩, fun i c v h1 h2 => ?_, fun c m => ?_⟩, S.os, S.gens⟩
  · obtain ⟨e, o, e'⟩ := newA c m
    have fr := S.c.fresh e
    exact ⟨⟨o, e'⟩, fr.1, fr.2.1⟩
  · obtain ⟨z, g, _⟩ := S.c.own i p q h1 h2 c m
    refine ⟨z, g, fun m' => ?_⟩
    obtain ⟨o, e⟩ := (S.c.priv i p q h1 h2).alive m
    rw [(newA c m').1] at e; cases e
  · have h3 := arg h2
    rcases mkPl_own (show mkPl 0 (ownL fd.scope) (cellsFrom (s.heap.objs.size + 1) fd.scope.names []) noUp i = some _ from h1) with ⟨k1, _⟩ | ⟨_, y, ⟨k2, k3⟩ | ⟨_, c', _, k4⟩⟩
    · exact absurd k1 (Nat.not_lt_zero _)
    · cases k3
      obtain ⟨h4, z, hz, rz⟩ := named h3 k2
      exact ⟨z, bindL_at _ O.pnd h4 hz (kindAt k2) _, rz⟩
    · cases k4
  · have h3 := arg h2
    rcases mkPl_own (show mkPl 0 (ownL fd.scope) (cellsFrom (s.heap.objs.size + 1) fd.scope.names []) noUp i = some _ from h1) with ⟨k1, _⟩ | ⟨_, y, ⟨_, k3⟩ | ⟨k2, c', k3, k4⟩⟩
    · exact absurd k1 (Nat.not_lt_zero _)
    · cases k3
    · cases k4
      obtain ⟨h4, z, hz, rz⟩ := named h3 k2
      have := cell (mem_of_lookup k3)
      rw [bindC_at _ O.pnd h4 hz (by rw [kindAt k2]; simp)] at this
      exact ⟨z, this, rz⟩
  · obtain ⟨⟨y, c'⟩, h1, rfl⟩ := List.mem_map.mp m
    exact ⟨_, cell h1⟩
theorem fn_out {C : Cx} {ρ : Ev} (S : St C Z as ρ μ s) {B : Bx} (h1 : C.w = B.w) (h2 : C.G = B.G) (h3 : C.os = B.os) (h4 : C.h₀ = B.h₀) : Sc B Z as μ s :=
  ⟨⟨S.c.z, h4 ▸ h2 ▸ S.c.g, h2 ▸ S.c.vd, fun a m => (nomatch m), S.c.len, h1 ▸ S.c.priv, fun i p q x y a m => let ⟨z, g, _⟩ := S.c.own i p q x y a m; ⟨z, h2 ▸ g, by simp⟩, S.c.sep⟩, h3 ▸ S.os, S.gens⟩
theorem lookup_mem {α β : Type} [BEq α] [LawfulBEq α] {a : α} {b : β} : ∀ {l : List (α × β)}, l.lookup a = some b → (a, b) ∈ l
  | [], h => by cases h
  | (x, y) :: l, h => by
    rw [List.lookup_cons] at h
    split at h
    · rename_i e; cases h; rw [eq_of_beq e]; exact .head _
    · exact .tail _ (lookup_mem h)
theorem kT_kF : (kT.all fun p => (kF.lookup p.1).isNone) = true := by kernel_rfl
theorem dfl_vals {ds : List D} {w : World} {dv : Value} (h : dflD dv = some ds) {hp : Heap} (X : (kAll w.params).In hp) : ∃ vs : List Value, ((dv = .none ∧ vs = []) ∨ ∃ t o n, dv = .ref t ∧ hp.get? t = some o ∧ o.data = .seq vs.toArray n) ∧ vs.length = ds.length ∧ ∀ Z : ZM, AlR (Rep w Z) vs ds := by
  have key : ∀ (l : List Value) (r : List D), l.mapM valD = some r → l.length = r.length ∧ ∀ Z : ZM, AlR (Rep w Z) l r := by
    intro l
    induction l with
    | nil => intro r h; cases h; exact ⟨rfl, fun Z => .nil⟩
    | cons v l ih =>
      intro r h
      obtain ⟨d, t, rfl, h1, h2⟩ := mapM_cons' h
      obtain ⟨i1, i2⟩ := ih t h2
      refine ⟨congrArg Nat.succ i1, fun Z => .cons ?_ (i2 Z)⟩
      cases v <;> first | exact noneE h1 | cases h1
      · exact .none
      · exact .bool _
      · exact .int _ _
  cases dv with
  | none =>
    cases h
    exact ⟨[], .inl ⟨rfl, rfl⟩, rfl, fun Z => .nil⟩
  | ref t =>
    refine Option.bind1 h fun o ho h => Option.bind1 h fun l hl h => ?_
    obtain ⟨c, d, od, sl⟩ := o
    cases od with
    | seq xs m =>
      cases Option.some.inj hl
      refine ⟨xs.toList, .inr ⟨t, ⟨c, d, .seq xs m, sl⟩, m, rfl, X t _ ?_, rfl⟩, key _ _ h⟩
      show ((kF ++ kT) ++ kC w.params).lookup t = some ⟨c, d, .seq xs m, sl⟩
      rw [look_app, look_app, show kF.lookup t = none from Option.isNone_iff_eq_none.mp (List.all_eq_true.mp kT_kF _ (lookup_mem ho))]
      dsimp only
      rw [ho]
    | _ => exact noneE hl
  | _ => exact noneE h
end
section
variable {F : Fn} {n : Nat} {B : Bx} {Z : ZM} {as : AS} {μ μ' : Mu} {s s' : Shared} {fd : FuncData} {x : Fd} {b : List Stmt} {ds : List D}
noncomputable def refV : Value → Option Addr | .ref a => some a | _ => none
theorem refV_v {x : Value} {a : Addr} (h : refV x = some a) : x = .ref a := by
  cases x <;> first | exact noneE h | exact congrArg _ (Option.some.inj h)
/-- entering a function: from the call to its body -/
theorem enter_ok {m : Nat} (K : B.Ok m) (hA : ∀ env, AOk n (B.A.deeper env)) {f : Addr} (ht : tabK f = some x) {vs : List V} {ρ : Ev} (hρ : x.args vs = some ρ) (S : Sc B Z as μ s) (hsz : B.h₀.objs.size ≤ s.heap.objs.size) {vals : List Value} (r : AlR (VRep B.w Z as) vals vs) {R : Result → Shared → Prop}
    (h : ∀ o fd b ds s', kF.lookup f = some o → o.data = .func fd → FdOk fd x b ds → St (B.fn fd s.heap f) Z as ρ μ s' → (B.fn fd s.heap f).Ok n → (∀ a o, s.heap.get? a = some o → s'.heap.get? a = some o) →
      wpAny (model pT B.w) (B.fn fd s.heap f).A (execs b (B.fn fd s.heap f).env) (fun fl s' => R (.ok (.ret (match fl with | .ret v => v | _ => .none))) s')
        (fun e s' => wpAny (model pT B.w) (B.fn fd s.heap f).A (leaving (B.fn fd s.heap f).env e) (fun _ s'' => R (.error e) s'') (fun e' s'' => R (.error e') s'') s') s') :
    codeAny (model pT B.w) B.A (.call (.ref f) ⟨vals, []⟩) R s := by
  obtain ⟨o, fd, h1, h2, h3⟩ := tabK_ok ht
  obtain ⟨b, ds, O⟩ := fdOf_ok h3
  have G : Gnd B.w B.mg B.mb s.heap := K.gnd.keeps fun b o e => (S.c.g b o (K.base b o e)).low (Heap.lt_size e)
  have ho : s.heap.get? f = some o := G.sys.inK f o (by
    have : ((kF ++ kT) ++ kC B.w.params).lookup f = some o := by rw [look_app, look_app, h1]
    exact this)
  have hcd : s.heap.CodeRec fd.code fd.qualname := by
    have hc : ∃ c, fd.code = .ref c := by
      have all : (kF.all fun p => ((funD p.2.data).bind fun fd => refV fd.code).isSome) = true := by kernel_rfl
      have := List.all_eq_true.mp all _ (lookup_mem h1)
      rw [h2] at this
      exact someE this fun c hc => ⟨c, refV_v hc⟩
    obtain ⟨c, hc⟩ := hc
    rw [hc]
    exact G.sys.codes _ (lookup_mem h1) fd c h2 hc
  have hx := O.x
  subst hx
  unfold Fd.args at hρ
  split at hρ
  · rename_i hc
    cases hρ
    dsimp only at hc
    obtain ⟨l1, l2⟩ := hc
    obtain ⟨dv, hdv, hdl, hdr⟩ := dfl_vals (w := B.w) O.dfl G.sys.inK
    have hlen : vals.length = vs.length := r.1
    have rw' : AlR (VRep B.w Z as) (vals ++ dv.drop (dv.length - ((fd.params.args.map (·.arg)).length - vals.length))) (vs ++ (ds.drop (ds.length - (fd.params.args.length - vs.length))).map V.c) := by
      refine r.append ?_
      have := (hdr Z).drop (dv.length - ((fd.params.args.map (·.arg)).length - vals.length))
      rw [List.length_map, hlen, hdl] at this ⊢
      exact AlR.map_right this
    have hwl : (vs ++ (ds.drop (ds.length - (fd.params.args.length - vs.length))).map V.c).length = fd.params.args.length := by
      simp; lia
    refine codeAny_call_function (by have := K.ao.depth; exact (by lia : B.A.depth < recursionLimit)) ho h2 O.co O.gen O.body hcd ?_
    refine bind_gen O.h1 O.h2 O.h3 O.h4 rfl O.pnd hdv (by rw [List.length_map]; lia) (by rw [List.length_map]; lia) (by rw [List.length_map, hdl]; exact O.dl) ?_
    rw [O.clo]
    refine wpAny_newFunctionEnv_cells O.kind (fun y hy => ?_) fun env he s' X => ?_
    · have hm := (List.of_mem_zip (show (y.1, y.2) ∈ _ from hy)).1
      obtain ⟨i, hi⟩ := List.mem_iff_getElem?.mp hm
      have := O.pre i _ hi
      rw [List.getElem?_map] at this
      obtain ⟨p, hp, hpy⟩ := Option.map_eq_some_iff.mp this
      obtain ⟨y', k⟩ := p
      cases hpy
      obtain ⟨m1, m2, _⟩ := ownL_mem.mp (List.mem_of_getElem? hp)
      rw [kOf_lookup, kOf_of_mem O.nd m1]
      rcases m2 with rfl | rfl
      · exact .inl rfl
      · obtain ⟨c, hc⟩ := cellsFrom_has fd.scope.names (s.heap.objs.size + 1) m1
        exact .inr ⟨rfl, by rw [hc]; rfl⟩
    · subst he
      have S' := fn_in O S (a := f) rw' hwl rfl X
      obtain ⟨h', tk, rfl, kk⟩ := X.done
      refine ⟨(S'.gnd (fn_cx O K hA hsz f)).nolimit, codeAny_func ?_⟩
      exact h o fd b ds _ h1 h2 O S' (fn_cx O K hA hsz f) kk
  · cases hρ
theorem soundC_step (SS : SoundS F n) : SoundC (stepF tabK F) (n + 1) := by
  intro f vs μ v μ' he B K Z as s vals S hsz r R P
  change (match tabK f with | some fd => callF F fd vs μ | none => .no) = _ at he
  generalize hx : tabK f = o at he
  rcases o with _ | x
  · exact noR he
  · change callF F x vs μ = _ at he
    unfold callF at he
    generalize hρ : x.args vs = o at he
    rcases o with _ | ρ
    · exact noR he
    · refine Res.bind1 he fun ⟨fl, ρ', μ₁⟩ e1 e2 => ?_
      refine enter_ok K (deeper_ok K.ao) hx hρ S hsz r fun _ fd b ds s' _ _ O S' K' kk => ?_
      have hb : x.body = b.map (compS 60 (B.fn fd s.heap f).vis (B.fn fd s.heap f).sc) := by rw [O.x]; rfl
      rw [hb] at e1
      refine execs_ok (C := B.fn fd s.heap f) SS K' fn_fc b ρ μ e1 Z as s' _ _ S' fun Z₁ as₁ s₁ l₁ p₁ S₁ => ?_
      have X := fn_out S₁ (B := B) rfl rfl rfl rfl
      rcases fl with _ | u
      · cases e2; exact P Z₁ as₁ s₁ .none l₁ p₁ X Rep.none
      · cases e2; exact fun y ry => P Z₁ as₁ s₁ y l₁ p₁ X ry
end
noncomputable abbrev excA : Addr := 51
noncomputable abbrev excObj (t : Addr) : Obj := { cls := .ref excA, data := .fields #[.ref t, .none, .none, .none, .bool false, .none] }
noncomputable abbrev bmE : List Value := [.type "Exception", .type "BaseException", .type "object"]
noncomputable abbrev refT : Str := ⟨#[82,101,102,117,115,97,108]⟩
noncomputable abbrev excCls : Obj := excClassObj refT refT 51 50 [.ref 31] (.ref 31 :: bmE) true [] [] false none none (some (.ref 35)) none (some (.str refT 216)) (some (.str refT 224)) (some (.bool true)) "Exception.__new__"
theorem exc_cls (P : Params) : (kAll P).lookup excA = some excCls := by kernel_rfl
theorem exc_tail {w : World} {h : Heap} (X : (kAll w.params).In h) : OwnTail h bmE (.ref 31 :: bmE) := tail_of_in X (by kernel_rfl)
theorem exc_init (P : Params) : findIn (kAll P) (.ref excA) "__init__" = some (some (.ref 48)) ∧ isFn (kAll P) (.ref 48) = true ∧ typeIn (kAll P) (.ref 48) = some (.type "function") := ⟨by kernel_rfl, by kernel_rfl, by kernel_rfl⟩
section
variable {w : World} {A : Around} {R : Result → Shared → Prop} {h : Heap} {g : Array GenState} {d : Drawn} {t : Nat} {os : OsState}
theorem exc_make (X : (kAll w.params).In h) {msg : Value}
    (hq : codeAny (model pT w) (A.under (.builtin "type.__call__" ⟨[.ref excA, msg], []⟩)) (.call (.ref 48) ⟨[.ref (h.objs.size + 1), msg], []⟩) (InitBack (h.objs.size + 1) R)
      ⟨(h.push { cls := .type "tuple", data := .seq [msg].toArray }).push (excObj h.objs.size), g, d, t, os⟩) :
    codeAny (model pT w) A (.call (.ref excA) ⟨[msg], []⟩) R ⟨h, g, d, t, os⟩ := by
  have hC : h.get? excA = some excCls := X _ _ (exc_cls w.params)
  have T := exc_tail X
  have Fb := PySem.F.excBase_Exception
  have f1 := tc_lookup
  have f2 := tc_bind (.ref excA)
  have hT : (⟨h, g, d, t, os⟩ : Shared).TypeIs (.ref excA) "type" := ⟨_, hC, rfl⟩
  refine codeAny_of_tree ?_
  show wpAny _ _ (callAny (.ref excA) _) _ _ _
  repeat (any_goals (first | assumption | with_reducible refine wpAny_loadPart_at hC ?_ | wp_step))
  refine ⟨rfl, ?_⟩
  refine codeAny_call_builtin_at (Code.quiet_builtin _ (by decide +kernel)) entry_typeCall (wpAny_check_type_call_sub hC ?_)
  repeat (first | with_reducible refine wpAny_loadPart_at hC ?_ | with_reducible refine wpAny_madeBy_exc hC ?_ | wp_step)
  refine codeAny_call_builtin_code (Code.quiet_builtin _ Fb.quiet) (wpAny_check_new_subT Fb T hC ?_)
  refine codeAny_exc_new_subT Fb T hC ?_ (Nat.le_trans (by decide : 1 ≤ 1000000) sizeLine_big)
  show wpAny _ _ _ _ _ _
  have k : ∀ b o, h.get? b = some o → ((h.push { cls := .type "tuple", data := .seq [msg].toArray }).push (excObj h.objs.size)).get? b = some o := fun b o e => Heap.get?_push_of_some _ (Heap.get?_push_of_some _ e)
  have hC₁ := k _ _ hC
  have hget : ((h.push { cls := .type "tuple", data := .seq [msg].toArray }).push (excObj h.objs.size)).get? (h.objs.size + 1) = some { cls := .ref excA, data := .fields #[.ref h.objs.size, .none, .none, .none, .bool false, .none] } := by heap_get
  have hcC : (Value.ref excA :: (.ref 31 :: bmE)).contains (.ref excA) = true := by simp
  have X₁ : (kAll w.params).In ((h.push { cls := .type "tuple", data := .seq [msg].toArray }).push (excObj h.objs.size)) := X.keeps k
  have i1 := looks_findIn (M := model pT w) X₁ (exc_init w.params).1
  have b1 := bind_fn (M := model pT w) X₁ (.ref (h.objs.size + 1)) (exc_init w.params).2.2
  unfold isInstance
  repeat (first | with_reducible refine wpAny_loadPart_at hget ?_ | wp_step)
  show wpAny _ _ (isSubtype (.ref excA) (.ref excA)) _ _ _
  refine wpAny_isSubtype_exc hC₁ ?_
  rw [hcC]
  repeat (first | with_reducible refine wpAny_loadPart_at hget ?_ | wp_step)
  show wpAny _ _ (typeLookup (.ref excA) _) _ _ _
  refine i1.at ?_
  refine wpAny_holding (wpAny_bind (b1.at ?_))
  refine wpAny_bind (wpAny_call (codeAny_mono hq fun r s' z => ?_))
  rcases r with e | (v | _ | _ | _) <;> first | exact z | exact z.elim | skip
  obtain ⟨rfl, z⟩ := z
  exact wpAny_pure (wpAny_pure z)
end
section
open Builtin Builtin.ObjectAttr
noncomputable abbrev msgN : Str := sT At.message.name
noncomputable def cdE : ClassData := match excCls.data with | .cls c => c | _ => { name := refT, bases := [], mro := [], ns := 0, qualname := refT, hasDict := true, slotNames := [], subclasses := [], abstract := false, collection := none, hasDel := false }
theorem exc_facts (P : Params) : clsIn (kAll P) excA = some cdE ∧ mroIn (kAll P) excA (.type "object") = some true ∧ findIn (kAll P) (.ref excA) "__setattr__" = some (some (.builtin "object.__setattr__")) ∧ findIn (kAll P) (.ref excA) msgN = some none :=
  ⟨by kernel_rfl, by kernel_rfl, by kernel_rfl, by kernel_rfl⟩
section
variable {w : World} {A : Around} {E : Value → Shared → Prop} {s : Shared} {x t : Addr}
theorem exc_set {v : Value} (X : (kAll w.params).In s.heap) (hx : s.heap.get? x = some (excObj t)) {Q : Unit → Shared → Prop}
    (hQ : ∀ h' tk hh, (∀ b o, b ≠ x → s.heap.get? b = some o → h'.get? b = some o) → h'.get? x = some { excObj t with dict := some s.heap.objs.size } → h'.get? s.heap.objs.size = some (dictOf [⟨hh, .str msgN tk, v⟩] 1) → Q () { s with heap := h', toks := s.toks + 2 }) :
    wpAny (model pT w) A (setAttr (.ref x) msgN v) Q E s := by
  obtain ⟨hc, hm, hs, ha⟩ := exc_facts w.params
  have I : PySem.W.InstAt s.heap x (excObj t) excA none := ⟨hx, rfl, rfl, trivial⟩
  have SF := PySem.F.store_object
  refine set_plain X I hs ?_
  have sub : Looks (model pT w) s.heap (isInstance (.ref x) (.type "object")) true := I.type.andThen (looks_mroIn X hm)
  refine codeAny_call_builtin SF.slot.plain SF.entry (@check_slot (model pT w) _ _ { s with toks := s.toks + 1 } "object.__setattr__" "object" "__setattr__" (.ref x) [.str msgN s.toks, v] [] _ SF.kind SF.split sub (SF.args (.ref x) (.str msgN s.toks) v) ?_)
  have hmr : Looks (model pT w) s.heap (mroOf (.ref excA)) cdE.mro := (looks_clsIn X hc).andThen .now
  have L3 : Looks (model pT w) s.heap (storeTaker? none) none := .now
  rw [osa_eq, refuse_eq]
  refine wpAny_bind (wpAny_bind (I.type.here (s := { s with toks := s.toks + 1 }) (wpAny_bind (hmr.here (s := { s with toks := s.toks + 1 }) ?_))))
  have hp : refuseLoop (.ref x) "__setattr__" cdE.mro = pure () := by
    show refuseLoop (.ref x) "__setattr__" (.ref excA :: .ref 31 :: bmE) = pure ()
    rw [refuseLoop_ref, refuseLoop_ref]
    exact PySem.F.store_Exception.passes _
  rw [hp]
  refine wpAny_pure (wpAny_bind (I.type.here (s := { s with toks := s.toks + 1 }) (wpAny_bind ((looks_findIn X ha).here (s := { s with toks := s.toks + 1 }) (wpAny_bind (L3.here (s := { s with toks := s.toks + 1 }) ?_))))))
  show wpAny _ _ (storeInOwnDict (.ref x) (.ref excA) (.str msgN s.toks) msgN v _) _ _ _
  refine wpAny_bind (wpAny_pure (wpAny_bind (wpAny_bind (wpAny_loadPart hx (wpAny_bind ((looks_clsIn X hc).here (s := { s with toks := s.toks + 1 }) ?_))))))
  show wpAny _ _ (alloc { cls := .type "dict", data := .dict #[] } >>= fun d => update x (fun o => { cls := o.cls, dict := some d, data := o.data, slots := o.slots }) >>= fun _ => pure (some d)) _ _ _
  have hxs : x ≠ s.heap.objs.size := Nat.ne_of_lt (Heap.lt_size hx)
  have hx₁ : (s.heap.push { cls := .type "dict", data := .dict #[] }).get? x = some (excObj t) := Heap.get?_push_of_some _ hx
  have hx₂ := Heap.get?_update_self (fun o : Obj => ({ cls := o.cls, dict := some s.heap.objs.size, data := o.data, slots := o.slots } : Obj)) hx₁ rfl
  have hd₂ : ((s.heap.push { cls := .type "dict", data := .dict #[] }).update x fun o => { cls := o.cls, dict := some s.heap.objs.size, data := o.data, slots := o.slots }).get? s.heap.objs.size = some { cls := .type "dict", data := .dict #[] } :=
    (Heap.get?_update_ne _ _ _ _ hxs.symm).trans (Heap.get?_push_at rfl rfl)
  refine wpAny_bind (wpAny_alloc (wpAny_bind (wpAny_update hx₁ (wpAny_pure ?_))))
  show wpAny _ _ (storeInDict s.heap.objs.size (.str msgN s.toks) msgN v) _ _ _
  unfold storeInDict newKeyGuard
  refine wpAny_bind (wpAny_pure (wpAny_bind ?_))
  unfold nsSet
  refine wpAny_bind (wpAny_bind (wpAny_askSetting (wpAny_pure (wpAny_bind (wpAny_mkText (wpAny_bind (wpAny_loadPart hd₂ ?_)))))))
  dsimp only
  have c : ((!(#[] : Array DictEntry).any (·.key.isStr msgN)) && (#[] : Array DictEntry).any (·.refKey)) = false := by simp
  rw [aRefKeyMayBeTheName_at, c]
  refine wpAny_updatePart hd₂ ?_
  have e3 : ∀ hh tk, Obj.putName msgN hh (.str msgN tk) v { cls := .type "dict", data := .dict #[] } = dictOf [⟨hh, .str msgN tk, v⟩] 1 := fun hh tk => by
    have := putName_dict msgN hh (.str msgN tk) v [] 0
    exact this
  have hd₃ := Heap.get?_update_self (Obj.putName msgN (PyData.keyHash w.params msgN) (.str msgN (s.toks + 1)) v) hd₂ (by rw [e3]; rfl)
  rw [e3] at hd₃
  refine wpAny_bind (wpAny_lookBehind hd₃ (pastItsLine_dict (by rw [sizeLine_eq]; simp)) ?_)
  refine wpAny_pure (hQ _ (s.toks + 1) (PyData.keyHash w.params msgN) (fun b o ne e => ?_) ?_ hd₃)
  · rw [Heap.get?_update_ne _ _ _ _ (Nat.ne_of_lt (Heap.lt_size e)), Heap.get?_update_ne _ _ _ _ ne]
    exact Heap.get?_push_of_some _ e
  · rw [Heap.get?_update_ne _ _ _ _ hxs]
    exact hx₂
end
end
section
open Builtin Builtin.ObjectAttr
theorem exc_facts2 (P : Params) : mroIn (kAll P) excA (.type "BaseException") = some true ∧ findIn (kAll P) (.ref excA) "__getattribute__" = some (some (.builtin "BaseException.__getattribute__")) ∧ findIn (kAll P) (.ref excA) "__getattr__" = some none ∧ hasDictIn (kAll P) excA = true :=
  ⟨by kernel_rfl, by kernel_rfl, by kernel_rfl, by kernel_rfl⟩
section
variable {w : World} {A : Around} {E : Value → Shared → Prop} {s : Shared} {x : Addr}
theorem exc_get {ox : Obj} {m : T} {tk u : Tok} {hh : Int} (X : (kAll w.params).In s.heap) (I : PySem.W.InstAt s.heap x ox excA (some (dictOf [⟨hh, .str msgN tk, .str (sT m) u⟩] 1))) {ex : Bool} {Q : Value → Shared → Prop}
    (hQ : Q (.str (sT m) u) { s with toks := s.toks + 1 }) : wpAny (model pT w) A (getAttr (.ref x) msgN ex) Q E s := by
  obtain ⟨hc, hm, hs, ha⟩ := exc_facts w.params
  obtain ⟨g1, g2, g3, g4⟩ := exc_facts2 w.params
  have hf : findObj (kAll w.params) excA (some (dictOf [⟨hh, .str msgN tk, .str (sT m) u⟩] 1)) msgN = some (.value (.str (sT m) u)) := findObj_own (attr := none) g4 ha (by kernel_rfl) (by rfl)
  have L0 := looks_find (M := model pT w) X I hf
  have FB := PySem.F.attrBase_Exception
  have f3 := FB.ga.bind (.ref x)
  have hx0 : (ex && onTheHeap (Value.builtin "BaseException.__getattribute__")) = false := by cases ex <;> rfl
  have hx2 : (Value.builtin "BaseException.__getattribute__" == Value.builtin "object.__getattribute__") = false := by decide +kernel
  have hx1 : (onTheHeap (Value.ref excA) && Value.builtin "BaseException.__getattribute__" == Value.builtin "object.__getattribute__") = false := by rw [hx2]; rfl
  have L1 := looks_findIn (M := model pT w) X g2
  have L2 := looks_findIn (M := model pT w) X g3
  have LT := I.type (M := model pT w)
  obtain ⟨h, g, d, t, os⟩ := s
  dsimp only at *
  unfold getAttr
  repeat (any_goals (first | assumption | with_reducible refine Looks.at LT ?_ | with_reducible refine Looks.at L1 ?_ | with_reducible refine Looks.at L2 ?_ | wp_step))
  have hk : builtinKind "BaseException.__getattribute__" = some .slot := by decide +kernel
  have hsplit : splitId "BaseException.__getattribute__" = some ("BaseException", "__getattribute__") := by decide +kernel
  have sub : Looks (model pT w) h (isInstance (.ref x) (.type "BaseException")) true := I.type.andThen (looks_mroIn X g1)
  refine codeAny_call_builtin FB.ga.plain PySem.F.entry_bexc_ga (@check_slot (model pT w) _ _ ⟨h, g, d, t + 1, os⟩ "BaseException.__getattribute__" "BaseException" "__getattribute__" (.ref x) [.str msgN t] [] _ hk hsplit sub (PySem.F.args_bexc_ga (.ref x) (.str msgN t)) ?_)
  show wpAny _ _ (Builtin.«object.__getattribute__» ⟨[.ref x, .str msgN t], []⟩) _ _ _
  unfold Builtin.«object.__getattribute__»
  repeat (any_goals (first | assumption | with_reducible refine Looks.at LT ?_ | with_reducible refine Looks.at L0 ?_ | wp_step))
end
end
inductive Flt where
  | new | at (f : Value)
noncomputable def Cx.fs (C : Cx) : List Addr := C.Fs.filterMap (·.frame)
section
variable {n : Nat} {C : Cx} {Z Z' : ZM} {as as' : AS} {ρ ρ' : Ev} {μ μ' : Mu} {s s' : Shared} {E : Value → Shared → Prop}
theorem fs_at (K : C.Ok n) {b : Addr} (h : b ∈ C.fs) : C.h₀.get? b = none ∧ (b = C.L.fr ∨ ∃ o, C.G b = some o ∧ (∀ vs, o.data ≠ .fields vs) ∧ o.slots = MARK ∧ C.h₀.objs.size ≤ b) := by
  obtain ⟨env, h1, h2⟩ := List.mem_filterMap.mp h
  obtain ⟨_, L, h3, h4, h5⟩ := K.fok env h1
  rw [h2] at h3; cases h3
  exact ⟨h4, h5⟩
theorem fs_frames (S : St C Z as ρ μ s) (K : C.Ok n) : s.heap.FunFrames C.h₀ C.Fs := by
  have key : ∀ l : List Env, (∀ e ∈ l, e ∈ C.Fs) → s.heap.FunFrames C.h₀ l := by
    intro l
    induction l with
    | nil => intro _; trivial
    | cons env l ih =>
      intro h
      obtain ⟨k, L, h1, h2, h3⟩ := K.fok env (h _ (.head _))
      refine ⟨k, ?_, ih fun e m => h e (.tail _ m)⟩
      rcases h3 with rfl | ⟨o, g, nf, _⟩
      · obtain ⟨m, ⟨o, es, ep, ho, hd, _⟩, _⟩ := S.l.ns
        exact ⟨_, o, h1, h2, ho, fun vs q => by rw [hd] at q; cases q⟩
      · obtain ⟨sl, e⟩ := (S.c.g _ _ g).to
        exact ⟨_, _, h1, h2, e, nf⟩
  exact key C.Fs fun _ m => m
/-- places that nothing speaks of and the frames' slots may change -/
theorem St.fly (S : St C Z as ρ μ s) (K : C.Ok n) {X : List Addr} (fr : ∀ x ∈ X, Fresh Z C.G (C.L.fr :: C.L.cs) as μ x) {h' : Heap} {tk : Nat}
    (k : ∀ b o, b ∉ X → s.heap.get? b = some o → (b ∉ C.fs → h'.get? b = some o) ∧ ∃ sl, h'.get? b = some { o with slots := sl }) : St C Z as ρ μ { s with heap := h', toks := tk } := by
  have notX : ∀ {b : Addr}, (¬ Fresh Z C.G (C.L.fr :: C.L.cs) as μ b) → b ∉ X := fun {b} h m => h (fr b m)
  have nf : ∀ {b : Addr}, C.G b = none → b ∉ C.L.fr :: C.L.cs → b ∉ C.fs := fun {b} h1 h2 m => by
    obtain ⟨_, q | ⟨o, g, _⟩⟩ := fs_at K m
    · exact h2 (q ▸ .head _)
    · rw [h1] at g; cases g
  refine ⟨⟨fun a f e => (S.c.z a f e).keep fun o y => ?_, fun a o e => ?_, S.c.vd, fun a m => ?_, S.c.len, fun i p q x y => (S.c.priv i p q x y).keep (.refl _) (List.prefix_refl _) fun a m o e => ?_, S.c.own, S.c.sep⟩, S.l.monoS (.refl _) (List.prefix_refl _) fun b m o e => ?_, S.os, S.gens⟩
  · exact (k a o (notX fun q => by rw [q.1] at e; cases e) y).1 (nf (S.c.vd _ _ e) fun m => by rw [(S.c.exA a m).2.1] at e; cases e)
  · rcases S.c.g a o e with h | ⟨h1, h2, sl, h3⟩
    · have kk := k a o (notX fun q => by rw [q.2.1] at e; cases e) h
      by_cases m : a ∈ C.fs
      · obtain ⟨_, q | ⟨o', g, _, hm, hN⟩⟩ := fs_at K m
        · have := S.c.exA a (q ▸ .head _); rw [this.2.2] at e; cases e
        · rw [e] at g; cases g
          exact .inr ⟨hN, hm, kk.2⟩
      · exact .inl (kk.1 m)
    · obtain ⟨sl', kk⟩ := (k a _ (notX fun q => by rw [q.2.1] at e; cases e) h3).2
      exact .inr ⟨h1, h2, sl', kk⟩
  · obtain ⟨⟨o, e⟩, y⟩ := S.c.exA a m
    obtain ⟨sl, kk⟩ := (k a o (notX fun q => q.2.2.1 m) e).2
    exact ⟨⟨_, kk⟩, y⟩
  · have ow := S.c.own i p q x y a m
    exact (k a o (notX fun q' => q'.2.2.2 i p q x y m) e).1 (nf ow.2.1 ow.2.2)
  · refine (k b o (notX fun q => ?_) e).2
    rcases m with rfl | m | ⟨i, m⟩
    · exact q.2.2.1 (.head _)
    · exact q.2.2.1 (.tail _ m)
    · rcases K.lay.cel i b m with m | ⟨o', g⟩
      · exact q.2.2.1 (.tail _ m)
      · rw [q.2.1] at g; cases g
/-- a raised exception: what it says, and where its traceback is -/
inductive FlyAt (G : GM) (ex : List Addr) (Z : ZM) (as : AS) (μ : Mu) (h : Heap) (e dm : Addr) (vs : Array Value) (f : Value) : Prop
  | mk (T : Addr) (oT : Obj) (ts : Array Value) (h1 : vs[1]? = some (.ref T)) (fT : Fresh Z G ex as μ T) (hTe : T ≠ e) (hTd : T ≠ dm) (hT : h.get? T = some oT) (hdT : oT.data = .fields ts) (h3 : ts[3]? = some f) : FlyAt G ex Z as μ h e dm vs f
inductive Fly (G : GM) (ex : List Addr) (Z : ZM) (as : AS) (μ : Mu) (h : Heap) (e : Addr) (m : T) (fl : Flt) : Prop
  | mk (dm : Addr) (oe : Obj) (vs : Array Value) (hh : Int) (tk u : Tok) (fe : Fresh Z G ex as μ e) (fd : Fresh Z G ex as μ dm) (nde : dm ≠ e) (hdm : h.get? dm = some (dictOf [⟨hh, .str msgN tk, .str (sT m) u⟩] 1)) (he : h.get? e = some oe) (hc : oe.cls = .ref excA) (hdi : oe.dict = some dm) (hd : oe.data = .fields vs) (hsz : 1 < vs.size)
    (hr : match fl with | .new => vs[1]? = some .none | .at f => FlyAt G ex Z as μ h e dm vs f) : Fly G ex Z as μ h e m fl
theorem Fly.move {G G' : GM} {ex ex' : List Addr} {Z Z' : ZM} {as as' : AS} {μ μ' : Mu} {h : Heap} {e : Addr} {m : T} {fl : Flt} (f : Fly G ex Z as μ h e m fl) (k : ∀ x, Fresh Z G ex as μ x → (∃ o, h.get? x = some o) → Fresh Z' G' ex' as' μ' x) : Fly G' ex' Z' as' μ' h e m fl := by
  obtain ⟨dm, oe, vs, hh, tk, u, fe, fd, nde, hdm, he, hc, hdi, hd, hsz, hr⟩ := f
  refine ⟨dm, oe, vs, hh, tk, u, k _ fe ⟨_, he⟩, k _ fd ⟨_, hdm⟩, nde, hdm, he, hc, hdi, hd, hsz, ?_⟩
  cases fl with
  | new => exact hr
  | «at» f =>
    obtain ⟨T, oT, ts, h1, fT, hTe, hTd, hT, hdT, h3⟩ := hr
    exact ⟨T, oT, ts, h1, k _ fT ⟨_, hT⟩, hTe, hTd, hT, hdT, h3⟩
theorem nofs (K : C.Ok n) {b : Addr} (f : Fresh Z C.G (C.L.fr :: C.L.cs) as μ b) : b ∉ C.fs := fun m => by
  obtain ⟨_, q | ⟨o, g, _⟩⟩ := fs_at K m
  · exact f.2.2.1 (q ▸ .head _)
  · rw [f.2.1] at g; cases g
/-- the new entry -/
theorem entry_ok (S : St C Z as ρ μ s) (K : C.Ok n) {env : Env} {outer : List Env} {L e : Addr} {oe : Obj} {vs : Array Value} (hFs : C.Fs = env :: outer) (hf : env.frame = some L) (fe : Fresh Z C.G (C.L.fr :: C.L.cs) as μ e) (he : s.heap.get? e = some oe) (hd : oe.data = .fields vs) (hsz : 1 < vs.size) {head : Value} {hadNext : Bool} {Q : Unit → Shared → Prop}
    (hQ : ∀ h' T oT ts, St C Z as ρ μ { s with heap := h' } → (∀ b o, b ≠ e → b ∉ C.fs → s.heap.get? b = some o → h'.get? b = some o) → h'.get? e = some (Obj.mapFields (·.setIfInBounds 1 (.ref T)) oe) → s.heap.get? T = none → h'.get? T = some oT → oT.data = .fields ts → ts[3]? = some (rawInt L) → Q () { s with heap := h' }) :
    wpAny (model pT C.w) C.A (do let a ← frameOf env; let pl ← entryPlaceOf L hadNext; let b ← EntryCells.newEntry head a .none (rawInt L) .none pl; setField (.ref e) 1 b) Q E s := by
  have hfr : C.A.frames = some (env :: outer) := K.frs.trans (by rw [hFs])
  have FF := fs_frames S K
  rw [hFs] at FF
  have hS : (env :: outer).filterMap (·.frame) = C.fs := by unfold Cx.fs; rw [hFs]
  refine wpAny_bind (wpAny_frameOf_fun hfr FF hf fun h₁ hs₁ => ?_)
  rw [hS] at hs₁
  refine wpAny_bind (wpAny_entryPlaceOf fun pl hpl => ?_)
  unfold EntryCells.newEntry newFields
  refine wpAny_bind (wpAny_newObj_type ?_ (hpl.sizeOk5 _ _ _ _ _))
  have he₁ : h₁.get? e = some oe := (hs₁.2.1 e (nofs K fe)).trans he
  have he₂ := Heap.get?_push_of_some (h := h₁) { cls := .type "traceback", dict := none, data := .fields ([head, .ref L, .none, rawInt L, .none] ++ (if pl.isEmpty then List.replicate 6 Value.none else pl)).toArray } he₁
  refine wpAny_setField he₂ hd hsz ?_
  have hTe : h₁.objs.size ≠ e := Nat.ne_of_gt (Heap.lt_size he₁)
  have hd₃ := Obj.data_mapFields hd (·.setIfInBounds 1 (Value.ref h₁.objs.size))
  have he₃ := Heap.get?_update_self (Obj.mapFields (·.setIfInBounds 1 (Value.ref h₁.objs.size))) he₂ (Obj.isFreed_of_fields hd₃)
  have hT₃ := (Heap.get?_update_other (h₁.push { cls := .type "traceback", dict := none, data := .fields ([head, .ref L, .none, rawInt L, .none] ++ (if pl.isEmpty then List.replicate 6 Value.none else pl)).toArray })
    (Obj.mapFields (·.setIfInBounds 1 (Value.ref h₁.objs.size))) (Ne.symm hTe)).trans (Heap.get?_push_size h₁ rfl)
  have keep : ∀ b o, b ≠ e → h₁.get? b = some o → ((h₁.push { cls := .type "traceback", dict := none, data := .fields ([head, .ref L, .none, rawInt L, .none] ++ (if pl.isEmpty then List.replicate 6 Value.none else pl)).toArray }).update e (Obj.mapFields (·.setIfInBounds 1 (Value.ref h₁.objs.size)))).get? b = some o :=
    fun b o hbe hb => by
      rw [Heap.get?_update_other _ _ (Ne.symm hbe)]
      exact Heap.get?_push_of_some _ hb
  refine hQ _ h₁.objs.size _ _ ?_ (fun b o ne nf hb => keep b o ne ((hs₁.2.1 b nf).trans hb)) he₃ ?_ hT₃ rfl (by rcases hpl with rfl | ⟨_, _, _, _, _, _, _, rfl⟩ <;> simp)
  · refine S.fly K (X := [e]) (tk := s.toks) (fun x m => by cases List.mem_singleton.mp m; exact fe) fun b o hb e' => ⟨fun nf => keep b o (by simpa using hb) ((hs₁.2.1 b nf).trans e'), ?_⟩
    obtain ⟨sl, e''⟩ := hs₁.2.2 b o e'
    exact ⟨sl, keep b _ (by simpa using hb) e''⟩
  · rw [hs₁.1]; exact no_at_size _
theorem no_fresh (S : St C Z as ρ μ s) {T : Addr} (h : s.heap.get? T = none) : Fresh Z C.G (C.L.fr :: C.L.cs) as μ T := S.c.fresh h
theorem mapf_dict (o : Obj) (f) : (Obj.mapFields f o).dict = o.dict := by obtain ⟨a, b, c, d⟩ := o; cases c <;> rfl
/-- the frame is noted in the traceback -/
theorem note_ok (S : St C Z as ρ μ s) (K : C.Ok n) {env : Env} {outer : List Env} {L e : Addr} {m : T} {fl : Flt} (f : Fly C.G (C.L.fr :: C.L.cs) Z as μ s.heap e m fl) (hfl : fl = .new ∨ fl = .at .none) (hFs : C.Fs = env :: outer) (hf : env.frame = some L) {Q : Unit → Shared → Prop}
    (hQ : ∀ h', St C Z as ρ μ { s with heap := h' } → Fly C.G (C.L.fr :: C.L.cs) Z as μ h' e m (.at (rawInt L)) → Q () { s with heap := h' }) : wpAny (model pT C.w) C.A (noteFrame (.ref e) env) Q E s := by
  obtain ⟨dm, oe, vs, hh, tk, u, fe, fd, nde, hdm, he, hc, hdi, hd, hsz, hr⟩ := f
  have fin : ∀ (s₁ : Shared) (head : Value) (hn : Bool), s₁ = { s with heap := s₁.heap } → St C Z as ρ μ s₁ → s₁.heap.get? e = some oe → s₁.heap.get? dm = some (dictOf [⟨hh, .str msgN tk, .str (sT m) u⟩] 1) →
      wpAny (model pT C.w) C.A (do let a ← frameOf env; let pl ← entryPlaceOf L hn; let b ← EntryCells.newEntry head a .none (rawInt L) .none pl; setField (.ref e) 1 b) Q E s₁ := by
    intro s₁ head hn hs S₁ he₁ hdm₁
    refine entry_ok S₁ K hFs hf fe he₁ hd hsz fun h' T oT ts S' kk he' hT hT' hdT h3 => ?_
    have hx : ({ s₁ with heap := h' } : Shared) = { s with heap := h' } := by rw [hs]
    rw [hx] at S' ⊢
    have fT := no_fresh S₁ hT
    refine hQ h' S' ⟨dm, _, _, hh, tk, u, fe, fd, nde, kk _ _ nde (nofs K fd) hdm₁, he', (Obj.cls_mapFields _ _).trans hc, (mapf_dict _ _).trans hdi, Obj.data_mapFields hd _, by simpa using hsz, T, oT, ts, by simp [hsz], fT, ?_, ?_, hT', hdT, h3⟩
    · rintro rfl; rw [he₁] at hT; cases hT
    · rintro rfl; rw [hdm₁] at hT; cases hT
  unfold noteFrame
  simp only [hf]
  rcases hfl with rfl | rfl
  · refine wpAny_bind (wpAny_field he hd hr ?_)
    rw [if_neg (by decide)]
    exact fin s .none _ rfl S he hdm
  · obtain ⟨T, oT, ts, h1, fT, hTe, hTd, hT, hdT, h3⟩ := hr
    refine wpAny_bind (wpAny_field he hd h1 ?_)
    rw [if_pos (show (Value.ref T != Value.none) = true from by simp)]
    refine wpAny_bind (wpAny_field hT hdT h3 ?_)
    rw [if_neg (show ¬ ((Value.none == rawInt L) = true) from by simp [rawInt])]
    refine wpAny_bind (wpAny_setField hT hdT (Array.getElem?_eq_some_iff.mp h3).1 ?_)
    refine fin { s with heap := s.heap.update T (Obj.mapFields (·.setIfInBounds 3 Value.none)) } (.ref T) _ rfl ?_ ((Heap.get?_update_other _ _ hTe).trans he) ((Heap.get?_update_other _ _ hTd).trans hdm)
    exact S.fly K (X := [T]) (tk := s.toks) (fun x m => by cases List.mem_singleton.mp m; exact fT) fun b o hb e' => by
      have : (s.heap.update T (Obj.mapFields (·.setIfInBounds 3 Value.none))).get? b = some o := (Heap.get?_update_other _ _ (fun q => hb (by simp [q]))).trans e'
      exact ⟨fun _ => this, o.slots, this⟩
theorem again_ok {env : Env} {L e : Addr} {m : T} (f : Fly C.G (C.L.fr :: C.L.cs) Z as μ s.heap e m (.at (rawInt L))) (hf : env.frame = some L) {Q : Unit → Shared → Prop} (hQ : Q () s) {A : Around} : wpAny (model pT C.w) A (noteFrame (.ref e) env) Q E s := by
  obtain ⟨dm, oe, vs, hh, tk, u, fe, fd, nde, hdm, he, hc, hdi, hd, hsz, ⟨T, oT, ts, h1, fT, hTe, hTd, hT, hdT, h3⟩⟩ := f
  unfold noteFrame
  simp only [hf]
  refine wpAny_bind (wpAny_field he hd h1 ?_)
  rw [if_pos (show (Value.ref T != Value.none) = true from by simp)]
  refine wpAny_bind (wpAny_field hT hdT h3 ?_)
  rw [if_pos (show (rawInt L == rawInt L) = true from by simp)]
  exact wpAny_pure hQ
theorem flight_ok (S : St C Z as ρ μ s) (K : C.Ok n) {e : Addr} {m : T} {f0 : Value} (f : Fly C.G (C.L.fr :: C.L.cs) Z as μ s.heap e m (.at f0)) (fr : Option Addr) {A : Around} {Q : Unit → Shared → Prop}
    (hQ : ∀ h', St C Z as ρ μ { s with heap := h' } → Fly C.G (C.L.fr :: C.L.cs) Z as μ h' e m (.at (fr.elim .none fun f => rawInt f)) → Q () { s with heap := h' }) : wpAny (model pT C.w) A (setFlight (.ref e) fr) Q E s := by
  obtain ⟨dm, oe, vs, hh, tk, u, fe, fd, nde, hdm, he, hc, hdi, hd, hsz, ⟨T, oT, ts, h1, fT, hTe, hTd, hT, hdT, h3⟩⟩ := f
  have hsz3 : 3 < ts.size := (Array.getElem?_eq_some_iff.mp h3).1
  unfold setFlight
  refine wpAny_bind (wpAny_field he hd h1 ?_)
  rw [if_pos (show (Value.ref T != Value.none) = true from by simp)]
  refine wpAny_setField hT hdT hsz3 (hQ _ ?_ ⟨dm, oe, vs, hh, tk, u, fe, fd, nde, (Heap.get?_update_other _ _ hTd).trans hdm, (Heap.get?_update_other _ _ hTe).trans he, hc, hdi, hd, hsz, T, _, _, h1, fT, hTe, hTd, Heap.get?_update_self _ hT (Obj.isFreed_of_fields (Obj.data_mapFields hdT _)), Obj.data_mapFields hdT _, by simp [hsz3]⟩)
  exact S.fly K (X := [T]) (tk := s.toks) (fun x m => by cases List.mem_singleton.mp m; exact fT) fun b o hb e' => by
    have : (s.heap.update T (Obj.mapFields (·.setIfInBounds 3 (fr.elim Value.none fun f => rawInt f)))).get? b = some o := (Heap.get?_update_other _ _ (fun q => hb (by simp [q]))).trans e'
    exact ⟨fun _ => this, o.slots, this⟩
/-- an exception within a frame: not yet noted, or noted here -/
noncomputable def Fl1 (L : Addr) (fl : Flt) : Prop := fl = .new ∨ fl = .at .none ∨ fl = .at (rawInt L)
theorem leave_ok (S : St C Z as ρ μ s) (K : C.Ok n) {env : Env} {outer : List Env} {L e : Addr} {m : T} {fl : Flt} (f : Fly C.G (C.L.fr :: C.L.cs) Z as μ s.heap e m fl) (hfl : Fl1 L fl) (hFs : C.Fs = env :: outer) (hf : env.frame = some L) {Q : Unit → Shared → Prop}
    (hQ : ∀ h', St C Z as ρ μ { s with heap := h' } → Fly C.G (C.L.fr :: C.L.cs) Z as μ h' e m (.at .none) → Q () { s with heap := h' }) : wpAny (model pT C.w) C.A (leaving env (.ref e)) Q E s := by
  unfold leaving
  rcases hfl with h | h | h
  · exact wpAny_bind (note_ok S K f (.inl h) hFs hf fun h' S' f' => flight_ok S' K f' none fun h'' S'' f'' => hQ h'' S'' f'')
  · exact wpAny_bind (note_ok S K f (.inr h) hFs hf fun h' S' f' => flight_ok S' K f' none fun h'' S'' f'' => hQ h'' S'' f'')
  · subst h
    exact wpAny_bind (again_ok f hf (flight_ok S K f none fun h'' S'' f'' => hQ h'' S'' f''))
end
section
variable {M : Model} {A : Around} {E : Value → Shared → Prop} {s : Shared} {env : Env}
theorem raise_made {x : Sem Value} {Q : Flow → Shared → Prop} (hh : A.handled = none)
    (h : wpAny M A x (fun v s₁ => ∃ e t dm, v = .ref e ∧ s₁.heap.get? excA = some excCls ∧ s₁.heap.get? e = some { cls := .ref excA, dict := some dm, data := .fields #[.ref t, .none, .none, .none, .bool false, .none] } ∧ E (.ref e) s₁) E s) :
    wpAny M A (raiseStmt env (some x) none) Q E s := by
  have hcB : (Value.ref excA :: (.ref 31 :: bmE)).contains (.type "BaseException") = true := by decide +kernel
  unfold raiseStmt
  refine wpAny_bind (wpAny_mono h (fun v s₁ h₁ => ?_) fun _ _ x => x)
  obtain ⟨e, t, dm, rfl, hC, he, hE⟩ := h₁
  obtain ⟨hp, g, d, tk, os⟩ := s₁
  repeat (first | with_reducible refine wpAny_loadPart_at he ?_ | with_reducible refine wpAny_loadPart_at hC ?_ | (with_reducible refine wpAny_isSubtype_exc (C := excA) hC ?_; rw [hcB]) | wp_step)
  exact wpAny_raiseNew_none hh hE
end
/-! ### the exception's own making -/
noncomputable abbrev selfN : Str := sT [115, 101, 108, 102]
theorem init_body : fdBody (stIn 3 0) = [.Assign [.Attribute (.Name selfN ⟨10, 8, 10, 12⟩) msgN ⟨10, 8, 10, 20⟩] (.Name msgN ⟨10, 23, 10, 30⟩) ⟨10, 8, 10, 30⟩] := by kernel_rfl
theorem init_names : nmOf (ownIds (fdScope (stIn 3 0)) 0 ++ []) (fdScope (stIn 3 0)) selfN = some (.loc 0) ∧ nmOf (ownIds (fdScope (stIn 3 0)) 0 ++ []) (fdScope (stIn 3 0)) msgN = some (.loc 1) := ⟨by kernel_rfl, by kernel_rfl⟩
theorem init_fd : kF.lookup 48 = some (mkM 3 ⟨#[82,101,102,117,115,97,108,46,95,95,105,110,105,116,95,95]⟩ 0 47 .none pm13) := by kernel_rfl
theorem init_tab : ∃ x, tabK 48 = some x ∧ ∀ u v, ∃ ρ, x.args [u, v] = some (some u :: some v :: ρ) := by
  have h1 : ((tabK 48).map fun x => (x.np, x.dfl.length)) = some (2, 0) := by kernel_rfl
  obtain ⟨x, h2, h3⟩ := Option.map_eq_some_iff.mp h1
  refine ⟨x, h2, fun u v => ?_⟩
  obtain ⟨np, dfl, nv, body⟩ := x
  simp only [Prod.mk.injEq] at h3
  obtain ⟨rfl, h4⟩ := h3
  have : dfl = [] := List.length_eq_zero_iff.mp h4
  subst this
  exact ⟨_, rfl⟩
section
variable {F : Fn} {n : Nat} {C : Cx} {Z Z' : ZM} {as as' : AS} {ρ ρ' : Ev} {μ μ' : Mu} {s s' : Shared} {E : Value → Shared → Prop}
theorem ref_init (K : C.Ok n) {hh h₂ : Heap} {gg : Array GenState} {dr : Drawn} {tt : Nat} {os : OsState} {t : T} {u : Tok} (S₁ : St C Z as ρ μ ⟨hh, gg, dr, tt, os⟩) (S₂ : St C Z as ρ μ ⟨h₂, gg, dr, tt, os⟩) (up : ∀ b o, hh.get? b = some o → h₂.get? b = some o) {x0 t0 : Addr} (hex : h₂.get? x0 = some (excObj t0)) (hx0 : hh.get? x0 = none)
    {A' : Around} (BO : (C.bxA h₂ (C.L.fr :: C.L.cs) A').Ok n) (hA : ∀ env, AOk 0 (A'.deeper env)) {R : Result → Shared → Prop}
    (hR : ∀ s' dm tt, St C Z as ρ μ s' → Fly C.G (C.L.fr :: C.L.cs) Z as μ s'.heap x0 t .new → s'.heap.get? x0 = some { cls := .ref excA, dict := some dm, data := .fields #[.ref tt, .none, .none, .none, .bool false, .none] } → R (.ok (.ret .none)) s') :
    codeAny (model pT C.w) A' (.call (.ref 48) ⟨[.ref x0, .str (sT t) u], []⟩) R ⟨h₂, gg, dr, tt, os⟩ := by
  refine hold fun G out => ?_
  obtain ⟨fx, hfx, hargs⟩ := init_tab
  obtain ⟨ρ0, hρ0⟩ := hargs (.c (.glo (.ref x0))) (.c (.str t))
  have ST : Sc (C.bxA h₂ (C.L.fr :: C.L.cs) A') Z as μ ⟨h₂, gg, dr, tt, os⟩ := ⟨(enterM S₂ K).c, S₂.os, S₂.gens⟩
  refine out (enter_ok (n := 0) BO hA hfx hρ0 ST (S₂.sz K) (.cons (Rep.glo _) (.cons (Rep.str _ _) .nil)) fun o fd b ds s' ho hof O S' K' kk => ?_)
  clear out
  rw [init_fd] at ho
  have ho := Option.some.inj ho
  subst ho
  have hof : fd = _ := (Data.func.inj hof).symm
  subst hof
  have hb' : b = _ := (FuncBody.stmts.inj O.body).symm.trans init_body
  subst hb'
  obtain ⟨n1, n2⟩ := init_names
  refine wpAny_execs_cons ?_
  refine wpAny_Assign_stores ?_ sole_attr swst_attr
  refine wpAny_Name (name_loc S' K' n2 (v := .c (.str t)) rfl fun y ry => ?_) (nmOf_odd n2).1
  obtain ⟨u', rfl⟩ := vstr ry
  show wpAny _ _ (assign (.Attribute (.Name selfN ⟨10, 8, 10, 12⟩) msgN ⟨10, 8, 10, 20⟩) _ _) _ _ _
  rw [arm_assign_Attribute]
  refine wpAny_bind (wpAny_holding (wpAny_Name (name_loc S' K' n1 (v := .c (.glo (.ref x0))) rfl fun z rz => ?_) (nmOf_odd n1).1))
  cases rz
  have hx' := kk _ _ hex
  refine wpAny_bind (wpAny_standAt (wpAny_bind (wpAny_holding (exc_set (S'.gnd K').sys.inK hx' fun h' tk hs kp hx2 hd2 => wpAny_release (wpAny_execs_nil ?_)))))
  have old : ∀ b o, hh.get? b = some o → h'.get? b = some o := fun b o e => kp b o (fun q => by rw [q, hx0] at e; cases e) (kk b o (up b o e))
  have S₅ := S₁.ext (tk := s'.toks + 2) (dr := s'.drawn) (h' := h') old
  have nd : hh.get? s'.heap.objs.size = none := by
    generalize hq : hh.get? s'.heap.objs.size = q
    rcases q with _ | o
    · rfl
    · exact absurd (Heap.lt_size (kk _ _ (up _ _ hq))) (Nat.lt_irrefl _)
  exact hR _ _ _ ⟨S₅.c, S₅.l, S'.os, S'.gens⟩ ⟨s'.heap.objs.size, _, _, hs, tk, u', no_fresh S₁ hx0, no_fresh S₁ nd, (fun q => Nat.lt_irrefl _ (q ▸ Heap.lt_size hx')), hd2, hx2, rfl, rfl, rfl, by simp, by simp⟩ hx2
theorem under_call (K1 : C.Ok (n + 1)) {t : T} {u : Tok} {A' : Around} (e : A' = C.A.under (.builtin "type.__call__" ⟨.ref 51 :: [Value.str (sT t) u], []⟩)) : AOk n A' ∧ ∀ env, AOk 0 (A'.deeper env) := by
  have h1 := K1.ao.depth
  have h2 := K1.ao.units
  have hu := under_type (c := 51) (xs := [Value.str (sT t) u]) K1.ao
  rw [← e] at hu
  have hw : (Code.builtin "type.__call__" ⟨.ref 51 :: [Value.str (sT t) u], []⟩).weight = 1 := by unfold Code.weight; rfl
  have d1 : A'.depth = C.A.depth + 1 := by rw [e]; unfold Around.under; dsimp only; rw [hw]
  have d2 : A'.units = C.A.units + 1 := by rw [e]; rfl
  refine ⟨hu, fun env => ⟨hu.handled, hu.guards, ?_, ?_⟩⟩
  · show A'.depth + 1 + _ + _ < _
    rw [d1]; lia
  · show A'.units + 3 + _ + _ < _
    rw [d2]; lia
theorem refusal_ok (SX : SoundX F n) (bad : BadX F) {k : Nat} (K1 : C.Ok (n + 1)) {f : Str} {p pos : Pos} (hn : nmOf C.vis C.sc f = some (.cl 51)) {e : Expr} {t : T} (e1 : F.x ρ μ (compE k C.vis C.sc e) = .ok (.c (.str t), μ')) (S : St C Z as ρ μ s) {Q : Value → Shared → Prop}
    (hQ : ∀ Z' as' s' x dm tt, ZLe Z Z' → as <+: as' → St C Z' as' ρ μ' s' → Fly C.G (C.L.fr :: C.L.cs) Z' as' μ' s'.heap x t .new → s'.heap.get? x = some { cls := .ref excA, dict := some dm, data := .fields #[.ref tt, .none, .none, .none, .bool false, .none] } → Q (.ref x) s') :
    wpAny (model pT C.w) C.A (eval (.Call (.Name f p) [e] [] pos) C.env) Q E s := by
  have K := K1.le (Nat.le_succ n)
  have hk : keepIn (kAll C.w.params) (.ref 51) = true := by
    have : ∀ P : Params, keepIn (kAll P) (.ref 51) = true := fun P => by kernel_rfl
    exact this _
  have eL : evL F ρ μ ([e].map (compE k C.vis C.sc)) = .ok ([.c (.str t)], μ') := by
    show (F.x ρ μ (compE k C.vis C.sc e)).bind _ = _
    rw [e1]; rfl
  refine wpAny_Call_NameR (name_glo S K hn (fun i h => nomatch h) fun x hx => ?_)
  cases (show x = .ref 51 from hx)
  refine callK SX bad K hk eL S fun Z₁ as₁ s₁ xs l₁ p₁ S₁ r₁ => ?_
  obtain ⟨y, ys, rfl, ry, r2⟩ := r₁.cases_cons
  cases r2.cases_nil
  obtain ⟨u, rfl⟩ := vstr ry
  refine wpAny_call ?_
  obtain ⟨hh, gg, dr, tt, os⟩ := s₁
  refine exc_make (S₁.gnd K).sys.inK ?_
  have up : ∀ b o, hh.get? b = some o → ((hh.push { cls := .type "tuple", data := .seq [Value.str (sT t) u].toArray }).push (excObj hh.objs.size)).get? b = some o := fun b o e => Heap.get?_push_of_some _ (Heap.get?_push_of_some _ e)
  have hex : ((hh.push { cls := .type "tuple", data := .seq [Value.str (sT t) u].toArray }).push (excObj hh.objs.size)).get? (hh.objs.size + 1) = some (excObj hh.objs.size) := by
    have := Heap.get?_push_size (hh.push { cls := .type "tuple", data := .seq [Value.str (sT t) u].toArray }) (o := excObj hh.objs.size) rfl
    rwa [Heap.size_push] at this
  have hx0 : hh.get? (hh.objs.size + 1) = none := by
    generalize hq : hh.get? (hh.objs.size + 1) = q
    rcases q with _ | o
    · rfl
    · exact absurd (Heap.lt_size hq) (Nat.not_lt.mpr (Nat.le_succ _))
  generalize (hh.push { cls := .type "tuple", data := .seq [Value.str (sT t) u].toArray }).push (excObj hh.objs.size) = h₂ at *
  have S₂ := S₁.ext (tk := tt) (dr := dr) (h' := h₂) up
  have B := bx_ok S₂ K (l := C.L.fr :: C.L.cs) (.head _) S₂.gEx
  have hF := under_frames (c := 51) (xs := [Value.str (sT t) u]) (A := C.A)
  obtain ⟨hu, hA⟩ := under_call K1 (t := t) (u := u) rfl
  exact ref_init (A' := C.A.under (.builtin "type.__call__" ⟨.ref 51 :: [Value.str (sT t) u], []⟩)) K S₁ S₂ up hex hx0 ⟨B.gnd, B.base, hu, hF.trans K.frs, B.fok⟩ hA fun s' dm tt' S' f' h' => ⟨rfl, hQ Z₁ as₁ s' _ dm tt' l₁ p₁ S' f' h'⟩
end
noncomputable def PostE (C : Cx) (Z : ZM) (as : AS) (m : T) (E : Value → Shared → Prop) : Prop := ∀ Z' as' ρ' μ' s' e fl, ZLe Z Z' → as <+: as' → St C Z' as' ρ' μ' s' → Fly C.G (C.L.fr :: C.L.cs) Z' as' μ' s'.heap e m fl → Fl1 C.L.fr fl → E (.ref e) s'
theorem PostE.up {C : Cx} {Z Z' : ZM} {as as' : AS} {m : T} {E : Value → Shared → Prop} (h : PostE C Z as m E) (l : ZLe Z Z') (p : as <+: as') : PostE C Z' as' m E := fun Z₂ as₂ ρ' μ' s' e fl l' p' => h Z₂ as₂ ρ' μ' s' e fl (l.trans l') (p.trans p')
noncomputable def SoundE (F : Fn) (n : Nat) : Prop := ∀ (k : Nat) (st : Stmt) (C : Cx) (ρ : Ev) (μ : Mu) (m : T), F.es ρ μ (compS k C.vis C.sc st) = some m → C.Ok n → FnCx C → ∀ Z as s Q E, St C Z as ρ μ s → PostE C Z as m E → wpAny (model pT C.w) C.A (exec st C.env) Q E s
noncomputable def SoundEC (F : Fn) (n : Nat) : Prop := ∀ f vs m, F.ec f vs = some m → ∀ B, Bx.Ok B n → ∀ Z s vals, Sc B Z [] [] s → B.h₀.objs.size ≤ s.heap.objs.size → AlR (VRep B.w Z []) vals vs → ∀ R,
  (∀ Z' as' μ' s' e, ZLe Z Z' → Sc B Z' as' μ' s' → Fly B.G [] Z' as' μ' s'.heap e m (.at .none) → R (.error (.ref e)) s') → codeAny (model pT B.w) B.A (.call (.ref f) ⟨vals, []⟩) R s
section
variable {F : Fn} {n : Nat} {C : Cx} {Z Z' : ZM} {as as' : AS} {ρ ρ' : Ev} {μ μ' : Mu} {s s' : Shared} {E : Value → Shared → Prop} {m : T} {Q : Flow → Shared → Prop}
theorem opt_v {α : Type} {r : Res α} {a : α} (h : r.opt = some a) : r = .ok a := by
  rcases r with b | _ | _
  · exact congrArg Res.ok (Option.some.inj h)
  · exact noneE h
  · exact noneE h
theorem thn_v {o : Option T} {r : Res (Fl × Ev × Mu)} {k : Ev → Mu → Option T} {G : Prop} (h : thn o r k = some m) (k1 : o = some m → G) (k2 : ∀ ρ₁ μ₁, r = .ok (.nxt, ρ₁, μ₁) → k ρ₁ μ₁ = some m → G) : G := by
  rcases o with _ | m'
  · rcases r with ⟨fl, ρ₁, μ₁⟩ | _ | _
    · rcases fl with _ | _
      · exact k2 ρ₁ μ₁ rfl h
      · exact noneE h
    · exact noneE h
    · exact noneE h
  · exact k1 h
theorem exSs_v {ρ : Ev} {μ : Mu} {s : Mine.S} {r : List Mine.S} {G : Prop} (h : exSs F ρ μ (s :: r) = some m) (k1 : F.es ρ μ s = some m → G) (k2 : ∀ ρ₁ μ₁, F.s ρ μ s = .ok (.nxt, ρ₁, μ₁) → exSs F ρ₁ μ₁ r = some m → G) : G := thn_v h k1 k2
theorem execs_E (SS : SoundS F n) (SE : SoundE F n) {k : Nat} (K : C.Ok n) (H : FnCx C) : ∀ (b : List Stmt) (ρ : Ev) (μ : Mu), exSs F ρ μ (b.map (compS k C.vis C.sc)) = some m → ∀ Z as s (Q : Flow → Shared → Prop) E, St C Z as ρ μ s → PostE C Z as m E → wpAny (model pT C.w) C.A (execs b C.env) Q E s
  | [], ρ, μ, e, Z, as, s, Q, E, S, P => by cases e
  | st :: b, ρ, μ, e, Z, as, s, Q, E, S, P => by
    exact exSs_v e (fun h => wpAny_execs_cons (SE k st C ρ μ m h K H Z as s _ E S P)) fun ρ₁ μ₁ h e => wpAny_execs_cons (SS k st C ρ μ .nxt ρ₁ μ₁ h K H Z as s _ E S fun Z₁ as₁ s₁ l₁ p₁ S₁ => execs_E SS SE K H b ρ₁ μ₁ e Z₁ as₁ s₁ Q E S₁ (P.up l₁ p₁))
theorem if_E (SB : SoundB F n) (SS : SoundS F n) (SE : SoundE F n) {k : Nat} (K : C.Ok n) (H : FnCx C) {t : Expr} {a b : List Stmt} {p : Pos} (e : stepE F ρ μ (.ife (compE k C.vis C.sc t) (a.map (compS k C.vis C.sc)) (b.map (compS k C.vis C.sc))) = some m) (S : St C Z as ρ μ s) (P : PostE C Z as m E) :
    wpAny (model pT C.w) C.A (exec (.If t a b p) C.env) Q E s := by
  obtain ⟨⟨c, μ₁⟩, h, e⟩ := Option.bind_eq_some_iff.mp e
  refine wpAny_If (SB k t C ρ μ c μ₁ (opt_v h) K Z as s _ E S fun Z₁ as₁ s₁ l₁ p₁ S₁ => ?_)
  rcases c with _ | _
  · exact execs_E SS SE K H b ρ μ₁ e Z₁ as₁ s₁ Q E S₁ (P.up l₁ p₁)
  · exact execs_E SS SE K H a ρ μ₁ e Z₁ as₁ s₁ Q E S₁ (P.up l₁ p₁)
/-- what is raised in a loop's body comes out of the loop -/
theorem out_E (K : C.Ok n) (H : FnCx C) {e : Addr} {fl : Flt} (S : St C Z as ρ μ s) (f : Fly C.G (C.L.fr :: C.L.cs) Z as μ s.heap e m fl) (hfl : Fl1 C.L.fr fl) {Q : Value → Shared → Prop} (P : ∀ h', St C Z as ρ μ { s with heap := h' } → Fly C.G (C.L.fr :: C.L.cs) Z as μ h' e m (.at (rawInt C.L.fr)) → Q (.ref e) { s with heap := h' }) :
    notedBy (model pT C.w) C.A C.env (fun e s' => cameBackBy (model pT C.w) C.A C.env Q e s') (.ref e) s := by
  obtain ⟨outer, hFs⟩ := H.fs
  have fin : ∀ h', St C Z as ρ μ { s with heap := h' } → Fly C.G (C.L.fr :: C.L.cs) Z as μ h' e m (.at (rawInt C.L.fr)) → cameBackBy (model pT C.w) C.A C.env Q (.ref e) { s with heap := h' } := by
    intro h' S' f'
    unfold cameBackBy
    obtain ⟨dm, oe, vs, hh, tk, u, fe, fd, nde, hdm, he, hc, hdi, hd, hsz, ⟨T, oT, ts, h1, r⟩⟩ := id f'
    refine wpAny_bind (wpAny_field (s := { s with heap := h' }) he hd h1 ?_)
    rw [if_neg (show ¬ ((Value.ref T == Value.none) = true) from by simp)]
    rw [H.fr]
    exact flight_ok S' K f' (some C.L.fr) fun h'' S'' f'' => P h'' S'' f''
  unfold notedBy
  rcases hfl with h | h | h
  · exact note_ok S K f (.inl h) hFs H.fr fun h' S' f' => fin h' S' f'
  · exact note_ok S K f (.inr h) hFs H.fr fun h' S' f' => fin h' S' f'
  · subst h
    exact again_ok f H.fr (fin s.heap S f)
inductive EInv (F : Fn) (C : Cx) (Z : ZM) (as : AS) (k : Nat) (ts : List Nat) (tp : Bool) (b : List Stmt) (I : Addr) (il : Bool) (m : T) (j : Nat) (s : Shared) : Prop
  | mk (Z₁ : ZM) (as₁ : AS) (ρ₁ : Ev) (μ₁ : Mu) (l : List D) (hl : l.length = j) (le : ZLe Z Z₁) (pre : as <+: as₁) (S : St C Z₁ as₁ ρ₁ μ₁ s) (fr : Fresh Z₁ C.G (C.L.fr :: C.L.cs) as₁ μ₁ I) (it : ItS C.w Z₁ s.heap I il l) (e : exFor F ts tp (b.map (compS k C.vis C.sc)) ρ₁ μ₁ l = some m) : EInv F C Z as k ts tp b I il m j s
theorem for_E (SX : SoundX F n) (SS : SoundS F n) (SE : SoundE F n) (bad : BadX F) {k : Nat} (K : C.Ok n) (H : FnCx C) {e it : Expr} {b : List Stmt} {p : Pos} {ts : List Nat} {tp : Bool} (ht : tgts C.vis C.sc e = some (ts, tp))
    (he : stepE F ρ μ (.for_ ts tp (compE k C.vis C.sc it) (b.map (compS k C.vis C.sc))) = some m) (S : St C Z as ρ μ s) (P : PostE C Z as m E) :
    wpAny (model pT C.w) C.A (exec (.For e it b [] p) C.env) Q E s := by
  obtain ⟨⟨d, μ₂⟩, h, he⟩ := Option.bind_eq_some_iff.mp he
  refine Res.bind2 (opt_v h) fun x μ₁ e1 e2 => Option.bind1 he fun l e3 he => ?_
  refine wpAny_For (SX k it C ρ μ x μ₁ e1 K Z as s _ E S fun Z₁ as₁ s₁ y l₁ p₁ S₁ r₁ => ?_) (folded_ok bad e1)
  obtain ⟨Z₂, l₂, S₂, r₂⟩ := S₁.frz e2 r₁
  obtain ⟨e5, e6⟩ := itemsT_items e3
  refine iter_ok S₂ K e5 r₂ fun s₃ I il S₃ fr it₃ hil => ?_
  have hi : tp = true → il = true := fun q => hil.mpr (e6 q)
  clear hil
  refine codeAny_forLoop_any (EInv F C Z as k ts tp b I il m) (fun j s hm => ?_) l.length ⟨Z₂, as₁, ρ, μ₂, l, rfl, l₁.trans l₂, p₁, S₃, fr, it₃, he⟩
  obtain ⟨Z₄, as₄, ρ₄, μ₄, l', rfl, l₄, p₄, S₄, fr₄, it₄, e₄⟩ := hm
  rcases l' with _ | ⟨a, l'⟩
  · cases e₄
  ·
    refine next_item S₄ K fr₄ it₄ fun s₅ y S₅ it₅ ry => ?_
    refine Option.bind1 e₄ fun ρ₅ hb e₄ => ?_
    refine letOwned_ok ht hb ry it₅ hi ?_
    have S₅' := gd_in S₅ fr₄
    have K₅ := gd_ok S₅ K fr₄
    obtain ⟨oI, hI⟩ := it₅.alive
    refine bindT_ok (C := C.gd s₅.heap I) S₅' K₅ ht hb ry fun s₆ S₆ => ?_
    refine thn_v e₄ (fun hm' => ?_) fun ρ₆ μ₆ h6 e₄ => ?_
    · refine execs_E (C := C.gd s₅.heap I) SS SE K₅ (gd_fn H) b ρ₅ μ₄ hm' Z₄ as₄ s₆ _ _ S₆ fun Z₇ as₇ ρ₇ μ₇ s₇ ee fl l₇ p₇ S₇ f₇ hfl => ?_
      obtain ⟨S₈, fr₈, hI₈⟩ := gd_out S₅ fr₄ hI S₇
      have f₈ : Fly C.G (C.L.fr :: C.L.cs) Z₇ as₇ μ₇ s₇.heap ee m fl := f₇.move fun x hx _ => by
        obtain ⟨h1, h2, h3, h4⟩ := hx
        refine ⟨h1, ?_, h3, h4⟩
        have h2 : guardG C.G s₅.heap [I] (I + 1) x = none := h2
        by_cases q : x = I
        · subst q
          have := guard_none (.head _) h2
          rw [hI] at this; cases this
        · rw [guard_out (fun m => q (List.mem_singleton.mp m))] at h2; exact h2
      exact out_E K H S₈ f₈ hfl fun h' S' f' => P Z₇ as₇ ρ₇ μ₇ _ ee _ (l₄.trans l₇) (p₄.trans p₇) S' f' (.inr (.inr rfl))
    · refine execs_ok (C := C.gd s₅.heap I) SS K₅ (gd_fn H) b ρ₅ μ₄ h6 Z₄ as₄ s₆ _ _ S₆ fun Z₇ as₇ s₇ l₇ p₇ S₇ => ?_
      obtain ⟨S₈, fr₈, hI₈⟩ := gd_out S₅ fr₄ hI S₇
      exact ⟨l'.length, Nat.lt_succ_self _, ⟨Z₇, as₇, ρ₆, μ₆, l', rfl, l₄.trans l₇, p₄.trans p₇, S₈, fr₈, it₅.again l₇ hI hI₈, e₄⟩⟩
end
section
variable {F : Fn} {n : Nat} {C : Cx} {Z Z' : ZM} {as as' : AS} {ρ ρ' : Ev} {μ μ' : Mu} {s s' : Shared} {E : Value → Shared → Prop} {m : T} {Q : Flow → Shared → Prop}
theorem ifE {c : Bool} {a : Mine.S} {G : Prop} (h : stepE F ρ μ (if c = true then a else .bad) = some m) (k : c = true → stepE F ρ μ a = some m → G) : G := by
  rcases c with _ | _
  · exact noneE h
  · exact k rfl h
theorem optSe {α : Type} {o : Option α} {g : α → Mine.S} {G : Prop} (h : stepE F ρ μ (optS (o.map g)) = some m) (k : ∀ a, o = some a → stepE F ρ μ (g a) = some m → G) : G := by
  rcases o with _ | x
  · exact noneE h
  · exact k x rfl h
theorem raise_E (SX : SoundX F n) (bad : BadX F) {k : Nat} (K1 : C.Ok (n + 1)) {e c : Option Expr} {p : Pos} (he : stepE F ρ μ (cRaise (compE k C.vis C.sc) C.vis C.sc e c) = some m) (S : St C Z as ρ μ s) (P : PostE C Z as m E) :
    wpAny (model pT C.w) C.A (exec (.Raise e c p) C.env) Q E s := by
  refine ifE he fun hc he => optSe he fun q hq he => ifE he fun hr he => Option.bind1 he fun r h he => ?_
  have hc := Option.isNone_iff_eq_none.mp hc
  subst hc
  refine Option.bind1 hq fun e0 he0 hq => ?_
  subst he0
  obtain ⟨p1, p2, rfl⟩ := raiE_v hq
  obtain ⟨v, μ₁⟩ := r
  cases toT_v he
  rw [arm_exec_Raise]
  refine wpAny_bind (wpAny_standAt ?_)
  refine raise_made K1.ao.handled (wpAny_bind ?_)
  refine refusal_ok SX bad K1 (isR_v hr) (opt_v h) S fun Z' as' s' x dm tt l p S' f hx => wpAny_bind (wpAny_standAt (wpAny_pure ?_))
  exact ⟨x, tt, dm, rfl, (S'.gnd K1).sys.inK _ _ (exc_cls _), hx, P Z' as' ρ μ₁ s' x .new l p S' f (.inl rfl)⟩
/-- what is fresh to the callee is fresh to the caller -/
theorem fresh_out (S : St C Z as ρ μ s) {as₃ : AS} {μ₃ : Mu} {Z₃ : ZM} {x : Addr} (h : Fresh Z₃ (C.bx s.heap (C.lP μ as)).G [] as₃ μ₃ x) : Fresh Z₃ C.G (C.L.fr :: C.L.cs) as μ x := by
  obtain ⟨h1, h2, _, _⟩ := h
  have h2 : guardG C.G s.heap (C.lP μ as) C.L.fr x = none := h2
  have hx : x ∉ C.lP μ as := fun m => by
    have := guard_none m h2
    rcases List.mem_append.mp m with m' | m'
    · obtain ⟨⟨o, e⟩, _⟩ := S.c.exA x m'; rw [e] at this; cases this
    · obtain ⟨i, p, q, a, b, m'⟩ := mem_allFp.mp m'
      obtain ⟨o, e⟩ := (S.c.priv i p q a b).alive m'
      rw [e] at this; cases this
  rw [guard_out hx] at h2
  exact ⟨h1, h2, fun m => hx (List.mem_append_left _ m), fun i p q a b m => hx (List.mem_append_right _ (mem_allFp.mpr ⟨i, p, q, a, b, m⟩))⟩
/-- a call that raises -/
theorem fn_E (SX : SoundX F n) (SEC : SoundEC F n) (bad : BadX F) {k : Nat} (K : C.Ok n) {f : Str} {p pos : Pos} {a : Addr} (hn : nmOf C.vis C.sc f = some (.fn a)) (hk : keptF a = true) {es : List Expr}
    (he : exFn F ρ μ a (es.map (compE k C.vis C.sc)) = some m) {Q : Value → Shared → Prop} (S : St C Z as ρ μ s) (P : PostE C Z as m E) :
    wpAny (model pT C.w) C.A (eval (.Call (.Name f p) es [] pos) C.env) Q E s := by
  refine Option.bind1 he fun ⟨ds, μ₂⟩ h he => Res.bind2 (opt_v h) fun vs μ₁ e1 e2 => ?_
  refine wpAny_Call_NameR (name_glo S K hn (fun i h => nomatch h) fun x hx => ?_)
  cases (show x = .ref a from hx)
  refine callK SX bad K (kept_ok _ hk) e1 S fun Z₁ as₁ s₁ xs l₁ p₁ S₁ r₁ => ?_
  obtain ⟨Z₂, l₂, S₂, r₂⟩ := S₁.frzs e2 r₁
  refine wpAny_call (codeAny_mono (SEC a (ds.map .c) m he (C.bx s₁.heap (C.lP μ₂ as₁)) (bx_ok S₂ K (List.mem_append_left _ (.head _)) S₂.gP) Z₂ s₁ xs (enterP S₂ K) (S₂.sz K) (AlR.map_right r₂) _ fun Z₃ as₃ μ₃ s₃ e l₃ S₃ f₃ => ?_) fun r s' h => h)
  exact P Z₃ as₁ ρ μ₂ s₃ e (.at .none) ((l₁.trans l₂).trans l₃) p₁ (leaveP S₂ K l₃ S₃) (f₃.move fun x hx _ => fresh_out S₂ hx) (.inr (.inl rfl))
noncomputable def isFn : X → Bool | .fn .. => true | _ => false
theorem optX_fn {α : Type} {o : Option α} {g : α → X} (h : ∀ a, isFn (g a) = false) : isFn (optX (o.map g)) = false := by
  rcases o with _ | a
  · rfl
  · exact h a
theorem ite_fn {c : Prop} [Decidable c] {x : X} (h : isFn x = false) : isFn (if c then x else .bad) = false := by
  by_cases q : c
  · rw [if_pos q]; exact h
  · rw [if_neg q]; rfl
theorem ite_fn' {c : Prop} [Decidable c] {x : X} (q : ¬ c) : isFn (if c then x else .bad) = false := by
  rw [if_neg q]; rfl
theorem fn_no {x : X} {a : Addr} {l : List X} {G : Prop} (h : isFn x = false) (e : x = .fn a l) : G := by
  subst e; cases h
theorem fn_inv {k : Nat} {vis : Vis} {sc : Scope} {e : Expr} {a : Addr} {l : List X} (h : compE k vis sc e = .fn a l) : ∃ f p es pos k', e = .Call (.Name f p) es [] pos ∧ nmOf vis sc f = some (.fn a) ∧ keptF a = true ∧ l = es.map (compE k' vis sc) := by
  refine hold fun G out => ?_
  rcases k with _ | k
  · exact fn_no rfl h
  · have no : ∀ {x : X}, isFn x = false → x = .fn a l → G := fun h e => fn_no h e
    induction e using PySem.Expr.casesOn with
    | Call f args kws pos =>
      refine cCall_cases (P := fun x => x = .fn a l → G) (no rfl) (fun x p hf hk => ?_) (fun _ _ _ _ _ _ _ _ => no rfl) (fun _ _ _ _ _ _ _ _ => no rfl) h
      refine cCallN_cases (P := fun x => x = .fn a l → G) (no rfl) (fun a' hn hk' h => ?_) (fun _ _ _ => no rfl) (fun _ _ => no rfl)
      obtain ⟨h1, h2⟩ := X.fn.inj h
      exact out ⟨x, p, args, pos, k, by rw [hf, hk], h1 ▸ hn, h1 ▸ hk', h2.symm⟩
    | UnaryOp op x _ => cases op <;> exact no rfl h
    | BoolOp op x _ => cases op <;> exact no rfl h
    | Constant c _ _ => exact no (optX_fn fun _ => rfl) h
    | Name x _ =>
      change optX ((nmOf vis sc x).bind nmX) = _ at h
      generalize nmOf vis sc x = o at h
      rcases o with _ | y
      · exact no rfl h
      · rcases y with _ | _ | _ | b | _
        · exact no rfl h
        · exact no rfl h
        · exact no rfl h
        · cases b <;> exact no rfl h
        · exact no rfl h
    | BinOp l op r _ => exact no (optX_fn fun _ => rfl) h
    | Compare l ops rs _ => exact cCmp_cases (P := fun x => x = .fn a _ → G) (no rfl) (fun _ _ _ _ => no rfl) h
    | Attribute o a _ => exact no (ite_fn (optX_fn fun _ => rfl)) h
    | Subscript o i _ => exact cSub_cases (P := fun x => x = .fn a l → G) (no rfl) (fun _ _ _ _ _ => no rfl) (fun _ => no rfl) h
    | Dict ks vs _ => exact no (ite_fn (optX_fn fun _ => rfl)) h
    | ListComp elt gens csc _ => exact cComp_cases (P := fun x => x = .fn a l → G) (no rfl) (fun _ _ _ _ _ _ _ => no rfl) h
    | _ => exact no rfl h
theorem exE_v {x : X} (h : exE F ρ μ x = some m) : ∃ a l, x = .fn a l ∧ exFn F ρ μ a l = some m := by
  cases x <;> first | exact noneE h | exact ⟨_, _, rfl, h⟩
theorem optS_some {o : Option Mine.S} (h : stepE F ρ μ (optS o) = some m) : ∃ x, o = some x ∧ stepE F ρ μ x = some m := by
  rcases o with _ | x
  · cases h
  · exact ⟨x, rfl, h⟩
theorem asg_E (SX : SoundX F n) (SEC : SoundEC F n) (bad : BadX F) {k : Nat} (K : C.Ok n) {ts : List Expr} {e : Expr} {p : Pos} (he : stepE F ρ μ (cAsg (compE k C.vis C.sc) C.vis C.sc ts e) = some m) (S : St C Z as ρ μ s) (P : PostE C Z as m E) :
    wpAny (model pT C.w) C.A (exec (.Assign ts e p) C.env) Q E s := by
  revert he
  refine cAsg_cases (P := fun x => stepE F ρ μ x = some m → _) noneE (fun x q i hs hi he => ?_) (fun _ _ _ _ _ _ _ => noneE) (fun _ _ _ _ _ _ => noneE) (fun _ _ _ _ => noneE)
  subst hs
  by_cases hl : isLC e = true
  · rw [if_pos hl] at he; exact noneE he
  · rw [if_neg hl] at he
    obtain ⟨a, l, h4, he⟩ := exE_v he
    obtain ⟨f, q', es, pos, k', rfl, hn, hk, rfl⟩ := fn_inv h4
    exact wpAny_Assign_Name (fn_E SX SEC bad K hn hk he S P) rfl
end
section
variable {F : Fn} {n : Nat} {C : Cx} {Z Z' : ZM} {as as' : AS} {ρ ρ' : Ev} {μ μ' : Mu} {s s' : Shared} {E : Value → Shared → Prop} {m : T} {Q : Flow → Shared → Prop}
theorem stepE_ok (tab : Addr → Option Fd) (SX : SoundX F n) (SB : SoundB F n) (SS : SoundS F n) (SE : SoundE F n) (SEC : SoundEC F n) (bad : BadX F) : SoundE (stepF tab F) (n + 1) := by
  intro k st C ρ μ m he K1 H Z as s Q E S P
  have K := K1.le (Nat.le_succ n)
  change stepE F ρ μ (compS k C.vis C.sc st) = some m at he
  rcases k with _ | k
  · cases he
  ·
    cases st with
    | Assign ts e p => exact asg_E SX SEC bad K he S P
    | If t a b p => exact if_E SB SS SE K H he S P
    | For t it b o p =>
      rcases o with _ | ⟨_, _⟩
      · exact optSe he fun tt ht he => for_E SX SS SE bad K H ht he S P
      · cases he
    | Raise e c p => exact raise_E SX bad K1 he S P
    | Return e p =>
      rcases e with _ | e
      · cases he
      ·
        obtain ⟨a, l, h4, he⟩ := exE_v he
        obtain ⟨f, q', es, pos, k', rfl, hn, hk, rfl⟩ := fn_inv h4
        exact wpAny_Return_some (fn_E SX SEC bad K hn hk he S P)
    | AugAssign t op e p =>
      exact cAug_cases (P := fun x => stepE F ρ μ x = some m → _) noneE (fun _ _ _ _ _ _ _ => noneE) he
    | Expr e p => exact ifE he fun _ he => noneE he
    | While t b o p => exact ifE he fun _ he => noneE he
    | Try b hs o f p => exact ifE he fun _ he => optSe he fun _ _ he => ifE he fun _ he => noneE he
    | _ => exact noneE he
theorem soundEC_step (SS : SoundS F n) (SE : SoundE F n) : SoundEC (stepF tabK F) (n + 1) := by
  intro f vs m he B K Z s vals S hsz r R P
  change (match tabK f with | some fd => callE F fd vs | none => none) = _ at he
  generalize hx : tabK f = o at he
  rcases o with _ | x
  · exact noneE he
  · change callE F x vs = _ at he
    unfold callE at he
    generalize hρ : x.args vs = o at he
    rcases o with _ | ρ
    · exact noneE he
    · refine enter_ok K (deeper_ok K.ao) hx hρ S hsz r fun _ fd b ds s' _ _ O S' K' kk => ?_
      have hb : x.body = b.map (compS 60 (B.fn fd s.heap f).vis (B.fn fd s.heap f).sc) := by rw [O.x]; rfl
      rw [hb] at he
      refine execs_E (C := B.fn fd s.heap f) SS SE K' fn_fc b ρ [] he Z [] s' _ _ S' fun Z₁ as₁ ρ₁ μ₁ s₁ e fl l₁ p₁ S₁ f₁ hfl => ?_
      refine leave_ok S₁ K' f₁ hfl rfl rfl fun h' S₂ f₂ => ?_
      exact P Z₁ as₁ μ₁ _ e l₁ (fn_out S₂ (B := B) rfl rfl rfl rfl) (f₂.move fun x hx _ => ⟨hx.1, hx.2.1, (fun m => nomatch m), hx.2.2.2⟩)
end
section
variable {F : Fn} {n : Nat} {C : Cx} {Z Z' : ZM} {as as' : AS} {ρ ρ' : Ev} {μ μ' : Mu} {s s' : Shared} {E : Value → Shared → Prop} {m : T} {Q : Flow → Shared → Prop}
/-- what is known is forgotten -/
theorem St.forget (S : St C Z as ρ μ s) : St C Z [] [] [] s :=
  ⟨⟨S.c.z, S.c.g, S.c.vd, S.c.exA, rfl, fun i p q h => by simp at h, fun i p q h => by simp at h, fun i j p q p' q' _ h => by simp at h⟩,
   ⟨let ⟨m, h, _⟩ := S.l.ns; ⟨m, h, fun i n v _ h => by simp at h⟩, fun i c v _ h => by simp at h, S.l.own⟩, S.os, S.gens⟩
/-- the frame's names change -/
theorem St.names (S : St C Z [] [] [] s) (K : C.Ok n) {h' : Heap} {tk : Nat} {m' : Str → Option Value} (hn : h'.Ns C.L.fr m') (hs : Heap.SameBut C.L.fr s.heap h') : St C Z [] [] [] { s with heap := h', toks := tk } := by
  have al : ∃ o, h'.get? C.L.fr = some o := let ⟨o, _, _, e, _⟩ := hn; ⟨o, e⟩
  have kk : ∀ b o, b ≠ C.L.fr → s.heap.get? b = some o → h'.get? b = some o := fun b o ne e => (hs.2 b ne).trans e
  refine ⟨S.c.setEx (.head _) kk al, ⟨⟨m', hn, fun i n v _ h => by simp at h⟩, fun i c v _ h => by simp at h, fun c m => ?_⟩, S.os, S.gens⟩
  obtain ⟨x, o, e, d⟩ := S.l.own c m
  exact ⟨x, o, kk _ _ (fun q => (List.nodup_cons.mp K.lay.nd).1 (q ▸ m)) e, d⟩
theorem Fly.at_ {G : GM} {ex : List Addr} {h : Heap} {e : Addr} {v : Value} (f : Fly G ex Z as μ h e m (.at v)) {L : Addr} (hL : L ∈ ex) {h' : Heap} (k : ∀ b o, b ≠ L → h.get? b = some o → h'.get? b = some o) : Fly G ex Z as μ h' e m (.at v) := by
  have nl : ∀ {x}, Fresh Z G ex as μ x → x ≠ L := fun {x} fr q => fr.2.2.1 (q ▸ hL)
  obtain ⟨dm, oe, vs, hh, tk, u, fe, fd, nde, hdm, he, hc, hdi, hd, hsz, ⟨T, oT, ts, h1, fT, hTe, hTd, hT, hdT, h3⟩⟩ := id f
  exact ⟨dm, oe, vs, hh, tk, u, fe, fd, nde, k _ _ (nl fd) hdm, k _ _ (nl fe) he, hc, hdi, hd, hsz, T, oT, ts, h1, fT, hTe, hTd, k _ _ (nl fT) hT, hdT, h3⟩
/-- the handler: the exception's text is given back -/
theorem handle_ok (K : C.Ok n) (H : FnCx C) (S : St C Z [] [] [] s) {e : Addr} (f : Fly C.G (C.L.fr :: C.L.cs) Z [] [] s.heap e m (.at .none)) {g x y a : Str} {p1 p2 p3 p4 p5 : Pos} (hn : nmOf C.vis C.sc g = some (.cl 51)) (hx : sEqL x y = true) (ha : At.of a.cps.toList = some .message) (hl : isLocal C.sc x = true) (ho : oddName x = false)
    (P : ∀ s' u, St C Z [] [] [] s' → Q (.ret (.str (sT m) u)) s') :
    wpAny (model pT C.w) C.A (handleBy (.ref e) C.env [.ExceptHandler (some (.Name g p1)) (some x) [.Return (some (.Attribute (.Name y p2) a p3)) p4] p5]) Q E s := by
  have hk := H.kd x hl
  have hxy := sEqL_iff.mp hx
  subst hxy
  have ham : a = msgN := by
    have := List.find?_some ha
    have := of_decide_eq_true this
    show a = sT _
    rw [this]
  subst ham
  have hdb : (x == ("__debug__" : Str)) = false := by
    unfold oddName at ho
    simp only [Bool.or_eq_false_iff] at ho
    exact ho.1.1
  have hp : (C.env.scope.kind == .class || (C.env.scope.kind == .module && C.env.locals != C.env.globals)) = false := by rw [K.lay.kind]; rfl
  have hbase : (Value.ref 31 :: bmE).contains (.type "BaseException") = true := by decide +kernel
  refine wpAny_handleBy_cons (codeAny_handlers_test (name_glo S K hn (fun i h => by cases h) fun c hc => ?_)) (by intro q; cases q)
  cases (show c = .ref 51 from hc)
  obtain ⟨dm, oe, vs, hh, tk, u, fe, fd, nde, hdm, he, hc', hdi, hd, hsz, hr⟩ := id f
  have hC := (S.gnd K).sys.inK _ _ (exc_cls _)
  obtain ⟨hp0, gs, dr, tks, os⟩ := s
  refine wpAny_excMatches_sub_self hC he hc' hbase ?_
  refine codeAny_handlers_suite_as ?_
  refine flight_ok S K f none fun h₁ S₁ f₁ => ?_
  obtain ⟨m₁, hn₁, _⟩ := S₁.l.ns
  refine wpAny_storeName_local hk (by rw [K.lay.fr]; exact hn₁) (fun h₂ hn₂ hs₂ => ?_) hp
  rw [K.lay.fr] at hn₂ hs₂
  have S₂ := S₁.names K (tk := tks + 1) hn₂ hs₂
  have f₂ := f₁.at_ (.head _) fun b o ne e' => (hs₂.2 b ne).trans e'
  refine wpAny_execs_cons (wpAny_Return_some (Attribute_name (wpAny_Name (wpAny_loadName_local K.lay.kind hk (by rw [K.lay.fr]; exact hn₂) (if_pos rfl) ?_) hdb)))
  obtain ⟨dm', oe', vs', hh', tk', u', fe', fd', nde', hdm', he', hc'', hdi', hd', hsz', _⟩ := id f₂
  have I : PySem.W.InstAt h₂ e oe' excA (some (dictOf [⟨hh', .str msgN tk', .str (sT m) u'⟩] 1)) := ⟨he', hc'', by unfold notCls; rw [hd'], by rw [hdi']; exact hdm'⟩
  refine exc_get (s := ⟨h₂, gs, dr, tks + 1, os⟩) (S₂.gnd K).sys.inK I ?_
  dsimp only
  have S₃ := S₂.tok (tk := tks + 1 + 1)
  obtain ⟨m₃, hn₃, _⟩ := S₃.l.ns
  refine wpAny_nameGoes hk (by rw [K.lay.fr]; exact hn₃) hp fun h₄ m₄ hn₄ hs₄ => ?_
  rw [K.lay.fr] at hn₄ hs₄
  exact P _ _ (S₃.names K hn₄ hs₄)
theorem tryR_v {r : Res (Fl × Ev × Mu)} {o : Option T} {y : Fl × Ev × Mu} {G : Prop} (h : tryR r o = .ok y) (k1 : r = .ok y → G) (k2 : ∀ m, o = some m → (.ret (.c (.str m)), [], []) = y → G) : G := by
  rcases r with q | _ | _
  · exact k1 h
  · exact optR h fun m hm h => k2 m hm (Res.ok.inj h)
  · exact optR h fun m hm h => k2 m hm (Res.ok.inj h)
theorem soundT (SS : SoundS F n) (SE : SoundE F n) : SoundT F n := by
  intro k b g x y a p1 p2 p3 p4 p5 p C ρ μ fl ρ' μ' hn hx ha hl ho he K H Z as s Q E S P
  refine iteR he fun hμ he => ?_
  have hμ := List.isEmpty_iff.mp hμ
  subst hμ
  have has : as = [] := List.length_eq_zero_iff.mp S.c.len
  subst has
  refine wpAny_Try_except (tryR_v he (fun h => ?_) fun m h e => ?_)
  · refine execs_ok SS K H b ρ [] h Z [] s _ _ S fun Z₁ as₁ s₁ l₁ p₁ S₁ => ?_
    rcases fl with _ | v
    · exact wpAny_execs_nil (P.nx l₁ p₁ S₁)
    · exact P Z₁ as₁ s₁ l₁ p₁ S₁
  · cases e
    refine execs_E SS SE K H b ρ [] h Z [] s _ _ S fun Z₁ as₁ ρ₁ μ₁ s₁ e fl l₁ p₁ S₁ f₁ hfl => ?_
    obtain ⟨outer, hFs⟩ := H.fs
    have fin : ∀ h', St C Z₁ as₁ ρ₁ μ₁ { s₁ with heap := h' } → Fly C.G (C.L.fr :: C.L.cs) Z₁ as₁ μ₁ h' e m (.at .none) → wpAny (model pT C.w) C.A (handleBy (.ref e) C.env [.ExceptHandler (some (.Name g p1)) (some x) [.Return (some (.Attribute (.Name y p2) a p3)) p4] p5]) Q E { s₁ with heap := h' } := fun h' S' f' =>
      handle_ok K H S'.forget (f'.move fun x hx _ => ⟨hx.1, hx.2.1, hx.2.2.1, fun i p q h => nomatch h⟩) hn hx ha hl ho fun s' u S'' => P Z₁ [] s' l₁ (List.prefix_refl _) S'' _ (Rep.str _ _)
    rcases hfl with h | h | h
    · exact note_ok S₁ K f₁ (.inl h) hFs H.fr fun h' S' f' => flight_ok S' K f' none fun h'' S'' f'' => fin h'' S'' f''
    · exact note_ok S₁ K f₁ (.inr h) hFs H.fr fun h' S' f' => flight_ok S' K f' none fun h'' S'' f'' => fin h'' S'' f''
    · subst h
      exact again_ok f₁ H.fr (flight_ok S₁ K f₁ none fun h'' S'' f'' => fin h'' S'' f'')
end
end
section
open PySem PySem.W PyProof.Rows PySem.Calls PySem.Spec
structure SoundAll (F : Fn) (n : Nat) : Prop where
  x : SoundX F n
  b : SoundB F n
  s : SoundS F n
  c : SoundC F n
  e : SoundE F n
  ec : SoundEC F n
  bad : BadX F
theorem sound_all : ∀ n, SoundAll (evN tabK n) n
  | 0 => ⟨fun k e C ρ μ v μ' h => (nomatch h), fun k e C ρ μ v μ' h => (nomatch (show Res.no = Res.ok _ from h)), fun k e C ρ μ v μ' h1 h => (nomatch h), fun f vs μ v μ' h => (nomatch h), fun k e C ρ μ v h => (nomatch h), fun f vs m h => (nomatch h), fun ρ μ r h => (nomatch h)⟩
  | n + 1 =>
    let S := sound_all n
    ⟨stepX_ok tabK S.x S.b S.c S.bad, stepB_ok tabK S.x S.b S.c S.bad, stepS_ok tabK S.x S.b S.s (soundT S.s S.e) S.bad, soundC_step S.s, stepE_ok tabK S.x S.b S.s S.e S.ec S.bad, soundEC_step S.s S.e, fun ρ μ r h => (nomatch (show Res.no = Res.ok _ from h))⟩
theorem ints_rep {w : World} {Z : ZM} {vs : List Value} {ns : List Int} (h : IntsAre vs ns) : AlR (Rep w Z) vs (ns.map .int) := by
  induction h with
  | nil => exact .nil
  | cons => exact .cons (Rep.int _ _) (by assumption)
/-- the heap without the object at l -/
noncomputable def hF (h : Heap) (l : Addr) : Heap := h.update l fun o => { o with data := .freed }
theorem hF_self {h : Heap} {l : Addr} : (hF h l).get? l = none := by
  cases h
  simp only [hF, Heap.update, Heap.get?, Array.getElem?_modify]
  simp only [if_true]
  cases ‹Array Obj›[l]? <;> rfl
theorem hF_keep {h : Heap} {l : Addr} {ol : Obj} (hl : h.get? l = some ol) {b : Addr} {o : Obj} (ne : o ≠ ol) (e : h.get? b = some o) : (hF h l).get? b = some o := by
  have : b ≠ l := fun q => by rw [q, hl] at e; cases e; exact ne rfl
  unfold hF
  rw [Heap.get?_update_ne _ _ _ _ this]; exact e
theorem hF_old {h : Heap} {l b : Addr} {o : Obj} (e : (hF h l).get? b = some o) : b ≠ l ∧ h.get? b = some o := by
  have : b ≠ l := fun q => by rw [q, hF_self] at e; cases e
  refine ⟨this, ?_⟩
  unfold hF at e
  rw [Heap.get?_update_ne _ _ _ _ this] at e; exact e
theorem noLists (P : Params) : ((kAll P).all fun p => !(p.2.cls == .type "list")) = true := by kernel_rfl
theorem hF_gnd {w : World} {mg mb : Str → Option Value} {h : Heap} (G : Gnd w mg mb h) {l : Addr} {ol : Obj} {xs : Array Value} {n : Nat} (hl : h.get? l = some ol) (hc : ol.cls = .type "list") (hd : ol.data = .seq xs n) : Gnd w mg mb (hF h l) := by
  have ns : ∀ {a m}, h.Ns a m → (hF h l).Ns a m := fun {a m} ⟨o, es, ep, e, d, r⟩ => ⟨o, es, ep, hF_keep hl (fun q => by rw [q, hd] at d; cases d) e, d, r⟩
  refine ⟨ns G.g, ns G.b, let ⟨m, a, b⟩ := G.nolimit; ⟨m, ns a, b⟩, let ⟨m, a, b⟩ := G.nodigits; ⟨m, ns a, b⟩, G.builtins, fun a o e => hF_keep hl (fun q => ?_) (G.sys.inK a o e), fun p hp fd c h1 h2 => ?_, ?_⟩
  · have := List.all_eq_true.mp (noLists w.params) (a, o) (lookup_mem e)
    rw [q] at this
    simp [hc] at this
  · obtain ⟨c', o, vs, t, e1, e2, e3, e4⟩ := G.sys.codes p hp fd c h1 h2
    exact ⟨c', o, vs, t, e1, hF_keep hl (fun q => by rw [q, hd] at e3; cases e3) e2, e3, e4⟩
  · obtain ⟨o, e, r⟩ := G.sys.globs
    refine ⟨o, hF_keep hl (fun q => ?_) e, r⟩
    obtain ⟨p, hp, v, hv⟩ := gTab_has
    have := r p hp
    obtain ⟨c, d, dt, sl⟩ := o
    subst q
    dsimp only at hd
    subst hd
    rw [hv] at this
    cases this
theorem lawWalk (h : ∀ ns : List Int, ns.length ≤ 63 → ∃ μ', (evN tabK 300).call 955 [.c (.arr (ns.map .int))] [] = .ok (.c (.bool true), μ')) : LawWalk := by
  intro w s mg mb G hg l vs ns hL hI hn
  obtain ⟨μ', e⟩ := h ns hn
  obtain ⟨o, ho, hc, nn, hd⟩ := hL
  have K : Bx.Ok ⟨w, mg, mb, hF s.heap l, s.os, (hF s.heap l).get?, callerA, []⟩ 300 := ⟨hF_gnd G ho hc hd, fun _ _ e => e, ⟨rfl, rfl, (by decide : 1 + claimMargin + 2 * 300 + 40 < recursionLimit), (by decide : 4 + 12 * 300 + 200 < cLine)⟩, rfl, fun e m => by cases m⟩
  have S : Sc ⟨w, mg, mb, hF s.heap l, s.os, (hF s.heap l).get?, callerA, []⟩ (fun a => if a = l then some (.ex o) else none) [] [] s := by
    refine ⟨⟨fun a f e => ?_, fun a o e => .inl (hF_old e).2, fun a f e => ?_, fun a m => (nomatch m), rfl, fun i p q h => by simp at h, fun i p q h => by simp at h, fun i j p q p' q' _ h => by simp at h⟩, rfl, hg⟩
    · split at e
      · rename_i q; cases e; rw [q]; exact ho
      · cases e
    · split at e
      · rename_i q; rw [q]; exact hF_self
      · cases e
  have A := ints_rep (w := w) (Z := fun a => if a = l then some (.ex o) else none) hI
  have R : AlR (VRep w (fun a => if a = l then some (.ex o) else none) []) [.ref l] [.c (.arr (ns.map .int))] :=
    .cons (Rep.arr (a := l) (if_pos rfl) hc ⟨nn, hd⟩ A.1 A.2) .nil
  refine wpAny_call (codeAny_mono ((sound_all 300).c _ _ _ _ _ e _ K _ [] s [.ref l] S (Nat.le_of_eq (Heap.size_update _ _ _)) R _ fun Z' as' s' x hz _ S' r => ?_) fun r s' z => z)
  cases (show Rep w Z' x (.bool true) from r)
  refine ⟨rfl, fun b o' e => ?_, S'.os, S'.gens⟩
  by_cases q : b = l
  · subst q
    rw [ho] at e
    cases e
    exact S'.c.z _ _ (hz _ _ (if_pos rfl))
  · have e' : (hF s.heap l).get? b = some o' := by
      unfold hF
      rw [Heap.get?_update_ne _ _ _ _ q]; exact e
    exact (S'.c.g b o' e').low (Heap.lt_size e')
end
section
open PySem PySem.W
/-- __init__ -/
noncomputable def fd308 : Fd := ⟨4, [.none], 24, [.sat (.v 0) .kind (.v 1), .sat (.v 0) .items (.v 2), .sat (.v 0) .attrs (.v 3), .sat (.v 0) .shared (.k (.bool false)), .sat (.v 0) .loose (.k (.bool false))]⟩
theorem tab308 : tabK 308 = some fd308 := by kernel_rfl
/-- room -/
noncomputable def fd329 : Fd := ⟨1, [], 24, [.ife (.cmp .gt (.v 0) (.k (.int 1000000))) [.raise (.bin .add (.k (.str [99,97,110,110,111,116,32,97,108,108,111,99,97,116,101,32,118,101,99,116,111,114,32,111,102,32,108,101,110,103,116,104,32])) (.ite (.cmp .lt (.v 0) (.bin .pow (.k (.int 10)) (.k (.int 18)))) (.bi .str [(.v 0)]) (.k (.str [98,101,121,111,110,100,32,49,101,43,49,56]))))] [], .ret (.v 0)]⟩
theorem tab329 : tabK 329 = some fd329 := by kernel_rfl
/-- length -/
noncomputable def fd350 : Fd := ⟨1, [], 24, [.asg 1 (.at (.v 0) .kind), .ife (.cmp .eq (.v 1) (.k (.str [78,85,76,76]))) [.ret (.k (.int 0))] [], .ife (.or [(.bi .isinstance [(.v 0), (.k (.glo (.ref 318)))]), (.cmp .eq (.v 1) (.k (.str [108,97,110,103,117,97,103,101])))]) [.ret (.bi .len [(.at (.v 0) .items)])] [], .ife (.cmp .eq (.v 1) (.k (.str [101,110,118,105,114,111,110,109,101,110,116]))) [.ret (.bi .len [.bad])] [], .ife (.cmp .eq (.v 1) (.k (.str [100,111,116,115]))) [.ret (.bi .len [.bad])] [], .ret (.k (.int 1))]⟩
theorem tab350 : tabK 350 = some fd350 := by kernel_rfl
/-- is_vector -/
noncomputable def fd357 : Fd := ⟨1, [], 24, [.ret (.bi .isinstance [(.v 0), (.k (.glo (.ref 318)))])]⟩
theorem tab357 : tabK 357 = some fd357 := by kernel_rfl
/-- share -/
noncomputable def fd371 : Fd := ⟨1, [], 24, [.ife (.bi .isinstance [(.v 0), (.k (.glo (.ref 318)))]) [.sat (.v 0) .shared (.k (.bool true))] [], .ret (.v 0)]⟩
theorem tab371 : tabK 371 = some fd371 := by kernel_rfl
/-- new_frame -/
noncomputable def fd689 : Fd := ⟨3, [], 24, [.asg 3 (.cl 318 [(.k (.str [108,105,115,116])), (.comp 4 [4] false (.v 0) [] (.fn 371 [(.v 4)]))]), .sat (.v 3) .attrs (.dict [[110,97,109,101,115], [99,108,97,115,115], [114,111,119,46,110,97,109,101,115]] [(.fn 343 [(.v 1)]), (.fn 343 [(.list [(.k (.str [100,97,116,97,46,102,114,97,109,101]))])]), (.v 2)]), .ret (.v 3)]⟩
theorem tab689 : tabK 689 = some fd689 := by kernel_rfl
/-- plain_rows -/
noncomputable def fd696 : Fd := ⟨1, [], 24, [.ret (.fn 336 [(.bi .tlist [(.bi .range [(.k (.int 1)), (.bin .add (.v 0) (.k (.int 1)))])])])]⟩
theorem tab696 : tabK 696 = some fd696 := by kernel_rfl
/-- frame_rows -/
noncomputable def fd703 : Fd := ⟨1, [], 24, [.ife (.or [(.cmp .is (.at (.v 0) .attrs) (.k .none)), (.cmp .notin (.k (.str [114,111,119,46,110,97,109,101,115])) (.at (.v 0) .attrs))]) [.ret (.k (.int 0))] [], .ret (.bi .len [(.at (.ix (.at (.v 0) .attrs) (.k (.str [114,111,119,46,110,97,109,101,115]))) .items)])]⟩
theorem tab703 : tabK 703 = some fd703 := by kernel_rfl
/-- column_names -/
noncomputable def fd708 : Fd := ⟨1, [], 24, [.asg 1 (.fn 402 [(.v 0)]), .ret (.ite (.cmp .is (.v 1) (.k .none)) (.list []) (.comp 2 [2] false (.v 1) [] (.ite (.cmp .is (.v 2) (.k .none)) (.k (.str [78,65])) (.v 2))))]⟩
theorem tab708 : tabK 708 = some fd708 := by kernel_rfl
/-- kept_attrs -/
noncomputable def fd715 : Fd := ⟨1, [], 24, [.ife (.cmp .is (.at (.v 0) .attrs) (.k .none)) [.ret (.k .none)] [], .asg 1 (.dict [] []), .for_ [2] false (.at (.v 0) .attrs) [.ife (.cmp .notin (.v 2) (.tup [(.k (.str [110,97,109,101,115])), (.k (.str [100,105,109])), (.k (.str [100,105,109,110,97,109,101,115]))])) [.six (.v 1) (.v 2) (.ix (.at (.v 0) .attrs) (.v 2))] []], .ret (.ite (.cmp .gt (.bi .len [(.v 1)]) (.k (.int 0))) (.v 1) (.k .none))]⟩
theorem tab715 : tabK 715 = some fd715 := by kernel_rfl
/-- pick_items -/
noncomputable def fd729 : Fd := ⟨2, [], 24, [.asg 2 (.list []), .asg 3 (.bi .len [(.at (.v 0) .items)]), .for_ [4] false (.v 1) [.ife (.or [(.cmp .is (.v 4) (.k .none)), (.cmp .ge (.v 4) (.v 3))]) [.ex (.mt .append (.v 2) [.bad])] [.ex (.mt .append (.v 2) [(.ix (.at (.v 0) .items) (.v 4))])]], .ret (.cl 318 [(.at (.v 0) .kind), (.v 2), (.fn 715 [(.v 0)])])]⟩
theorem tab729 : tabK 729 = some fd729 := by kernel_rfl
/-- is_lacking -/
noncomputable def fd750 : Fd := ⟨2, [], 24, [.ret (.or [(.cmp .is (.v 1) (.k .none)), (.and [(.cmp .eq (.v 0) (.k (.str [100,111,117,98,108,101]))), (.cmp .eq (.v 1) (.tup [(.k (.int 0)), (.k (.int 0))]))])])]⟩
theorem tab750 : tabK 750 = some fd750 := by kernel_rfl
/-- compare_items -/
noncomputable def fd757 : Fd := ⟨3, [], 24, [.ife (.cmp .eq (.v 0) (.k (.str [100,111,117,98,108,101]))) [.ret .bad] [], .ife (.cmp .lt (.v 1) (.v 2)) [.ret (.neg (.k (.int 1)))] [], .ife (.cmp .gt (.v 1) (.v 2)) [.ret (.k (.int 1))] [], .ret (.k (.int 0))]⟩
theorem tab757 : tabK 757 = some fd757 := by kernel_rfl
/-- check_sortable -/
noncomputable def fd764 : Fd := ⟨1, [], 24, [.ife (.cmp .notin (.at (.v 0) .kind) (.tup [(.k (.str [108,111,103,105,99,97,108])), (.k (.str [105,110,116,101,103,101,114])), (.k (.str [100,111,117,98,108,101])), (.k (.str [99,104,97,114,97,99,116,101,114]))])) [.raise (.fs [.inl [117,110,105,109,112,108,101,109,101,110,116,101,100,32,116,121,112,101,32,39], .inr (.at (.v 0) .kind), .inl [39,32,105,110,32,39,111,114,100,101,114,86,101,99,116,111,114,49,39]])] []]⟩
theorem tab764 : tabK 764 = some fd764 := by kernel_rfl
/-- compare_places -/
noncomputable def fd771 : Fd := ⟨5, [], 24, [.asg 5 (.ix (.at (.v 0) .items) (.v 1)), .asg 6 (.ix (.at (.v 0) .items) (.v 2)), .asg 7 (.fn 750 [(.at (.v 0) .kind), (.v 5)]), .asg 8 (.fn 750 [(.at (.v 0) .kind), (.v 6)]), .ife (.and [(.v 7), (.v 8)]) [.ret (.k (.int 0))] [], .ife (.v 7) [.ret (.ite (.v 4) (.k (.int 1)) (.neg (.k (.int 1))))] [], .ife (.v 8) [.ret (.ite (.v 4) (.neg (.k (.int 1))) (.k (.int 1)))] [], .asg 9 (.fn 757 [(.at (.v 0) .kind), (.v 5), (.v 6)]), .ret (.ite (.v 3) (.neg (.v 9)) (.v 9))]⟩
theorem tab771 : tabK 771 = some fd771 := by kernel_rfl
/-- compare_keys -/
noncomputable def fd778 : Fd := ⟨5, [], 24, [.for_ [5] false (.bi .range [(.bi .len [(.v 0)])]) [.asg 6 (.fn 771 [(.ix (.v 0) (.v 5)), (.v 1), (.v 2), (.ix (.v 3) (.v 5)), (.v 4)]), .ife (.cmp .ne (.v 6) (.k (.int 0))) [.ret (.v 6)] []], .ret (.k (.int 0))]⟩
theorem tab778 : tabK 778 = some fd778 := by kernel_rfl
/-- merge_runs -/
noncomputable def fd785 : Fd := ⟨5, [], 24, [.asg 5 (.list []), .asg 6 (.k (.int 0)), .asg 7 (.k (.int 0)), .whl (.and [(.cmp .lt (.v 6) (.bi .len [(.v 0)])), (.cmp .lt (.v 7) (.bi .len [(.v 1)]))]) [.ife (.cmp .le (.fn 778 [(.v 2), (.ix (.v 0) (.v 6)), (.ix (.v 1) (.v 7)), (.v 3), (.v 4)]) (.k (.int 0))) [.ex (.mt .append (.v 5) [(.ix (.v 0) (.v 6))]), .aug 6 .add (.k (.int 1))] [.ex (.mt .append (.v 5) [(.ix (.v 1) (.v 7))]), .aug 7 .add (.k (.int 1))]], .ret (.bin .add (.bin .add (.v 5) (.sl (.v 0) (some (.v 6)) none)) (.sl (.v 1) (some (.v 7)) none))]⟩
theorem tab785 : tabK 785 = some fd785 := by kernel_rfl
/-- merge_sort -/
noncomputable def fd790 : Fd := ⟨4, [], 24, [.asgC 4 (.comp 7 [7] false (.v 0) [] (.list [(.v 7)])), .ife (.cmp .eq (.bi .len [(.v 4)]) (.k (.int 0))) [.ret (.list [])] [], .whl (.cmp .gt (.bi .len [(.v 4)]) (.k (.int 1))) [.asg 5 (.list []), .for_ [6] false (.bi .range [(.k (.int 0)), (.bin .sub (.bi .len [(.v 4)]) (.k (.int 1))), (.k (.int 2))]) [.ex (.mt .append (.v 5) [(.fn 785 [(.ix (.v 4) (.v 6)), (.ix (.v 4) (.bin .add (.v 6) (.k (.int 1)))), (.v 1), (.v 2), (.v 3)])])], .ife (.cmp .eq (.bin .mod (.bi .len [(.v 4)]) (.k (.int 2))) (.k (.int 1))) [.ex (.mt .append (.v 5) [(.ix (.v 4) (.neg (.k (.int 1))))])] [], .asg 4 (.v 5)], .ret (.ix (.v 4) (.k (.int 0)))]⟩
theorem tab790 : tabK 790 = some fd790 := by kernel_rfl
/-- each_key -/
noncomputable def fd795 : Fd := ⟨2, [], 24, [.ife (.bi .isinstance [(.v 0), (.k (.glo (.type "list")))]) [.ret (.comp 2 [2] false (.bi .range [(.v 1)]) [] (.ix (.v 0) (.bin .mod (.v 2) (.bi .len [(.v 0)]))))] [], .ret (.bin .mul (.list [(.v 0)]) (.v 1))]⟩
theorem tab795 : tabK 795 = some fd795 := by kernel_rfl
/-- kept_places -/
noncomputable def fd802 : Fd := ⟨2, [], 24, [.asg 2 (.list []), .for_ [3] false (.bi .range [(.fn 350 [(.ix (.v 0) (.k (.int 0)))])]) [.asg 4 (.k (.bool true)), .ife (.cmp .is (.v 1) (.k .none)) [.for_ [5] false (.v 0) [.ife (.fn 750 [(.at (.v 5) .kind), (.ix (.at (.v 5) .items) (.v 3))]) [.asg 4 (.k (.bool false))] []]] [], .ife (.v 4) [.ex (.mt .append (.v 2) [(.v 3)])] []], .ret (.v 2)]⟩
theorem tab802 : tabK 802 = some fd802 := by kernel_rfl
/-- order_by -/
noncomputable def fd810 : Fd := ⟨3, [(.bool false), (.bool true)], 24, [.ife (.cmp .eq (.bi .len [(.v 0)]) (.k (.int 0))) [.ret (.list [])] [], .for_ [3] false (.v 0) [.ex (.fn 764 [(.v 3)]), .ife (.cmp .ne (.fn 350 [(.v 3)]) (.fn 350 [(.ix (.v 0) (.k (.int 0)))])) [.raise (.k (.str [97,114,103,117,109,101,110,116,32,108,101,110,103,116,104,115,32,100,105,102,102,101,114]))] []], .asg 4 (.fn 795 [(.v 1), (.bi .len [(.v 0)])]), .ret (.fn 790 [(.fn 802 [(.v 0), (.v 2)]), (.v 0), (.v 4), (.or [(.cmp .is (.v 2) (.k .none)), (.v 2)])])]⟩
theorem tab810 : tabK 810 = some fd810 := by kernel_rfl
/-- as_key -/
noncomputable def fd834 : Fd := ⟨2, [], 24, [.ife (.and [(.cmp .eq (.at (.v 0) .kind) (.k (.str [108,111,103,105,99,97,108]))), (.not (.fn 670 [(.v 1)])), (.cmp .isin (.at (.v 1) .kind) (.tup [(.k (.str [105,110,116,101,103,101,114])), (.k (.str [100,111,117,98,108,101]))]))]) [.ret (.cl 318 [(.k (.str [105,110,116,101,103,101,114])), (.at (.v 0) .items)])] [], .ret (.v 0)]⟩
theorem tab834 : tabK 834 = some fd834 := by kernel_rfl
/-- row_keys -/
noncomputable def fd839 : Fd := ⟨2, [], 24, [.asgC 2 (.comp 5 [5] false (.v 0) [] (.fn 827 [(.v 5)])), .asg 3 (.list []), .for_ [4] false (.bi .range [(.v 1)]) [.ex (.mt .append (.v 3) [(.mt .join (.k (.str [])) [(.comp 5 [5] false (.v 2) [] (.fs [.inr (.bi .len [(.ix (.v 5) (.v 4))]), .inl [58], .inr (.ix (.v 5) (.v 4))]))])])], .ret (.v 3)]⟩
theorem tab839 : tabK 839 = some fd839 := by kernel_rfl
/-- matched_pairs -/
noncomputable def fd853 : Fd := ⟨2, [], 24, [.asg 2 (.dict [] []), .for_ [3] false (.bi .range [(.bi .len [(.v 1)])]) [.ex (.mt .append (.mt .setdefault (.v 2) [(.ix (.v 1) (.v 3)), (.list [])]) [(.v 3)])], .asg 4 (.list []), .for_ [3] false (.bi .range [(.bi .len [(.v 0)])]) [.asg 5 (.mt .get (.v 2) [(.ix (.v 0) (.v 3)), (.list [])]), .ex (.fn 329 [(.bin .add (.bi .len [(.v 4)]) (.bi .len [(.v 5)]))]), .for_ [6] false (.v 5) [.ex (.mt .append (.v 4) [(.tup [(.v 3), (.v 6)])])]], .ret (.v 4)]⟩
theorem tab853 : tabK 853 = some fd853 := by kernel_rfl
/-- merged_pairs -/
noncomputable def fd872 : Fd := ⟨4, [], 24, [.asg 4 (.fn 853 [(.v 0), (.v 1)]), .ife (.v 2) [.for_ [5] false .bad [.ex (.mt .append (.v 4) [(.tup [(.v 5), (.k .none)])])]] [], .ife (.v 3) [.for_ [5] false .bad [.ex (.mt .append (.v 4) [(.tup [(.k .none), (.v 5)])])]] [], .ret (.v 4)]⟩
theorem tab872 : tabK 872 = some fd872 := by kernel_rfl
/-- key_column -/
noncomputable def fd877 : Fd := ⟨3, [], 24, [.ife (.cmp .eq (.bi .len [(.comp 8 [8,9] true (.v 2) [(.cmp .is (.v 8) (.k .none))] (.v 8))]) (.k (.int 0))) [.ret (.fn 729 [(.v 0), (.comp 8 [8,9] true (.v 2) [] (.v 8))])] [], .asg 5 .bad, .asg 6 (.bi .len [(.at (.v 0) .items)]), .asg 7 (.list []), .for_ [3,4] true (.v 2) [.ex (.mt .append (.v 7) [(.ite (.cmp .is (.v 3) (.k .none)) (.bin .add (.v 6) (.v 4)) (.v 3))])], .ret (.fn 729 [(.v 5), (.v 7)])]⟩
theorem tab877 : tabK 877 = some fd877 := by kernel_rfl
/-- other_names -/
noncomputable def fd884 : Fd := ⟨4, [], 24, [.asg 4 (.list []), .for_ [5] false (.v 0) [.ife (.cmp .notin (.v 5) (.v 2)) [.ex (.mt .append (.v 4) [(.ite (.cmp .isin (.v 5) (.v 1)) (.bin .add (.v 5) (.v 3)) (.v 5))])] []], .ret (.v 4)]⟩
theorem tab884 : tabK 884 = some fd884 := by kernel_rfl
/-- sort_key -/
noncomputable def fd891 : Fd := ⟨1, [], 24, [.ret (.cl 318 [(.at (.v 0) .kind), (.at (.v 0) .items)])]⟩
theorem tab891 : tabK 891 = some fd891 := by kernel_rfl
/-- merge_order -/
noncomputable def fd896 : Fd := ⟨2, [], 24, [.ife (.or [(.v 1), (.and [(.cmp .eq (.bi .len [(.v 0)]) (.k (.int 1))), (.not (.fn 670 [(.ix (.v 0) (.k (.int 0)))]))])]) [.ret (.comp 6 [6] false (.v 0) [] (.fn 891 [(.v 6)]))] [], .ife (.cmp .eq (.bi .len [(.v 0)]) (.k (.int 1))) [.ret (.list [(.fn 343 [(.fn 397 [(.ix (.v 0) (.k (.int 0)))])])])] [], .asg 2 (.list []), .asgC 3 (.comp 6 [6] false (.v 0) [] (.fn 397 [(.v 6)])), .for_ [4] false (.bi .range [(.bi .len [(.at (.ix (.v 0) (.k (.int 0))) .items)])]) [.asgC 5 (.comp 6 [6] false (.v 3) [] (.ix (.v 6) (.v 4))), .ex (.mt .append (.v 2) [(.mt .join (.k (.str [13])) [(.comp 6 [6] false (.v 5) [] (.ite (.cmp .is (.v 6) (.k .none)) (.k (.str [78,65])) (.v 6)))])])], .ret (.list [(.fn 343 [(.v 2)])])]⟩
theorem tab896 : tabK 896 = some fd896 := by kernel_rfl
/-- merge_frames -/
noncomputable def fd902 : Fd := ⟨7, [(.bool true)], 24, [.asg 7 (.fn 846 [(.v 0), (.v 2)]), .asg 8 (.fn 846 [(.v 1), (.v 2)]), .ife (.cmp .eq (.bi .len [(.v 2)]) (.k (.int 0))) [.asg 9 .bad] [.asgC 11 (.comp 21 [21] false (.v 7) [] (.ix (.at (.v 0) .items) (.v 21))), .asgC 12 (.comp 21 [21] false (.v 8) [] (.ix (.at (.v 1) .items) (.v 21))), .asg 14 (.fn 839 [(.comp 21 [21] false (.bi .range [(.bi .len [(.v 2)])]) [] (.fn 834 [(.ix (.v 11) (.v 21)), (.ix (.v 12) (.v 21))])), (.fn 703 [(.v 0)])]), .asg 15 (.fn 839 [(.comp 21 [21] false (.bi .range [(.bi .len [(.v 2)])]) [] (.fn 834 [(.ix (.v 12) (.v 21)), (.ix (.v 11) (.v 21))])), (.fn 703 [(.v 1)])]), .asg 9 (.fn 872 [(.v 14), (.v 15), (.v 3), (.v 4)])], .asg 16 (.list []), .for_ [13] false (.bi .range [(.bi .len [(.v 2)])]) [.ex (.mt .append (.v 16) [(.fn 877 [(.ix (.at (.v 0) .items) (.ix (.v 7) (.v 13))), (.ix (.at (.v 1) .items) (.ix (.v 8) (.v 13))), (.v 9)])])], .ife (.and [(.cmp .gt (.bi .len [(.v 2)]) (.k (.int 0))), (.v 6)]) [.asg 17 (.fn 810 [(.fn 896 [(.v 16), (.or [(.v 3), (.v 4)])])]), .asgC 9 (.comp 21 [21] false (.v 17) [] (.ix (.v 9) (.v 21))), .asgC 16 (.comp 21 [21] false (.v 16) [] (.fn 729 [(.v 21), (.v 17)]))] [], .asg 18 (.fn 708 [(.v 0)]), .asg 19 (.fn 708 [(.v 1)]), .for_ [10] false (.bi .range [(.bi .len [(.v 18)])]) [.ife (.cmp .notin (.v 10) (.v 7)) [.ex (.mt .append (.v 16) [(.fn 729 [(.ix (.at (.v 0) .items) (.v 10)), (.comp 21 [21] false (.v 9) [] (.ix (.v 21) (.k (.int 0))))])])] []], .for_ [10] false (.bi .range [(.bi .len [(.v 19)])]) [.ife (.cmp .notin (.v 10) (.v 8)) [.ex (.mt .append (.v 16) [(.fn 729 [(.ix (.at (.v 1) .items) (.v 10)), (.comp 21 [21] false (.v 9) [] (.ix (.v 21) (.k (.int 1))))])])] []], .asg 20 (.bin .add (.bi .tlist [(.v 2)]) (.fn 884 [(.v 18), (.v 19), (.v 2), (.ix (.v 5) (.k (.int 0)))])), .asg 20 (.bin .add (.v 20) (.fn 884 [(.v 19), (.v 18), (.v 2), (.ix (.v 5) (.k (.int 1)))])), .ret (.fn 689 [(.v 16), (.v 20), (.fn 696 [(.bi .len [(.v 9)])])])]⟩
theorem tab902 : tabK 902 = some fd902 := by kernel_rfl
/-- b_merge -/
noncomputable def fd926 : Fd := ⟨3, [], 24, [.asg 3 (.list [(.k (.str [120])), (.k (.str [121])), (.k (.str [98,121])), (.k (.str [98,121,46,120])), (.k (.str [98,121,46,121])), (.k (.str [97,108,108])), (.k (.str [97,108,108,46,120])), (.k (.str [97,108,108,46,121])), (.k (.str [115,111,114,116])), (.k (.str [115,117,102,102,105,120,101,115]))]), .asgT [4,5,6,7,8,9,10,11,12,13] (.fn 527 [(.v 1), (.v 3)]), .asg 4 (.fn 736 [(.v 4), (.k (.str [120]))]), .asg 5 (.fn 736 [(.v 5), (.k (.str [121]))]), .asg 14 (.ite (.or [(.cmp .is (.v 13) (.k .none)), (.not (.fn 364 [(.v 13)]))]) (.list [(.k (.str [46,120])), (.k (.str [46,121]))]) (.fn 397 [(.v 13)])), .ife (.or [(.cmp .ne (.bi .len [(.v 14)]) (.k (.int 2))), (.cmp .isin (.k .none) (.v 14))]) [.raise (.k (.str [39,115,117,102,102,105,120,101,115,39,32,109,117,115,116,32,98,101,32,97,32,99,104,97,114,97,99,116,101,114,32,118,101,99,116,111,114,32,111,102,32,108,101,110,103,116,104,32,50]))] [], .asg 15 (.fn 907 [(.v 4), (.v 5)]), .asg 16 (.ite (.cmp .is (.v 7) (.k .none)) (.v 6) (.v 7)), .asg 17 (.fn 743 [(.ite (.cmp .is (.v 16) (.k .none)) (.v 15) (.fn 912 [(.v 16), (.v 4)]))]), .asg 16 (.ite (.cmp .is (.v 8) (.k .none)) (.v 6) (.v 8)), .asg 18 (.fn 743 [(.ite (.cmp .is (.v 16) (.k .none)) (.v 15) (.fn 912 [(.v 16), (.v 5)]))]), .ife (.cmp .ne (.bi .len [(.v 17)]) (.bi .len [(.v 18)])) [.raise (.k (.str [39,98,121,46,120,39,32,97,110,100,32,39,98,121,46,121,39,32,115,112,101,99,105,102,121,32,100,105,102,102,101,114,101,110,116,32,110,117,109,98,101,114,115,32,111,102,32,99,111,108,117,109,110,115]))] [], .ife (.cmp .ne (.v 17) (.v 18)) [.asg 5 (.fn 919 [(.v 5), (.v 18), (.v 17), (.ix (.v 14) (.k (.int 1)))])] [], .asg 19 (.fn 656 [(.v 9), (.k (.bool false))]), .ret (.fn 902 [(.v 4), (.v 5), (.v 17), (.fn 656 [(.v 10), (.v 19)]), (.fn 656 [(.v 11), (.v 19)]), (.v 14), (.fn 656 [(.v 12), (.k (.bool true))])])]⟩
theorem tab926 : tabK 926 = some fd926 := by kernel_rfl
/-- _law_seedlings -/
noncomputable def fd933 : Fd := ⟨1, [], 24, [.asg 1 (.list []), .for_ [2] false (.sl (.v 0) none (some (.k (.int 16)))) [.ex (.mt .append (.v 1) [(.bin .mod (.bi .abs [(.bi .int [(.v 2)])]) (.k (.int 2310)))])], .asg 3 (.bin .add (.k (.int 12)) (.bi .len [(.v 1)])), .whl (.cmp .lt (.bi .len [(.v 1)]) (.k (.int 16))) [.asg 3 (.bin .mod (.bin .add (.bin .mul (.v 3) (.k (.int 59))) (.k (.int 503))) (.k (.int 2309))), .ex (.mt .append (.v 1) [(.v 3)])], .ret (.v 1)]⟩
theorem tab933 : tabK 933 = some fd933 := by kernel_rfl
/-- _law_frame -/
noncomputable def fd938 : Fd := ⟨4, [], 24, [.asg 4 (.ite (.v 3) (.cl 318 [(.k (.str [99,104,97,114,97,99,116,101,114])), (.comp 5 [5] false (.v 0) [] (.bin .add (.k (.str [107])) (.bi .str [(.v 5)])))]) (.cl 318 [(.k (.str [105,110,116,101,103,101,114])), (.bi .tlist [(.v 0)])])), .ret (.fn 689 [(.list [(.v 4), (.cl 318 [(.k (.str [105,110,116,101,103,101,114])), (.bi .tlist [(.v 1)])])]), (.bi .tlist [(.v 2)]), (.cl 318 [(.k (.str [105,110,116,101,103,101,114])), (.bi .tlist [(.bi .range [(.k (.int 1)), (.bin .add (.bi .len [(.v 0)]) (.k (.int 1)))])])])])]⟩
theorem tab938 : tabK 938 = some fd938 := by kernel_rfl
/-- _law_asked -/
noncomputable def fd945 : Fd := ⟨1, [], 24, [.tryM [.ret (.fn 926 [(.k .none), (.v 0), (.k .none)])]]⟩
theorem tab945 : tabK 945 = some fd945 := by kernel_rfl
/-- _law_lines -/
noncomputable def fd950 : Fd := ⟨1, [], 24, [.ret (.bi .sorted [(.comp 1 [1] false (.bi .range [(.bi .len [(.at (.ix (.at (.v 0) .items) (.k (.int 0))) .items)])]) [] (.bi .str [(.comp 2 [2] false (.at (.v 0) .items) [] (.ix (.at (.v 2) .items) (.v 1)))]))])]⟩
theorem tab950 : tabK 950 = some fd950 := by kernel_rfl
/-- law -/
noncomputable def fd955 : Fd := ⟨1, [], 24, [.asg 1 (.fn 933 [(.v 0)]), .asgC 3 (.comp 23 [23] false (.bi .range [(.bin .mod (.ix (.v 1) (.k (.int 0))) (.k (.int 5)))]) [] (.bin .mod (.ix (.v 1) (.bin .add (.k (.int 1)) (.v 23))) (.k (.int 3)))), .asgC 4 (.comp 23 [23] false (.bi .range [(.bin .mod (.ix (.v 1) (.k (.int 5))) (.k (.int 5)))]) [] (.bin .mod (.ix (.v 1) (.bin .add (.k (.int 6)) (.v 23))) (.k (.int 3)))), .asg 5 (.cmp .eq (.bin .mod (.ix (.v 1) (.k (.int 10))) (.k (.int 2))) (.k (.int 1))), .asg 6 (.cmp .eq (.bin .mod (.ix (.v 1) (.k (.int 11))) (.k (.int 2))) (.k (.int 1))), .asgC 7 (.comp 23 [23] false (.bi .range [(.bi .len [(.v 3)])]) [] (.bin .add (.k (.int 10)) (.v 23))), .asgC 8 (.comp 23 [23] false (.bi .range [(.bi .len [(.v 4)])]) [] (.bin .add (.k (.int 20)) (.v 23))), .asg 9 (.fn 938 [(.v 3), (.v 7), (.list [(.k (.str [97])), (.k (.str [118]))]), (.v 5)]), .asg 10 (.fn 938 [(.v 4), (.v 8), (.list [(.k (.str [98])), (.ite (.v 6) (.k (.str [97])) (.k (.str [119])))]), (.v 5)]), .asg 11 (.list []), .for_ [2] false (.bi .range [(.bi .len [(.v 3)])]) [.for_ [12] false (.bi .range [(.bi .len [(.v 4)])]) [.ife (.cmp .eq (.ix (.v 3) (.v 2)) (.ix (.v 4) (.v 12))) [.asg 13 (.ite (.v 5) (.bin .add (.k (.str [107])) (.bi .str [(.ix (.v 3) (.v 2))])) (.ix (.v 3) (.v 2))), .ex (.mt .append (.v 11) [(.bi .str [(.list [(.v 13), (.ix (.v 7) (.v 2)), (.ix (.v 8) (.v 12))])])])] []]], .asg 14 (.fn 945 [(.list [(.tup [(.k .none), (.v 9)]), (.tup [(.k .none), (.v 10)]), (.tup [(.k (.str [98,121,46,120])), (.fn 343 [(.list [(.k (.str [97]))])])]), (.tup [(.k (.str [98,121,46,121])), (.fn 343 [(.list [(.k (.str [98]))])])])])]), .ife (.or [(.cmp .ne (.at (.ix (.at (.v 14) .attrs) (.k (.str [110,97,109,101,115]))) .items) (.list [(.k (.str [97])), (.k (.str [118])), (.ite (.v 6) (.k (.str [97,46,121])) (.k (.str [119])))])), (.cmp .ne (.fn 950 [(.v 14)]) (.bi .sorted [(.v 11)]))]) [.ret (.k (.bool false))] [], .asg 15 (.fn 945 [(.list [(.tup [(.k .none), (.v 9)]), (.tup [(.k .none), (.v 10)]), (.tup [(.k (.str [98,121,46,120])), (.fn 343 [(.list [(.k (.str [97])), (.k (.str [97]))])])]), (.tup [(.k (.str [98,121,46,121])), (.fn 343 [(.list [(.k (.str [98])), (.k (.str [98])), (.k (.str [98]))])])])])]), .ife (.or [(.cmp .ne (.fn 950 [(.v 15)]) (.bi .sorted [(.v 11)])), (.cmp .ne (.at (.ix (.at (.v 15) .attrs) (.k (.str [110,97,109,101,115]))) .items) (.at (.ix (.at (.v 14) .attrs) (.k (.str [110,97,109,101,115]))) .items))]) [.ret (.k (.bool false))] [], .asg 16 (.fn 938 [(.v 4), (.v 8), (.list [(.k (.str [97])), (.k (.str [119]))]), (.v 5)]), .for_ [17] false (.list [(.list [(.tup [(.k (.str [98,121,46,120])), (.fn 343 [(.list [(.k (.str [97]))])])])]), (.list [(.tup [(.k (.str [98,121,46,121])), (.fn 343 [(.list [(.k (.str [97]))])])])]), (.list [(.tup [(.k (.str [98,121])), (.fn 343 [(.list [(.k (.str [97])), (.k (.str [97]))])])])]), (.list [])]) [.asg 18 (.fn 945 [(.bin .add (.list [(.tup [(.k .none), (.v 9)]), (.tup [(.k .none), (.v 16)])]) (.v 17))]), .ife (.or [(.cmp .ne (.at (.ix (.at (.v 18) .attrs) (.k (.str [110,97,109,101,115]))) .items) (.list [(.k (.str [97])), (.k (.str [118])), (.k (.str [119]))])), (.cmp .ne (.fn 950 [(.v 18)]) (.bi .sorted [(.v 11)]))]) [.ret (.k (.bool false))] []], .asg 19 (.fn 938 [(.v 4), (.v 8), (.list [(.k (.str [97])), (.k (.str [118]))]), (.v 5)]), .ife (.cmp .ne (.fn 945 [(.list [(.tup [(.k .none), (.v 9)]), (.tup [(.k .none), (.v 19)]), (.tup [(.k (.str [98,121,46,120])), (.fn 343 [(.list [(.k (.str [97]))])])])])]) (.k (.str [39,98,121,46,120,39,32,97,110,100,32,39,98,121,46,121,39,32,115,112,101,99,105,102,121,32,100,105,102,102,101,114,101,110,116,32,110,117,109,98,101,114,115,32,111,102,32,99,111,108,117,109,110,115]))) [.ret (.k (.bool false))] [], .ife (.cmp .ne (.fn 945 [(.list [(.tup [(.k .none), (.v 9)]), (.tup [(.k .none), (.v 10)]), (.tup [(.k (.str [98,121,46,120])), (.fn 343 [(.list [(.k (.str [97]))])])]), (.tup [(.k (.str [98,121,46,121])), (.fn 343 [(.list [(.k (.str [113]))])])])])]) (.k (.str [39,98,121,39,32,109,117,115,116,32,115,112,101,99,105,102,121,32,97,32,117,110,105,113,117,101,108,121,32,118,97,108,105,100,32,99,111,108,117,109,110]))) [.ret (.k (.bool false))] [], .asg 20 (.fn 689 [(.list [(.cl 318 [(.k (.str [99,104,97,114,97,99,116,101,114])), (.comp 23 [23] false (.v 4) [] (.bi .str [(.v 23)]))])]), (.list [(.k (.str [97]))]), (.cl 318 [(.k (.str [105,110,116,101,103,101,114])), (.bi .tlist [(.bi .range [(.k (.int 1)), (.bin .add (.bi .len [(.v 4)]) (.k (.int 1)))])])])]), .asg 21 (.fn 938 [(.v 3), (.v 7), (.list [(.k (.str [97])), (.k (.str [118]))]), (.k (.bool false))]), .asg 22 (.fn 945 [(.list [(.tup [(.k .none), (.v 21)]), (.tup [(.k .none), (.v 20)])])]), .ret (.cmp .eq (.at (.ix (.at (.v 22) .items) (.k (.int 0))) .kind) (.k (.str [105,110,116,101,103,101,114])))]⟩
theorem tab955 : tabK 955 = some fd955 := by kernel_rfl
/-! ## the evaluator's words, as rules -/
noncomputable def E (n : Nat) : Fn := evN tabK n
/-- a call of the text's function, seen from outside -/
@[irreducible] noncomputable def cl (n : Nat) (f : Addr) (ds : List D) : Res D := ((E n).call f (ds.map .c) []).bind fun p => (frz p.2 p.1).bind fun q => .ok q.1
noncomputable def flV : Fl → V | .nxt => .c .none | .ret v => v
theorem fits_of {l : List D} (h : l.length ≤ 1000000) : fits l = true := decide_eq_true h
section
variable {n : Nat} {ρ ρ' ρ₁ ρ₂ : Ev} {μ μ₁ μ₂ μ₃ : Mu}
theorem bindOk {α β : Type} {r : Res α} {f : α → Res β} {a : α} {b : Res β} (h : r = .ok a) (k : f a = b) : r.bind f = b := by rw [h]; exact k
theorem cl_of {f : Addr} {ds : List D} {fd : Fd} {fl : Fl} {d : D} (ht : tabK f = some fd) (ha : fd.args (ds.map .c) = some ρ) (hb : evSs (E n) ρ [] fd.body = .ok (fl, ρ₁, μ₁)) (hf : frz μ₁ (flV fl) = .ok (d, μ₂)) : cl (n + 1) f ds = .ok d := by
  unfold cl
  refine bindOk (a := (flV fl, μ₁)) ?_ (bindOk hf rfl)
  show (match tabK f with | some fd => callF (E n) fd (ds.map .c) [] | none => .no) = _
  rw [ht]
  show callF _ _ _ _ = _
  unfold callF
  rw [ha]
  dsimp only
  rw [hb]
  cases fl <;> rfl
/-! statements -/
noncomputable def nextS (n : Nat) (r : List S) (f : Fl) (ρ : Ev) (μ : Mu) : Res (Fl × Ev × Mu) := match f with | .nxt => evSs (E n) ρ μ r | f => .ok (f, ρ, μ)
theorem ss_nil : evSs (E n) ρ μ [] = .ok (.nxt, ρ, μ) := rfl
theorem ss_cons {s : S} {r : List S} {f : Fl} {res} (h1 : (E n).s ρ μ s = .ok (f, ρ₁, μ₁)) (h2 : nextS n r f ρ₁ μ₁ = .ok res) : evSs (E n) ρ μ (s :: r) = .ok res := by
  rw [evSs, h1]; exact h2
theorem next_n {r : List S} {res} (h : evSs (E n) ρ μ r = .ok res) : nextS n r .nxt ρ μ = .ok res := h
theorem next_r {r : List S} {v : V} : nextS n r (.ret v) ρ μ = .ok (.ret v, ρ, μ) := rfl
theorem s_asg {i : Nat} {e : X} {v : V} (h : (E n).x ρ μ e = .ok (v, μ₁)) : (E (n + 1)).s ρ μ (.asg i e) = .ok (.nxt, ρ.set i (some v), μ₁) := bindOk h rfl
theorem s_asgC {i : Nat} {e : X} {v : V} (h : (E (n + 1)).x ρ μ e = .ok (v, μ₁)) : (E (n + 1)).s ρ μ (.asgC i e) = .ok (.nxt, ρ.set i (some v), μ₁) := bindOk (r := stepX (E n) ρ μ e) h rfl
theorem s_asgT {ts : List Nat} {e : X} {v : V} {ds : List D} (h : (E n).x ρ μ e = .ok (v, μ₁)) (h2 : asSeq μ₁ v = some ds) (h3 : ts.length = ds.length) : (E (n + 1)).s ρ μ (.asgT ts e) = .ok (.nxt, (ts.zip ds).foldl (fun ρ p => ρ.set p.1 (some (.c p.2))) ρ, μ₁) := by
  refine bindOk h ?_
  dsimp only
  rw [h2]
  exact if_pos h3
theorem orE {α β : Type} {o : Option α} {f : α → Res β} {a : α} {r : Res β} (h : o = some a) (h2 : f a = r) : orNo o f = r := by subst h; exact h2
theorem getV_of {i : Nat} {v : V} (h : ρ[i]? = some (some v)) : getV ρ i = some v := by unfold getV; rw [h]
theorem s_aug {i : Nat} {e : X} {a b : Int} (h0 : ρ[i]? = some (some (.c (.int a)))) (h : (E n).x ρ μ e = .ok (.c (.int b), μ₁)) : (E (n + 1)).s ρ μ (.aug i .add e) = .ok (.nxt, ρ.set i (some (.c (.int (a + b)))), μ₁) := by
  exact orE (getV_of h0) (bindOk h rfl)
theorem s_ex {e : X} {v : V} (h : (E n).x ρ μ e = .ok (v, μ₁)) : (E (n + 1)).s ρ μ (.ex e) = .ok (.nxt, ρ, μ₁) := bindOk h rfl
theorem s_ret {e : X} {v : V} (h : (E n).x ρ μ e = .ok (v, μ₁)) : (E (n + 1)).s ρ μ (.ret e) = .ok (.ret v, ρ, μ₁) := bindOk h rfl
noncomputable def iteS (n : Nat) (c : Bool) (ρ : Ev) (μ : Mu) (a b : List S) : Res (Fl × Ev × Mu) := if c then evSs (E n) ρ μ a else evSs (E n) ρ μ b
theorem s_ife {t : X} {a b : List S} {c : Bool} {res} (h1 : evB (E n) ρ μ t = .ok (c, μ₁)) (h2 : iteS n c ρ μ₁ a b = .ok res) : (E (n + 1)).s ρ μ (.ife t a b) = .ok res := bindOk h1 h2
theorem ite_t {c : Bool} {a b : List S} {res} (h : c = true) (h2 : evSs (E n) ρ μ a = .ok res) : iteS n c ρ μ a b = .ok res := by subst h; exact h2
theorem ite_f {c : Bool} {a b : List S} {res} (h : c = false) (h2 : evSs (E n) ρ μ b = .ok res) : iteS n c ρ μ a b = .ok res := by subst h; exact h2
theorem s_for {ts : List Nat} {tp : Bool} {it : X} {b : List S} {x : V} {d : D} {l : List D} {res} (h1 : (E n).x ρ μ it = .ok (x, μ₁)) (h2 : frz μ₁ x = .ok (d, μ₂)) (h3 : itemsT tp d = some l) (h4 : forL (E n) ts tp b ρ μ₂ l = .ok res) : (E (n + 1)).s ρ μ (.for_ ts tp it b) = .ok res := by
  refine bindOk h1 (bindOk h2 ?_)
  dsimp only
  rw [h3]; exact h4
theorem s_whl {t : X} {b : List S} {res} (h : whlL (E n) t b 64 ρ μ = .ok res) : (E (n + 1)).s ρ μ (.whl t b) = .ok res := h
theorem for_nil {ts : List Nat} {tp : Bool} {b : List S} : forL (E n) ts tp b ρ μ [] = .ok (.nxt, ρ, μ) := rfl
theorem for_cons {ts : List Nat} {tp : Bool} {b : List S} {d : D} {r : List D} {res} (h1 : bindT ρ ts tp d = some ρ₁) (h2 : evSs (E n) ρ₁ μ b = .ok (.nxt, ρ₂, μ₂)) (h3 : forL (E n) ts tp b ρ₂ μ₂ r = .ok res) : forL (E n) ts tp b ρ μ (d :: r) = .ok res := by
  rw [forL]
  exact orE h1 (bindOk h2 h3)
theorem for_ret {ts : List Nat} {tp : Bool} {b : List S} {d : D} {r : List D} {v : V} (h1 : bindT ρ ts tp d = some ρ₁) (h2 : evSs (E n) ρ₁ μ b = .ok (.ret v, ρ₂, μ₂)) : forL (E n) ts tp b ρ μ (d :: r) = .ok (.ret v, ρ₂, μ₂) := by
  rw [forL]
  exact orE h1 (bindOk h2 rfl)
theorem whl_end {t : X} {b : List S} {k : Nat} (h : evB (E n) ρ μ t = .ok (false, μ₁)) : whlL (E n) t b (k + 1) ρ μ = .ok (.nxt, ρ, μ₁) := by
  rw [whlL]; exact bindOk h rfl
theorem whl_go {t : X} {b : List S} {k : Nat} {res} (h : evB (E n) ρ μ t = .ok (true, μ₁)) (h2 : evSs (E n) ρ μ₁ b = .ok (.nxt, ρ₂, μ₂)) (h3 : whlL (E n) t b k ρ₂ μ₂ = .ok res) : whlL (E n) t b (k + 1) ρ μ = .ok res := by
  rw [whlL]; exact bindOk h (bindOk h2 h3)
/-! expressions -/
theorem x_k {d : D} : (E (n + 1)).x ρ μ (.k d) = .ok (.c d, μ) := rfl
theorem x_v {i : Nat} {v : V} (h : ρ[i]? = some (some v)) : (E (n + 1)).x ρ μ (.v i) = .ok (v, μ) := by
  exact orE (getV_of h) rfl
theorem x_bin {o : Bo} {a b : X} {x y : V} {r} (h1 : (E n).x ρ μ a = .ok (x, μ₁)) (h2 : (E n).x ρ μ₁ b = .ok (y, μ₂)) (h3 : binop μ₂ o x y = .ok r) : (E (n + 1)).x ρ μ (.bin o a b) = .ok r := bindOk h1 (bindOk h2 h3)
theorem evB_of {e : X} {b : Bool} (h : (E n).x ρ μ e = .ok (.c (.bool b), μ₁)) : evB (E n) ρ μ e = .ok (b, μ₁) := bindOk h rfl
theorem x_not {a : X} {b : Bool} (h : evB (E n) ρ μ a = .ok (b, μ₁)) : (E (n + 1)).x ρ μ (.not a) = .ok (.c (.bool (!b)), μ₁) := bindOk h rfl
theorem x_neg {a : X} {i : Int} (h : (E n).x ρ μ a = .ok (.c (.int i), μ₁)) : (E (n + 1)).x ρ μ (.neg a) = .ok (.c (.int (-i)), μ₁) := bindOk h rfl
noncomputable def aoN (n : Nat) (stop : Bool) (ρ : Ev) (b : Bool) (μ : Mu) (r : List X) : Res (Bool × Mu) := if b == stop then .ok (b, μ) else evAO (E n) stop ρ μ r
theorem ao_one {stop : Bool} {e : X} {r} (h : evB (E n) ρ μ e = .ok r) : evAO (E n) stop ρ μ [e] = .ok r := h
theorem ao_cons {stop : Bool} {e e' : X} {r : List X} {b : Bool} {res} (h : evB (E n) ρ μ e = .ok (b, μ₁)) (h2 : aoN n stop ρ b μ₁ (e' :: r) = .ok res) : evAO (E n) stop ρ μ (e :: e' :: r) = .ok res := bindOk h h2
theorem ao_stop {stop b : Bool} {r : List X} (h : b = stop) : aoN n stop ρ b μ r = .ok (b, μ) := by subst h; unfold aoN; rw [beq_self_eq_true]; rfl
theorem ao_go {stop b : Bool} {r : List X} {res} (h : b = !stop) (h2 : evAO (E n) stop ρ μ r = .ok res) : aoN n stop ρ b μ r = .ok res := by
  subst h; unfold aoN; cases stop <;> exact h2
theorem x_and {l : List X} {b : Bool} (h : evAO (E n) false ρ μ l = .ok (b, μ₁)) : (E (n + 1)).x ρ μ (.and l) = .ok (.c (.bool b), μ₁) := bindOk h rfl
theorem x_or {l : List X} {b : Bool} (h : evAO (E n) true ρ μ l = .ok (b, μ₁)) : (E (n + 1)).x ρ μ (.or l) = .ok (.c (.bool b), μ₁) := bindOk h rfl
theorem x_cmp {o : Co} {a b : X} {x y : V} {r : Bool} (h1 : (E n).x ρ μ a = .ok (x, μ₁)) (h2 : (E n).x ρ μ₁ b = .ok (y, μ₂)) (h3 : cmpop μ₂ o x y = some r) : (E (n + 1)).x ρ μ (.cmp o a b) = .ok (.c (.bool r), μ₂) := by
  exact bindOk h1 (bindOk h2 (orE h3 rfl))
noncomputable def iteX (n : Nat) (c : Bool) (ρ : Ev) (μ : Mu) (a b : X) : Res (V × Mu) := if c then (E n).x ρ μ a else (E n).x ρ μ b
theorem x_ite {t a b : X} {c : Bool} {res} (h1 : evB (E n) ρ μ t = .ok (c, μ₁)) (h2 : iteX n c ρ μ₁ a b = .ok res) : (E (n + 1)).x ρ μ (.ite t a b) = .ok res := bindOk h1 h2
theorem itx_t {c : Bool} {a b : X} {res} (h : c = true) (h2 : (E n).x ρ μ a = .ok res) : iteX n c ρ μ a b = .ok res := by subst h; exact h2
theorem itx_f {c : Bool} {a b : X} {res} (h : c = false) (h2 : (E n).x ρ μ b = .ok res) : iteX n c ρ μ a b = .ok res := by subst h; exact h2
theorem l_nil : evL (E n) ρ μ [] = .ok ([], μ) := rfl
theorem l_cons {e : X} {r : List X} {v : V} {vs : List V} (h1 : (E n).x ρ μ e = .ok (v, μ₁)) (h2 : evL (E n) ρ μ₁ r = .ok (vs, μ₂)) : evL (E n) ρ μ (e :: r) = .ok (v :: vs, μ₂) := by
  rw [evL]; exact bindOk h1 (bindOk h2 rfl)
theorem x_bi {b : Bi} {l : List X} {vs : List V} {res} (h1 : evL (E n) ρ μ l = .ok (vs, μ₁)) (h2 : biop μ₁ b vs = .ok res) : (E (n + 1)).x ρ μ (.bi b l) = .ok res := bindOk h1 h2
theorem x_fn {f : Addr} {l : List X} {vs : List V} {ds : List D} {d : D} (h1 : evL (E n) ρ μ l = .ok (vs, μ₁)) (h2 : frzs μ₁ vs = .ok (ds, μ₂)) (h3 : cl n f ds = .ok d) : (E (n + 1)).x ρ μ (.fn f l) = .ok (.c d, μ₂) := by
  refine bindOk h1 (bindOk h2 ?_)
  obtain ⟨⟨v, μ'⟩, e1, e2⟩ : ∃ a, (E n).call f (ds.map .c) [] = .ok a ∧ ((frz a.2 a.1).bind fun q => .ok q.1) = .ok d := by
    unfold cl at h3
    cases hc : (E n).call f (ds.map .c) [] with
    | ok a => rw [hc] at h3; exact ⟨a, rfl, h3⟩
    | exc m => rw [hc] at h3; cases h3
    | no => rw [hc] at h3; cases h3
  refine bindOk e1 ?_
  dsimp only at e2 ⊢
  cases hf : frz μ' v with
  | ok q => rw [hf] at e2; cases e2; rfl
  | exc m => rw [hf] at e2; cases e2
  | no => rw [hf] at e2; cases e2
theorem s_sat {o : X} {a : At} {e : X} {v : V} {i c : Nat} {l : List (At × V)} (h1 : (E n).x ρ μ e = .ok (v, μ₁)) (h2 : (E n).x ρ μ₁ o = .ok (.r i, μ₂)) (h3 : μ₂[i]? = some (.ins c l)) (h4 : (Nat.beq c vecA || Nat.beq c matA) && decide (l.length ≤ 100)) : (E (n + 1)).s ρ μ (.sat o a e) = .ok (.nxt, ρ, μ₂.set i (.ins c (aPut l a v))) := by
  refine bindOk h1 (bindOk h2 (orE (a := μ₂.set i (.ins c (aPut l a v))) ?_ rfl))
  show μ₂[i]?.bind (satP μ₂ i a v) = _
  rw [h3]
  exact if_pos h4
/-- a Vector is made -/
theorem x_vec {l : List X} {vs : List V} {k i a : D} (h1 : evL (E (n + 3)) ρ μ l = .ok (vs, μ₁)) (h2 : frzs μ₁ vs = .ok ([k, i, a], μ₂)) : (E (n + 4)).x ρ μ (.cl 318 l) = .ok (.r μ₂.length, μ₂ ++ [.ins 318 [(.kind, .c k), (.items, .c i), (.attrs, .c a), (.shared, .c (.bool false)), (.loose, .c (.bool false))]]) := by
  have at_ : ∀ p : P, (μ₂ ++ [p])[μ₂.length]? = some p := fun p => by simp
  have st : ∀ p q : P, (μ₂ ++ [p]).set μ₂.length q = μ₂ ++ [q] := fun p q => by simp
  refine bindOk h1 (bindOk h2 ?_)
  refine orE (a := 308) (if_pos rfl) (bindOk (a := (.c .none, _)) ?_ (if_pos rfl))
  show (match tabK 308 with | some fd => callF (E (n + 2)) fd (V.r (List.length μ₂) :: List.map V.c [k, i, a]) (μ₂ ++ [P.ins 318 []]) | none => Res.no) = _
  rw [tab308]
  show callF (E (n + 2)) fd308 _ _ = _
  refine bindOk (a := (.nxt, [some (.r μ₂.length), some (.c k), some (.c i), some (.c a)] ++ List.replicate 20 none, _)) ?_ rfl
  refine ss_cons (s_sat (x_v rfl) (x_v rfl) (at_ _) rfl) ?_
  rw [st]
  refine ss_cons (s_sat (x_v rfl) (x_v rfl) (at_ _) rfl) ?_
  rw [st]
  refine ss_cons (s_sat (x_v rfl) (x_v rfl) (at_ _) rfl) ?_
  rw [st]
  refine ss_cons (s_sat x_k (x_v rfl) (at_ _) rfl) ?_
  rw [st]
  refine ss_cons (s_sat x_k (x_v rfl) (at_ _) rfl) ?_
  rw [st]
  rfl
theorem x_mt {m : Mt} {o : X} {l : List X} {x : V} {vs : List V} {res} (h1 : (E n).x ρ μ o = .ok (x, μ₁)) (h2 : mtOk μ₁ m x = true) (h3 : evL (E n) ρ μ₁ l = .ok (vs, μ₂)) (h4 : meop μ₂ m x vs = .ok res) : (E (n + 1)).x ρ μ (.mt m o l) = .ok res := by
  refine bindOk h1 ?_
  dsimp only
  rw [if_pos h2]
  exact bindOk h3 h4
theorem x_at {o : X} {a : At} {x v : V} (h1 : (E n).x ρ μ o = .ok (x, μ₁)) (h2 : atop μ₁ x a = some v) : (E (n + 1)).x ρ μ (.at o a) = .ok (v, μ₁) := by
  exact bindOk h1 (orE h2 rfl)
theorem x_ix {o i : X} {x y v : V} (h1 : (E n).x ρ μ o = .ok (x, μ₁)) (h2 : (E n).x ρ μ₁ i = .ok (y, μ₂)) (h3 : ixop μ₂ x y = some v) : (E (n + 1)).x ρ μ (.ix o i) = .ok (v, μ₂) := by
  exact bindOk h1 (bindOk h2 (orE h3 rfl))
theorem x_list {l : List X} {vs : List V} {ds : List D} {res} (h1 : evL (E n) ρ μ l = .ok (vs, μ₁)) (h2 : frzs μ₁ vs = .ok (ds, μ₂)) (h3 : newL μ₂ ds = .ok res) : (E (n + 1)).x ρ μ (.list l) = .ok res := bindOk h1 (bindOk h2 h3)
theorem x_tup {l : List X} {vs : List V} {ds : List D} (h1 : evL (E n) ρ μ l = .ok (vs, μ₁)) (h2 : frzs μ₁ vs = .ok (ds, μ₂)) (h3 : fits ds = true) : (E (n + 1)).x ρ μ (.tup l) = .ok (.c (.tup ds), μ₂) := by
  refine bindOk h1 (bindOk h2 ?_)
  exact if_pos h3
theorem x_dict {ks : List T} {l : List X} {vs : List V} {ds : List D} (h1 : evL (E n) ρ μ l = .ok (vs, μ₁)) (h2 : frzs μ₁ vs = .ok (ds, μ₂)) (h3 : ks.length = ds.length ∧ ks.Nodup ∧ ks.length ≤ 10) : (E (n + 1)).x ρ μ (.dict ks l) = .ok (.r μ₂.length, μ₂ ++ [.dct (ks.zip (ds.map .c))]) := by
  refine bindOk h1 (bindOk h2 ?_)
  exact if_pos h3
theorem x_comp {b : Nat} {ts : List Nat} {tp : Bool} {it : X} {ifs : List X} {e : X} {x : V} {d : D} {l : List D} (h1 : (E n).x ρ μ it = .ok (x, μ₁)) (h2 : frz μ₁ x = .ok (d, μ₂)) (h3 : itemsT tp d = some l) (h4 : compL (E n) (clr b ρ) ts tp ifs e μ₂.length (μ₂ ++ [.lst true []]) l = .ok μ₃) :
    (E (n + 1)).x ρ μ (.comp b ts tp it ifs e) = .ok (.r μ₂.length, μ₃) := by
  exact bindOk h1 (bindOk h2 (orE h3 (bindOk h4 rfl)))
theorem comp_nil {ts : List Nat} {tp : Bool} {ifs : List X} {e : X} {acc : Nat} : compL (E n) ρ ts tp ifs e acc μ [] = .ok μ := rfl
theorem me_app {acc : Nat} {v : V} {x : D} {l : List D} (h3 : frz μ₁ v = .ok (x, μ₂)) (h4 : μ₂[acc]? = some (.lst true l)) (h5 : fits l = true) : meAppend μ₁ acc v = .ok (.c .none, μ₂.set acc (.lst true (l ++ [x]))) :=
  bindOk h3 (orE (by show μ₂[acc]?.bind ownP = _; rw [h4]; rfl) (if_pos h5))
theorem comp_cons {ts : List Nat} {tp : Bool} {e : X} {acc : Nat} {d x : D} {r l : List D} {v : V} {res} (h1 : bindT ρ ts tp d = some ρ₁) (h2 : (E n).x ρ₁ μ e = .ok (v, μ₁)) (h3 : frz μ₁ v = .ok (x, μ₂)) (h4 : μ₂[acc]? = some (.lst true l)) (h5 : fits l = true)
    (h6 : compL (E n) ρ ts tp [] e acc (μ₂.set acc (.lst true (l ++ [x]))) r = .ok res) : compL (E n) ρ ts tp [] e acc μ (d :: r) = .ok res := by
  rw [compL]
  exact orE h1 (bindOk (a := (true, μ)) rfl (bindOk h2 (bindOk (me_app h3 h4 h5) h6)))
theorem comp_keep {ts : List Nat} {tp : Bool} {e t : X} {acc : Nat} {d x : D} {r l : List D} {v : V} {res} (h1 : bindT ρ ts tp d = some ρ₁) (h0 : evB (E n) ρ₁ μ t = .ok (true, μ)) (h2 : (E n).x ρ₁ μ e = .ok (v, μ₁)) (h3 : frz μ₁ v = .ok (x, μ₂)) (h4 : μ₂[acc]? = some (.lst true l)) (h5 : fits l = true)
    (h6 : compL (E n) ρ ts tp [t] e acc (μ₂.set acc (.lst true (l ++ [x]))) r = .ok res) : compL (E n) ρ ts tp [t] e acc μ (d :: r) = .ok res := by
  rw [compL]
  exact orE h1 (bindOk (a := (true, μ)) (bindOk h0 rfl) (bindOk h2 (bindOk (me_app h3 h4 h5) h6)))
theorem comp_skip {ts : List Nat} {tp : Bool} {e t : X} {acc : Nat} {d : D} {r : List D} {res} (h1 : bindT ρ ts tp d = some ρ₁) (h0 : evB (E n) ρ₁ μ t = .ok (false, μ))
    (h6 : compL (E n) ρ ts tp [t] e acc μ r = .ok res) : compL (E n) ρ ts tp [t] e acc μ (d :: r) = .ok res := by
  rw [compL]
  exact orE h1 (bindOk (a := (false, μ)) (bindOk h0 rfl) h6)
/-! single operations -/
theorem op_append {i : Nat} {v : V} {d : D} {l : List D} (h1 : frz μ v = .ok (d, μ₁)) (h2 : μ₁[i]? = some (.lst true l)) (h3 : fits l = true) : meop μ .append (.r i) [v] = .ok (.c .none, μ₁.set i (.lst true (l ++ [d]))) := by
  exact me_app h1 h2 h3
theorem op_len {v : V} {l : List D} (h1 : asSeq μ v = some l) (h2 : fits l = true) : biop μ .len [v] = .ok (.c (.int l.length), μ) := by
  show biLen μ v = _
  unfold biLen
  rw [h1]
  exact if_pos h2
theorem op_ix {o : V} {l : List D} {i : Int} {d : D} (h1 : asSeq μ o = some l) (h0 : 0 ≤ i) (h2 : l[i.toNat]? = some d) (h3 : l.length ≤ 1000000) : ixop μ o (.c (.int i)) = some (.c d) := by
  have hi := (List.getElem?_eq_some_iff.mp h2).1
  show (if tiny i = true then ((asSeq μ o).bind fun l => atI l i).map V.c else none) = _
  have ht : tiny i = true := by unfold tiny; simp only [Bool.and_eq_true, decide_eq_true_eq]; lia
  rw [if_pos ht, h1]
  show (atI l i).map V.c = _
  unfold atI PySem.seqIndex?
  simp only [if_neg (show ¬ i < 0 by lia)]
  rw [if_pos (by simp only [Bool.and_eq_true, decide_eq_true_eq]; lia)]
  simp [h2]
theorem op_ixN {o : V} {l : List D} {i : Nat} {d : D} (h1 : asSeq μ o = some l) (h2 : l[i]? = some d) (h3 : l.length ≤ 1000000) : ixop μ o (.c (.int (i : Nat))) = some (.c d) := op_ix h1 (Int.natCast_nonneg _) (by simpa using h2) h3
theorem getD_at {l : List D} {i : Nat} (h : i < l.length) : l[i]? = some (l.getD i default) := by
  rw [List.getD_eq_getElem?_getD, List.getElem?_eq_getElem h]; rfl
end
noncomputable def vecD (k : T) (l : List D) : D := .vec (.str k) (.list l) .none
noncomputable def intsD (l : List Nat) : List D := l.map fun p : Nat => D.int (p : Int)
noncomputable def pickD (its : List D) (ps : List Nat) : List D := ps.map fun p => its.getD p default
noncomputable def pickB : List S := [.ife (.or [(.cmp .is (.v 4) (.k .none)), (.cmp .ge (.v 4) (.v 3))]) [.ex (.mt .append (.v 2) [.bad])] [.ex (.mt .append (.v 2) [(.ix (.at (.v 0) .items) (.v 4))])]]
theorem pick_loop (n : Nat) (k : T) (its : List D) (pl : D) : ∀ (ps : List Nat) (acc : List D) (x : Option V), (∀ p ∈ ps, p < its.length) → its.length ≤ 1000 → acc.length + ps.length ≤ 1000 →
    ∃ x', forL (E (n + 9)) [4] false pickB ([some (.c (vecD k its)), some (.c pl), some (.r 0), some (.c (.int its.length)), x] ++ List.replicate 19 none) [.lst true acc] (intsD ps) = .ok (.nxt, [some (.c (vecD k its)), some (.c pl), some (.r 0), some (.c (.int its.length)), x'] ++ List.replicate 19 none, [.lst true (acc ++ pickD its ps)])
  | [], acc, x, _, _, _ => ⟨x, by rw [show acc ++ pickD its [] = acc from List.append_nil acc]; exact for_nil⟩
  | p :: ps, acc, x, hp, hi, ha => by
    have h1 := hp p (.head _)
    obtain ⟨x', ih⟩ := pick_loop n k its pl ps (acc ++ [its.getD p default]) (some (.c (.int p))) (fun q m => hp q (.tail _ m)) hi (by simp at ha ⊢; lia)
    refine ⟨x', ?_⟩
    have e : acc ++ pickD its (p :: ps) = acc ++ [its.getD p default] ++ pickD its ps := by simp [pickD]
    rw [e]
    refine for_cons rfl ?_ ih
    unfold pickB
    have ix : ∀ μ, ixop μ (.c (.list its)) (.c (.int (p : Nat))) = some (.c (its.getD p default)) := fun μ => op_ixN rfl (getD_at h1) (by lia)
    repeat' (first
        | with_reducible exact ss_nil | with_reducible exact l_nil | with_reducible exact x_k | with_reducible exact next_r
        | with_reducible apply ss_cons
        | with_reducible apply next_n
        | with_reducible apply s_asg | with_reducible apply s_asgC | with_reducible apply s_ex | with_reducible apply s_ret | with_reducible apply s_ife | with_reducible apply s_for | with_reducible apply s_asgT | with_reducible apply s_whl | with_reducible apply s_aug
        | with_reducible apply evB_of
        | with_reducible apply x_v | with_reducible apply x_bin | with_reducible apply x_not | with_reducible apply x_neg | with_reducible apply x_and | with_reducible apply x_or | with_reducible apply x_cmp | with_reducible apply x_ite | with_reducible apply x_bi | with_reducible apply x_fn | with_reducible apply x_vec | with_reducible apply x_mt | with_reducible apply x_at | with_reducible apply x_ix | with_reducible apply x_list | with_reducible apply x_tup | with_reducible apply x_comp
        | with_reducible apply l_cons | with_reducible apply ao_one | with_reducible apply ao_cons
        | (with_reducible refine ite_t ?_ ?_; (show _ = true; first | rfl | exact decide_eq_true (by lia) | assumption | fail)) | (with_reducible refine ite_f ?_ ?_; (show _ = false; first | rfl | exact decide_eq_false (by lia) | assumption | fail))
        | (with_reducible refine itx_t ?_ ?_; (show _ = true; first | rfl | exact decide_eq_true (by lia) | assumption | fail)) | (with_reducible refine itx_f ?_ ?_; (show _ = false; first | rfl | exact decide_eq_false (by lia) | assumption | fail))
        | (with_reducible refine ao_stop ?_; first | rfl | exact decide_eq_true (by lia) | exact decide_eq_false (by lia) | assumption | fail) | (with_reducible refine ao_go ?_ ?_; (show _ = _; first | rfl | exact decide_eq_true (by lia) | exact decide_eq_false (by lia) | assumption | fail))
        | with_reducible apply op_append
        | (show fits _ = true; apply fits_of; first | lia | (simp only [List.length_append, List.length_cons, List.length_nil, List.length_map, List.length_replicate, List.length_range]; lia) | (simp; lia))
        | (show cl _ _ _ = _; first | assumption | apply_assumption | fail)
        | (show forL _ _ _ _ _ _ _ = _; assumption) | (show compL _ _ _ _ _ _ _ _ _ = _; assumption) | (show whlL _ _ _ _ _ _ = _; assumption)
        | (show ixop _ _ _ = _; first | assumption | apply_assumption | rfl) | (show biop _ _ _ = _; first | assumption | apply_assumption | rfl) | (show itemsT _ _ = _; first | assumption | rfl)
        | (show _ = _; rfl) | (show _ = _; assumption)
        | (show meop _ _ _ _ = _; apply_assumption) | (show cmpop _ _ _ _ = _; apply_assumption))
theorem c_kept (n : Nat) (k : T) (its : List D) : cl (n + 6) 715 [vecD k its] = .ok .none := by kernel_rfl
theorem c_pick (n : Nat) (k : T) (its : List D) (ps : List Nat) (hp : ∀ p ∈ ps, p < its.length) (hi : its.length ≤ 1000) (ha : ps.length ≤ 1000) : cl (n + 12) 729 [vecD k its, .list (intsD ps)] = .ok (vecD k (pickD its ps)) := by
  obtain ⟨x', h⟩ := pick_loop (n + 1) k its (.list (intsD ps)) ps [] none hp hi (by simpa using ha)
  have hl : ∀ μ, biop μ .len [.c (.list its)] = .ok (.c (.int its.length), μ) := fun μ => op_len rfl (fits_of (by lia))
  have hk := fun n => c_kept n k its
  apply cl_of (ρ := [some (.c (vecD k its)), some (.c (.list (intsD ps)))] ++ List.replicate 22 none) tab729 rfl
  · unfold fd729
    repeat' (first
        | with_reducible exact ss_nil | with_reducible exact l_nil | with_reducible exact x_k | with_reducible exact next_r
        | with_reducible apply ss_cons
        | with_reducible apply next_n
        | with_reducible apply s_asg | with_reducible apply s_asgC | with_reducible apply s_ex | with_reducible apply s_ret | with_reducible apply s_ife | with_reducible apply s_for | with_reducible apply s_asgT | with_reducible apply s_whl | with_reducible apply s_aug
        | with_reducible apply evB_of
        | with_reducible apply x_v | with_reducible apply x_bin | with_reducible apply x_not | with_reducible apply x_neg | with_reducible apply x_and | with_reducible apply x_or | with_reducible apply x_cmp | with_reducible apply x_ite | with_reducible apply x_bi | with_reducible apply x_fn | with_reducible apply x_vec | with_reducible apply x_mt | with_reducible apply x_at | with_reducible apply x_ix | with_reducible apply x_list | with_reducible apply x_tup | with_reducible apply x_comp
        | with_reducible apply l_cons | with_reducible apply ao_one | with_reducible apply ao_cons
        | (with_reducible refine ite_t ?_ ?_; (show _ = true; first | rfl | exact decide_eq_true (by lia) | assumption | fail)) | (with_reducible refine ite_f ?_ ?_; (show _ = false; first | rfl | exact decide_eq_false (by lia) | assumption | fail))
        | (with_reducible refine itx_t ?_ ?_; (show _ = true; first | rfl | exact decide_eq_true (by lia) | assumption | fail)) | (with_reducible refine itx_f ?_ ?_; (show _ = false; first | rfl | exact decide_eq_false (by lia) | assumption | fail))
        | (with_reducible refine ao_stop ?_; first | rfl | exact decide_eq_true (by lia) | exact decide_eq_false (by lia) | assumption | fail) | (with_reducible refine ao_go ?_ ?_; (show _ = _; first | rfl | exact decide_eq_true (by lia) | exact decide_eq_false (by lia) | assumption | fail))
        | with_reducible apply op_append
        | (show fits _ = true; apply fits_of; first | lia | (simp only [List.length_append, List.length_cons, List.length_nil, List.length_map, List.length_replicate, List.length_range]; lia) | (simp; lia))
        | (show cl _ _ _ = _; first | assumption | apply_assumption | fail)
        | (show forL _ _ _ _ _ _ _ = _; assumption) | (show compL _ _ _ _ _ _ _ _ _ = _; assumption) | (show whlL _ _ _ _ _ _ = _; assumption)
        | (show ixop _ _ _ = _; first | assumption | apply_assumption | rfl) | (show biop _ _ _ = _; first | assumption | apply_assumption | rfl) | (show itemsT _ _ = _; first | assumption | rfl)
        | (show _ = _; rfl) | (show _ = _; assumption)
        | (show meop _ _ _ _ = _; apply_assumption) | (show cmpop _ _ _ _ = _; apply_assumption))
  · rfl
/-! ## matched pairs -/
theorem rngL_nat (m : Nat) : rngL 0 m 1 = intsD (List.range m) := by
  unfold rngL intsD PyProof.Rows.rangeInts Builtin.Range.rangeSize
  cases m with
  | zero => rfl
  | succ m =>
    simp only [List.map_map]
    simp
theorem items_rng {m : Nat} (h : m ≤ 1000) : itemsT false (.rng 0 (m : Nat) 1) = some (intsD (List.range m)) := by
  unfold itemsT items tiny
  simp only [Bool.false_eq_true, if_false]
  rw [if_pos (by simp; lia), rngL_nat]
/-- the places of a text in a list of texts -/
noncomputable def idx (ys : List T) (t : T) : List Nat := (List.range ys.length).filter fun j => tEq (ys.getD j []) t
theorem idx_snoc (ys : List T) (y t : T) : idx (ys ++ [y]) t = idx ys t ++ (if tEq y t then [ys.length] else []) := by
  unfold idx
  rw [List.length_append, List.length_singleton, List.range_succ, List.filter_append]
  congr 1
  · refine List.filter_congr fun j hj => ?_
    have := List.mem_range.mp hj
    rw [List.getD_eq_getElem?_getD, List.getD_eq_getElem?_getD, List.getElem?_append_left this]
  · have : (ys ++ [y]).getD ys.length [] = y := by simp
    rw [List.filter_cons, this]
    rfl
theorem idx_le (ys : List T) (t : T) : (idx ys t).length ≤ ys.length := by
  unfold idx
  exact Nat.le_trans (List.length_filter_le _ _) (by simp)
noncomputable def strsD (l : List T) : List D := l.map .str
/-- an own list, frozen or not -/
noncomputable def Is (μ : Mu) (i : Nat) (ds : List D) : Prop := μ[i]? = some (.lst true ds) ∨ μ[i]? = some (.frz (.list ds))
theorem Is.frz {μ : Mu} {i : Nat} {ds : List D} (h : Is μ i ds) : ∃ μ', Mine.frz μ (.r i) = .ok (.list ds, μ') ∧ (∀ j, j ≠ i → μ'[j]? = μ[j]?) ∧ μ'.length = μ.length ∧ Is μ' i ds := by
  rcases h with h | h
  · refine ⟨μ.set i (.frz (.list ds)), ?_, fun j hj => List.getElem?_set_ne (Ne.symm hj), by simp, .inr ?_⟩
    · unfold Mine.frz fz
      rw [h]; rfl
    · rw [List.getElem?_set_self (List.getElem?_eq_some_iff.mp h).1]
  · refine ⟨μ, ?_, fun _ _ => rfl, rfl, .inr h⟩
    unfold Mine.frz fz
    rw [h]; rfl
theorem Is.seq {μ : Mu} {i : Nat} {ds : List D} (h : Is μ i ds) : asSeq μ (.r i) = some ds := by
  rcases h with h | h <;> exact seeB h
theorem Is.lst {μ : Mu} {i : Nat} {ds : List D} (h : Is μ i ds) : asList μ (.r i) = some ds := by
  rcases h with h | h <;> exact seeB h
theorem Is.keep {μ μ' : Mu} {i : Nat} {ds : List D} (h : Is μ i ds) (e : μ'[i]? = μ[i]?) : Is μ' i ds := by
  unfold Is
  rw [e]; exact h
theorem tEq_self (t : T) : tEq t t = true := by
  induction t with
  | nil => rfl
  | cons a t ih => unfold tEq; rw [ih, Nat.beq_refl]; rfl
theorem tEq_eq {s t : T} (h : tEq s t = true) : s = t := by
  induction s generalizing t with
  | nil => cases t with | nil => rfl | cons _ _ => cases h
  | cons a s ih =>
    cases t with
    | nil => cases h
    | cons b t =>
      unfold tEq at h
      refine and2 h fun h1 h2 => ?_
      rw [Nat.eq_of_beq_eq_true h1, ih h2]
noncomputable def Own (μ : Mu) (i : Nat) (ds : List D) : Prop := μ[i]? = some (.lst true ds)
/-- the table of places -/
structure Tb (R : Mu → Nat → List D → Prop) (es : List (T × V)) (μ : Mu) (ys : List T) : Prop where
  no : ∀ t, dGet es t = none → idx ys t = []
  yes : ∀ t v, dGet es t = some v → ∃ j, v = .r j ∧ j ≠ 0 ∧ R μ j (intsD (idx ys t))
  inj : ∀ t t' j, dGet es t = some (.r j) → dGet es t' = some (.r j) → tEq t t' = true
theorem dGet_snoc {es : List (T × V)} {k t : T} {v : V} (h : dGet es k = none) : dGet (es ++ [(k, v)]) t = if tEq k t then some v else dGet es t := by
  induction es with
  | nil => rfl
  | cons p es ih =>
    obtain ⟨a, b⟩ := p
    unfold dGet at h
    rw [List.cons_append]
    unfold dGet
    by_cases q : tEq a k = true
    · rw [if_pos q] at h; cases h
    · rw [if_neg q] at h
      rw [ih h]
      by_cases q2 : tEq a t = true
      · rw [if_pos q2, if_neg]
        · exact (if_pos q2).symm
        · intro q3
          have e1 := tEq_eq q2
          have e2 := tEq_eq q3
          exact q (by rw [e1, ← e2]; exact tEq_self _)
      · rw [if_neg q2]
        by_cases q3 : tEq k t = true
        · rw [if_pos q3, if_pos q3]
        · rw [if_neg q3, if_neg q3]; unfold dGet; rw [if_neg q2]
theorem ok_lst {μ : Mu} {i : Nat} {l : List D} (h : μ[i]? = some (.lst true l)) : mtOk μ .append (.r i) = true := by
  exact congrArg Option.isSome (seeB (f := lstP) h)
theorem ok_dct {μ : Mu} {i : Nat} {l} (h : μ[i]? = some (.dct l)) : mtOk μ .setdefault (.r i) = true := by
  exact congrArg Option.isSome (seeB (f := dicP) h)
theorem ok_get {μ : Mu} {i : Nat} {l} (h : μ[i]? = some (.dct l)) : mtOk μ .get (.r i) = true := by
  exact congrArg Option.isSome (seeB (f := dicP) h)
theorem op_setd_new {μ : Mu} {i : Nat} {k : T} {v : V} {es : List (T × V)} (h1 : μ[i]? = some (.dct es)) (h2 : es.length ≤ 1000) (h3 : dGet es k = none) : meop μ .setdefault (.r i) [.c (.str k), v] = .ok (v, μ.set i (.dct (es ++ [(k, v)]))) := by
  show meSetd μ i k v = _
  refine orE (a := es) (by rw [h1]; rfl) ?_
  rw [if_pos (decide_eq_true h2), h3]
theorem op_setd_old {μ : Mu} {i : Nat} {k : T} {v u : V} {es : List (T × V)} (h1 : μ[i]? = some (.dct es)) (h2 : es.length ≤ 1000) (h3 : dGet es k = some u) : meop μ .setdefault (.r i) [.c (.str k), v] = .ok (u, μ) := by
  show meSetd μ i k v = _
  refine orE (a := es) (by rw [h1]; rfl) ?_
  rw [if_pos (decide_eq_true h2), h3]
noncomputable def envM (xs ys : List T) (a b c d : Option V) : Ev := [some (.c (.list (strsD xs))), some (.c (.list (strsD ys))), some (.r 0), a, b, c, d] ++ List.replicate 17 none
noncomputable def tabB : List S := [.ex (.mt .append (.mt .setdefault (.v 2) [(.ix (.v 1) (.v 3)), (.list [])]) [(.v 3)])]
theorem strs_at {ys : List T} {j : Nat} (h : j < ys.length) : (strsD ys)[j]? = some (.str (ys.getD j [])) := by
  unfold strsD
  rw [List.getElem?_map, List.getD_eq_getElem?_getD, List.getElem?_eq_getElem h]; rfl
/-- one step of the table's loop -/
theorem tab_step (n : Nat) (xs ys : List T) {m : Nat} (hm : m < ys.length) (hy : ys.length ≤ 900) {es : List (T × V)} {μ : Mu} (h0 : μ[0]? = some (.dct es)) (hes : es.length ≤ m) (hμ : μ.length = m + 1) (B : Tb Own es μ (ys.take m)) (a b c d : Option V) :
    ∃ es' μ', evSs (E (n + 9)) (envM xs ys (some (.c (.int (m : Nat)))) b c d) μ tabB = .ok (.nxt, envM xs ys (some (.c (.int (m : Nat)))) b c d, μ') ∧ μ'[0]? = some (.dct es') ∧ es'.length ≤ m + 1 ∧ μ'.length = m + 2 ∧ Tb Own es' μ' (ys.take (m + 1)) := by
  have ix : ∀ μ, ixop μ (.c (.list (strsD ys))) (.c (.int (m : Nat))) = some (.c (.str (ys.getD m []))) := fun μ => op_ixN rfl (strs_at hm) (by simp [strsD]; lia)
  have tk : ys.take (m + 1) = ys.take m ++ [ys.getD m []] := by
    rw [List.take_add_one, List.getD_eq_getElem?_getD, List.getElem?_eq_getElem hm]; rfl
  have tl : (ys.take m).length = m := by simp; lia
  generalize hk : ys.getD m [] = k at *
  have h0' : (μ ++ [.lst true []])[0]? = some (.dct es) := by rw [List.getElem?_append_left (by lia)]; exact h0
  cases hg : dGet es k with
  | none =>
    have hsd := op_setd_new (v := .r μ.length) h0' (by lia) hg
    have hlt : ∀ t j, dGet es t = some (.r j) → j < m + 1 ∧ j ≠ 0 := fun t j e => by
      obtain ⟨j', e1, e2, e3⟩ := B.yes t _ e
      cases e1
      exact ⟨by rw [← hμ]; exact (List.getElem?_eq_some_iff.mp e3).1, e2⟩
    have hap : ((μ ++ [P.lst true []]).set 0 (P.dct (es ++ [(k, V.r μ.length)])))[μ.length]? = some (.lst true []) := by
      rw [List.getElem?_set_ne (by lia)]; simp
    refine ⟨es ++ [(k, .r μ.length)], _, ss_cons (s_ex (x_mt (x_mt (x_v rfl) (ok_dct h0) (l_cons (x_ix (x_v rfl) (x_v rfl) (ix _)) (l_cons (x_list l_nil rfl rfl) l_nil)) hsd) (ok_lst hap) (l_cons (x_v rfl) l_nil) (op_append rfl hap rfl))) (next_n ss_nil), ?_, by simp; lia, by simp only [List.length_set, List.length_append, List.length_cons, List.length_nil]; lia, ?_⟩
    · rw [List.getElem?_set_ne (by lia), List.getElem?_set_self (by simp)]
    · rw [tk, hμ]
      refine ⟨fun t h => ?_, fun t v h => ?_, fun t t' j h h' => ?_⟩
      · rw [dGet_snoc hg] at h
        split at h
        · cases h
        · rename_i q
          rw [idx_snoc, if_neg q, B.no t h]; rfl
      · rw [dGet_snoc hg] at h
        split at h
        · rename_i q
          cases h
          refine ⟨m + 1, rfl, by lia, ?_⟩
          have e := tEq_eq q
          subst e
          rw [idx_snoc, B.no _ hg, if_pos q, tl]
          unfold Own
          rw [List.getElem?_set_self (by simp; lia)]; rfl
        · rename_i q
          obtain ⟨j, rfl, e2, e3⟩ := B.yes t v h
          have := hlt t j h
          refine ⟨j, rfl, e2, ?_⟩
          rw [idx_snoc, if_neg q, List.append_nil]
          unfold Own at e3 ⊢
          rw [List.getElem?_set_ne (by lia), List.getElem?_set_ne (by lia), List.getElem?_append_left (by lia)]; exact e3
      · rw [dGet_snoc hg] at h h'
        split at h <;> split at h'
        · rename_i q q'
          rw [← tEq_eq q, ← tEq_eq q']; exact tEq_self _
        · cases h
          have := hlt t' _ h'; lia
        · cases h'
          have := hlt t _ h; lia
        · exact B.inj t t' j h h'
  | some u =>
    obtain ⟨j, rfl, hj0, hj⟩ := B.yes k u hg
    have hsd := op_setd_old (v := .r μ.length) h0' (by lia) hg
    have hjl : j < μ.length := (List.getElem?_eq_some_iff.mp hj).1
    have hap : (μ ++ [P.lst true []])[j]? = some (.lst true (intsD (idx (ys.take m) k))) := by
      rw [List.getElem?_append_left hjl]; exact hj
    have hf : fits (intsD (idx (ys.take m) k)) = true := fits_of (by
      have := idx_le (ys.take m) k
      simp only [intsD, List.length_map]; lia)
    refine ⟨es, _, ss_cons (s_ex (x_mt (x_mt (x_v rfl) (ok_dct h0) (l_cons (x_ix (x_v rfl) (x_v rfl) (ix _)) (l_cons (x_list l_nil rfl rfl) l_nil)) hsd) (ok_lst hap) (l_cons (x_v rfl) l_nil) (op_append rfl hap hf))) (next_n ss_nil), ?_, Nat.le_succ_of_le hes, by simp; lia, ?_⟩
    · rw [List.getElem?_set_ne hj0]; exact h0'
    · rw [tk]
      refine ⟨fun t h => ?_, fun t v h => ?_, B.inj⟩
      · rw [idx_snoc, B.no t h, if_neg]
        · rfl
        · intro q
          rw [← tEq_eq q, hg] at h; cases h
      · obtain ⟨i, rfl, e2, e3⟩ := B.yes t v h
        refine ⟨i, rfl, e2, ?_⟩
        rw [idx_snoc, tl]
        unfold Own at e3 ⊢
        by_cases q : tEq k t = true
        · have e := tEq_eq q
          subst e
          rw [hg] at h
          cases h
          rw [List.getElem?_set_self (by simp; lia), if_pos q]
          simp [intsD]
        · have : j ≠ i := fun e => q (B.inj k t i (by rw [hg, e]) h)
          rw [List.getElem?_set_ne this, if_neg q, List.append_nil, List.getElem?_append_left (List.getElem?_eq_some_iff.mp e3).1]; exact e3
noncomputable def intsR (m r : Nat) : List D := intsD (List.range' m r)
theorem intsR_succ (m r : Nat) : intsR m (r + 1) = .int (m : Nat) :: intsR (m + 1) r := rfl
theorem intsR_zero (m : Nat) : intsR m 0 = [] := rfl
theorem intsR_range (r : Nat) : intsD (List.range r) = intsR 0 r := by unfold intsR; rw [List.range_eq_range']
theorem tab_loop (n : Nat) (xs ys : List T) (hy : ys.length ≤ 900) (b c d : Option V) : ∀ (r m : Nat) (a : Option V) (es : List (T × V)) (μ : Mu), m + r = ys.length → μ[0]? = some (.dct es) → es.length ≤ m → μ.length = m + 1 → Tb Own es μ (ys.take m) →
    ∃ a' es' μ', forL (E (n + 9)) [3] false tabB (envM xs ys a b c d) μ (intsR m r) = .ok (.nxt, envM xs ys a' b c d, μ') ∧ μ'[0]? = some (.dct es') ∧ es'.length ≤ ys.length ∧ μ'.length = ys.length + 1 ∧ Tb Own es' μ' ys
  | 0, m, a, es, μ, hr, h0, hes, hμ, B => by
    obtain rfl : m = ys.length := hr
    rw [List.take_length] at B
    exact ⟨a, es, μ, for_nil, h0, hes, hμ, B⟩
  | r + 1, m, a, es, μ, hr, h0, hes, hμ, B => by
    obtain ⟨es', μ', h1, h2, h3, h4, h5⟩ := tab_step n xs ys (m := m) (by lia) hy h0 hes hμ B a b c d
    obtain ⟨a', es2, μ2, i1, i2⟩ := tab_loop n xs ys hy b c d r (m + 1) (some (.c (.int (m : Nat)))) es' μ' (by lia) h2 h3 h4 h5
    refine ⟨a', es2, μ2, ?_, i2⟩
    rw [intsR_succ]
    exact for_cons rfl h1 i1
noncomputable def pairD (p : Nat × Nat) : D := .tup [.int (p.1 : Nat), .int (p.2 : Nat)]
noncomputable def pairsD (l : List (Nat × Nat)) : List D := l.map pairD
noncomputable def inB : List S := [.ex (.mt .append (.v 4) [(.tup [(.v 3), (.v 6)])])]
theorem in_loop (n : Nat) (xs ys : List T) (i q : Nat) (c : Option V) : ∀ (js : List Nat) (acc : List (Nat × Nat)) (d : Option V) (μ : Mu), μ[q]? = some (.lst true (pairsD acc)) → acc.length + js.length ≤ 1000 →
    ∃ d', forL (E (n + 5)) [6] false inB (envM xs ys (some (.c (.int (i : Nat)))) (some (.r q)) c d) μ (intsD js) = .ok (.nxt, envM xs ys (some (.c (.int (i : Nat)))) (some (.r q)) c d', μ.set q (.lst true (pairsD (acc ++ js.map (i, ·)))))
  | [], acc, d, μ, h, hl => ⟨d, by
    rw [List.map_nil, List.append_nil, show μ.set q (.lst true (pairsD acc)) = μ from by
      obtain ⟨h1, h2⟩ := List.getElem?_eq_some_iff.mp h
      rw [← h2, List.set_getElem_self]]
    exact for_nil⟩
  | j :: js, acc, d, μ, h, hl => by
    have hq := (List.getElem?_eq_some_iff.mp h).1
    obtain ⟨d', ih⟩ := in_loop n xs ys i q c js (acc ++ [(i, j)]) (some (.c (.int (j : Nat)))) (μ.set q (.lst true (pairsD (acc ++ [(i, j)])))) (by rw [List.getElem?_set_self hq]) (by simp at hl ⊢; lia)
    refine ⟨d', ?_⟩
    rw [List.set_set, List.append_assoc, List.singleton_append] at ih
    refine for_cons rfl ?_ ih
    have hf : fits (pairsD acc) = true := fits_of (by simp [pairsD]; lia)
    have := op_append (μ := μ) (i := q) (v := .c (pairD (i, j))) rfl h hf
    rw [show pairsD acc ++ [pairD (i, j)] = pairsD (acc ++ [(i, j)]) from by simp [pairsD]] at this
    exact ss_cons (s_ex (x_mt (x_v rfl) (ok_lst h) (l_cons (x_tup (l_cons (x_v rfl) (l_cons (x_v rfl) l_nil)) rfl rfl) l_nil) this)) (next_n ss_nil)
theorem c_room (n s : Nat) (h : s ≤ 1000) : cl (n + 5) 329 [.int (s : Nat)] = .ok (.int (s : Nat)) := by
  apply cl_of (ρ := [some (.c (.int (s : Nat)))] ++ List.replicate 23 none) tab329 rfl
  · unfold fd329
    repeat' (first
        | with_reducible exact ss_nil | with_reducible exact l_nil | with_reducible exact x_k | with_reducible exact next_r
        | with_reducible apply ss_cons
        | with_reducible apply next_n
        | with_reducible apply s_asg | with_reducible apply s_asgC | with_reducible apply s_ex | with_reducible apply s_ret | with_reducible apply s_ife | with_reducible apply s_for | with_reducible apply s_asgT | with_reducible apply s_whl | with_reducible apply s_aug
        | with_reducible apply evB_of
        | with_reducible apply x_v | with_reducible apply x_bin | with_reducible apply x_not | with_reducible apply x_neg | with_reducible apply x_and | with_reducible apply x_or | with_reducible apply x_cmp | with_reducible apply x_ite | with_reducible apply x_bi | with_reducible apply x_fn | with_reducible apply x_vec | with_reducible apply x_mt | with_reducible apply x_at | with_reducible apply x_ix | with_reducible apply x_list | with_reducible apply x_tup | with_reducible apply x_comp
        | with_reducible apply l_cons | with_reducible apply ao_one | with_reducible apply ao_cons
        | (with_reducible refine ite_t ?_ ?_; (show _ = true; first | rfl | exact decide_eq_true (by lia) | assumption | fail)) | (with_reducible refine ite_f ?_ ?_; (show _ = false; first | rfl | exact decide_eq_false (by lia) | assumption | fail))
        | (with_reducible refine itx_t ?_ ?_; (show _ = true; first | rfl | exact decide_eq_true (by lia) | assumption | fail)) | (with_reducible refine itx_f ?_ ?_; (show _ = false; first | rfl | exact decide_eq_false (by lia) | assumption | fail))
        | (with_reducible refine ao_stop ?_; first | rfl | exact decide_eq_true (by lia) | exact decide_eq_false (by lia) | assumption | fail) | (with_reducible refine ao_go ?_ ?_; (show _ = _; first | rfl | exact decide_eq_true (by lia) | exact decide_eq_false (by lia) | assumption | fail))
        | with_reducible apply op_append
        | (show fits _ = true; apply fits_of; first | lia | (simp only [List.length_append, List.length_cons, List.length_nil, List.length_map, List.length_replicate, List.length_range]; lia) | (simp; lia))
        | (show cl _ _ _ = _; first | assumption | apply_assumption | fail)
        | (show forL _ _ _ _ _ _ _ = _; assumption) | (show compL _ _ _ _ _ _ _ _ _ = _; assumption) | (show whlL _ _ _ _ _ _ = _; assumption)
        | (show ixop _ _ _ = _; first | assumption | apply_assumption | rfl) | (show biop _ _ _ = _; first | assumption | apply_assumption | rfl) | (show itemsT _ _ = _; first | assumption | rfl)
        | (show _ = _; rfl) | (show _ = _; assumption)
        | (show meop _ _ _ _ = _; apply_assumption) | (show cmpop _ _ _ _ = _; apply_assumption))
  · rfl
theorem op_get {μ : Mu} {i : Nat} {k : T} {v : V} {es : List (T × V)} (h1 : μ[i]? = some (.dct es)) : meop μ .get (.r i) [.c (.str k), v] = .ok ((dGet es k).getD v, μ) := by
  show meGet μ (.r i) k v = _
  exact orE (seeB h1) rfl
noncomputable def outB : List S := [.asg 5 (.mt .get (.v 2) [(.ix (.v 0) (.v 3)), (.list [])]), .ex (.fn 329 [(.bin .add (.bi .len [(.v 4)]) (.bi .len [(.v 5)]))]), .for_ [6] false (.v 5) inB]
theorem out_step (n : Nat) (xs ys : List T) (hx : xs.length ≤ 4) (hy : ys.length ≤ 4) {i q : Nat} (hi : i < xs.length) {es : List (T × V)} {μ : Mu} (h0 : μ[0]? = some (.dct es)) (B : Tb Is es μ ys) (hq0 : q ≠ 0) (hqt : ∀ t, dGet es t ≠ some (.r q)) {acc : List (Nat × Nat)} (hq : μ[q]? = some (.lst true (pairsD acc))) (ha : acc.length ≤ 4 * i) (c d : Option V) :
    ∃ c' d' μ', evSs (E (n + 9)) (envM xs ys (some (.c (.int (i : Nat)))) (some (.r q)) c d) μ outB = .ok (.nxt, envM xs ys (some (.c (.int (i : Nat)))) (some (.r q)) c' d', μ') ∧ μ'[0]? = some (.dct es) ∧ Tb Is es μ' ys ∧ μ'[q]? = some (.lst true (pairsD (acc ++ (idx ys (xs.getD i [])).map (i, ·)))) := by
  have ix : ∀ μ, ixop μ (.c (.list (strsD xs))) (.c (.int (i : Nat))) = some (.c (.str (xs.getD i []))) := fun μ => op_ixN rfl (strs_at hi) (by simp [strsD]; lia)
  generalize xs.getD i [] = k at *
  have hql := (List.getElem?_eq_some_iff.mp hq).1
  have h0' : (μ ++ [P.lst true []])[0]? = some (.dct es) := by rw [List.getElem?_append_left (by lia)]; exact h0
  have hq' : (μ ++ [P.lst true []])[q]? = some (.lst true (pairsD acc)) := by rw [List.getElem?_append_left hql]; exact hq
  have il := idx_le ys k
  obtain ⟨J, hJ, hJ0, hJq, hJI⟩ : ∃ J, (dGet es k).getD (.r μ.length) = .r J ∧ J ≠ 0 ∧ J ≠ q ∧ Is (μ ++ [P.lst true []]) J (intsD (idx ys k)) := by
    cases hg : dGet es k with
    | none => exact ⟨μ.length, rfl, by lia, by lia, by rw [B.no k hg]; exact .inl (by simp [intsD])⟩
    | some v =>
      obtain ⟨j, rfl, h1, h2⟩ := B.yes k v hg
      have hj : j < μ.length := by rcases h2 with h | h <;> exact (List.getElem?_eq_some_iff.mp h).1
      exact ⟨j, rfl, h1, fun e => hqt k (by rw [hg, e]), h2.keep (List.getElem?_append_left hj)⟩
  obtain ⟨μ2, f1, f2, f3, f4⟩ := hJI.frz
  have hq2 : μ2[q]? = some (.lst true (pairsD acc)) := (f2 q (Ne.symm hJq)).trans hq'
  obtain ⟨d', lp⟩ := in_loop (n + 3) xs ys i q (some (.r J)) (idx ys k) acc d μ2 hq2 (by lia)
  have hget := op_get (k := k) (v := .r μ.length) h0'
  rw [hJ] at hget
  have l1 : biop (μ ++ [P.lst true []]) .len [.r q] = .ok (.c (.int (acc.length : Nat)), μ ++ [P.lst true []]) := by
    have := op_len (μ := μ ++ [P.lst true []]) (v := .r q) (l := pairsD acc) (seeB hq') (fits_of (by simp [pairsD]; lia))
    simpa [pairsD] using this
  have l2 : biop (μ ++ [P.lst true []]) .len [.r J] = .ok (.c (.int ((idx ys k).length : Nat)), μ ++ [P.lst true []]) := by
    have := op_len (μ := μ ++ [P.lst true []]) (v := .r J) (l := intsD (idx ys k)) hJI.seq (fits_of (by simp [intsD]; lia))
    simpa [intsD] using this
  have rm := c_room (n + 2) (acc.length + (idx ys k).length) (by lia)
  refine ⟨some (.r J), d', _, ss_cons (s_asg (x_mt (x_v rfl) (ok_get h0) (l_cons (x_ix (x_v rfl) (x_v rfl) (ix _)) (l_cons (x_list l_nil rfl rfl) l_nil)) hget)) (next_n (ss_cons (s_ex (x_fn (l_cons (x_bin (x_bi (l_cons (x_v rfl) l_nil) l1) (x_bi (l_cons (x_v rfl) l_nil) l2) rfl) l_nil) rfl rm)) (next_n (ss_cons (s_for (x_v rfl) f1 rfl lp) (next_n ss_nil))))), ?_, ?_, ?_⟩
  · rw [List.getElem?_set_ne hq0, f2 0 (Ne.symm hJ0)]; exact h0'
  · refine ⟨B.no, fun t v h => ?_, B.inj⟩
    obtain ⟨j, rfl, e1, e2⟩ := B.yes t v h
    have hj : j < μ.length := by rcases e2 with h | h <;> exact (List.getElem?_eq_some_iff.mp h).1
    refine ⟨j, rfl, e1, ?_⟩
    have hjq : q ≠ j := fun e => hqt t (by rw [h, e])
    by_cases ej : j = J
    · subst ej
      have e3 := e2.keep (μ' := μ ++ [P.lst true []]) (List.getElem?_append_left hj)
      have e4 : intsD (idx ys t) = intsD (idx ys k) := by
        have x1 := e3.seq
        rw [hJI.seq] at x1
        exact (Option.some.inj x1).symm
      rw [e4]
      exact f4.keep (List.getElem?_set_ne hjq)
    · exact e2.keep (by rw [List.getElem?_set_ne hjq, f2 j ej, List.getElem?_append_left hj])
  · rw [List.getElem?_set_self (by rw [f3]; simp; lia)]
/-- the pairs of places with the same text -/
noncomputable def pairs (xs ys : List T) : List (Nat × Nat) := (List.range xs.length).flatMap fun i => (idx ys (xs.getD i [])).map (i, ·)
noncomputable def pairsR (xs ys : List T) (m r : Nat) : List (Nat × Nat) := (List.range' m r).flatMap fun i => (idx ys (xs.getD i [])).map (i, ·)
theorem out_loop (n : Nat) (xs ys : List T) (hx : xs.length ≤ 4) (hy : ys.length ≤ 4) {q : Nat} {es : List (T × V)} (hq0 : q ≠ 0) (hqt : ∀ t, dGet es t ≠ some (.r q)) : ∀ (r m : Nat) (a c d : Option V) (μ : Mu) (acc : List (Nat × Nat)), m + r = xs.length → μ[0]? = some (.dct es) → Tb Is es μ ys → μ[q]? = some (.lst true (pairsD acc)) → acc.length ≤ 4 * m →
    ∃ a' c' d' μ', forL (E (n + 9)) [3] false outB (envM xs ys a (some (.r q)) c d) μ (intsR m r) = .ok (.nxt, envM xs ys a' (some (.r q)) c' d', μ') ∧ μ'[q]? = some (.lst true (pairsD (acc ++ pairsR xs ys m r)))
  | 0, m, a, c, d, μ, acc, hr, h0, B, hq, ha => ⟨a, c, d, μ, for_nil, by rw [hq]; simp [pairsR]⟩
  | r + 1, m, a, c, d, μ, acc, hr, h0, B, hq, ha => by
    obtain ⟨c', d', μ', h1, h2, h3, h4⟩ := out_step n xs ys hx hy (i := m) (by lia) h0 B hq0 hqt hq ha c d
    obtain ⟨a2, c2, d2, μ2, i1, i2⟩ := out_loop n xs ys hx hy hq0 hqt r (m + 1) (some (.c (.int (m : Nat)))) c' d' μ' _ (by lia) h2 h3 h4 (by
      have := idx_le ys (xs.getD m [])
      rw [List.length_append, List.length_map]; lia)
    refine ⟨a2, c2, d2, μ2, ?_, ?_⟩
    · rw [intsR_succ]; exact for_cons rfl h1 i1
    · rw [i2]
      simp [pairsR, List.range'_succ]
theorem c_matched (n : Nat) (xs ys : List T) (hx : xs.length ≤ 4) (hy : ys.length ≤ 4) : cl (n + 11) 853 [.list (strsD xs), .list (strsD ys)] = .ok (.list (pairsD (pairs xs ys))) := by
  have hB : Tb Own [] [.dct []] (ys.take 0) := ⟨fun t _ => rfl, fun t v h => (by cases h), fun t t' j h => (by cases h)⟩
  obtain ⟨a1, es, μ1, h1, h2, h3, h4, h5⟩ := tab_loop n xs ys (by lia) none none none ys.length 0 none [] [.dct []] (by lia) rfl (Nat.le_refl _) rfl hB
  have B2 : Tb Is es (μ1 ++ [.lst true []]) ys := ⟨h5.no, fun t v h => by
    obtain ⟨j, e, e1, e2⟩ := h5.yes t v h
    exact ⟨j, e, e1, .inl (by rw [List.getElem?_append_left (List.getElem?_eq_some_iff.mp e2).1]; exact e2)⟩, h5.inj⟩
  have hqt : ∀ t, dGet es t ≠ some (.r μ1.length) := fun t h => by
    obtain ⟨j, e, e1, e2⟩ := h5.yes t _ h
    cases e
    exact absurd (List.getElem?_eq_some_iff.mp e2).1 (Nat.lt_irrefl _)
  obtain ⟨a2, c2, d2, μ2, i1, i2⟩ := out_loop n xs ys hx hy (q := μ1.length) (by lia) hqt xs.length 0 a1 none none (μ1 ++ [.lst true []]) [] (by lia) (by rw [List.getElem?_append_left (by lia)]; exact h2) B2 (by simp [pairsD]) (Nat.zero_le _)
  have ly : ∀ μ, biop μ .len [.c (.list (strsD ys))] = .ok (.c (.int (ys.length : Nat)), μ) := fun μ => by
    have := op_len (μ := μ) (v := .c (.list (strsD ys))) rfl (fits_of (by simp [strsD]; lia))
    simpa [strsD] using this
  have lx : ∀ μ, biop μ .len [.c (.list (strsD xs))] = .ok (.c (.int (xs.length : Nat)), μ) := fun μ => by
    have := op_len (μ := μ) (v := .c (.list (strsD xs))) rfl (fits_of (by simp [strsD]; lia))
    simpa [strsD] using this
  have ry : itemsT false (.rng 0 (ys.length : Nat) 1) = some (intsR 0 ys.length) := by rw [items_rng (by lia), intsR_range]
  have rx : itemsT false (.rng 0 (xs.length : Nat) 1) = some (intsR 0 xs.length) := by rw [items_rng (by lia), intsR_range]
  apply cl_of (ρ := envM xs ys none none none none |>.set 2 none) tab853 rfl (fl := .ret (.r μ1.length))
  · exact ss_cons (s_asg (x_dict l_nil rfl (by simp))) (next_n (ss_cons (s_for (x_bi (l_cons (x_bi (l_cons (x_v rfl) l_nil) (ly _)) l_nil) rfl) rfl ry h1) (next_n (ss_cons (s_asg (x_list l_nil rfl rfl)) (next_n (ss_cons (s_for (x_bi (l_cons (x_bi (l_cons (x_v rfl) l_nil) (lx _)) l_nil) rfl) rfl rx i1) (next_n (ss_cons (s_ret (x_v rfl)) next_r))))))))
  · show frz μ2 (.r μ1.length) = _
    rw [List.nil_append] at i2
    unfold frz fz
    rw [i2]
    have : pairsR xs ys 0 xs.length = pairs xs ys := by unfold pairs pairsR; rw [List.range_eq_range']
    rw [this]; rfl
/-! ## comparing -/
noncomputable def kInt : T := [105,110,116,101,103,101,114]
noncomputable def kChr : T := [99,104,97,114,97,99,116,101,114]
/-- a column's items fit its kind -/
noncomputable def Good (k : T) (its : List D) : Prop := (k = kInt ∧ ∀ d ∈ its, ∃ a, d = .int a) ∨ (k = kChr ∧ ∀ d ∈ its, ∃ t, d = .str t)
theorem c_lackI (n : Nat) (a : Int) : cl (n + 9) 750 [.str kInt, .int a] = .ok (.bool false) := by kernel_rfl
theorem c_lackS (n : Nat) (t : T) : cl (n + 9) 750 [.str kChr, .str t] = .ok (.bool false) := by kernel_rfl
theorem cmp_end {ρ : Ev} {k : T} {x y : D} {b1 b2 : Bool} (h0 : ρ[0]? = some (some (.c (.str k)))) (hk : cmpop [] .eq (.c (.str k)) (.c (.str [100,111,117,98,108,101])) = some false) (h1 : ρ[1]? = some (some (.c x))) (h2 : ρ[2]? = some (some (.c y)))
    (hl : cmpop [] .lt (.c x) (.c y) = some b1) (hg : cmpop [] .gt (.c x) (.c y) = some b2) : ∃ c : Int, ∀ n, evSs (E (n + 5)) ρ [] fd757.body = .ok (.ret (.c (.int c)), ρ, []) := by
  have s1 : ∀ n, (E (n + 5)).s ρ [] (.ife (.cmp .eq (.v 0) (.k (.str [100,111,117,98,108,101]))) [.ret .bad] []) = .ok (.nxt, ρ, []) := fun n => s_ife (n := n + 4) (evB_of (x_cmp (x_v h0) x_k hk)) (ite_f rfl ss_nil)
  rcases b1 with _ | _
  ·
    rcases b2 with _ | _
    · exact ⟨_, fun n => ss_cons (s1 n) (next_n (ss_cons (s_ife (evB_of (x_cmp (x_v h1) (x_v h2) hl)) (ite_f rfl ss_nil)) (next_n (ss_cons (s_ife (evB_of (x_cmp (x_v h1) (x_v h2) hg)) (ite_f rfl ss_nil)) (next_n (ss_cons (s_ret x_k) next_r))))))⟩
    · exact ⟨_, fun n => ss_cons (s1 n) (next_n (ss_cons (s_ife (evB_of (x_cmp (x_v h1) (x_v h2) hl)) (ite_f rfl ss_nil)) (next_n (ss_cons (s_ife (evB_of (x_cmp (x_v h1) (x_v h2) hg)) (ite_t rfl (ss_cons (s_ret x_k) next_r))) next_r))))⟩
  · exact ⟨_, fun n => ss_cons (s1 n) (next_n (ss_cons (s_ife (evB_of (x_cmp (x_v h1) (x_v h2) hl)) (ite_t rfl (ss_cons (s_ret (x_neg x_k)) next_r))) next_r))⟩
theorem c_cmpI (a b : Int) : ∃ c : Int, ∀ n, cl (n + 6) 757 [.str kInt, .int a, .int b] = .ok (.int c) := by
  obtain ⟨c, h⟩ := cmp_end (ρ := [some (.c (.str kInt)), some (.c (.int a)), some (.c (.int b))] ++ List.replicate 21 none) rfl rfl rfl rfl rfl rfl
  exact ⟨c, fun n => cl_of (fl := .ret _) tab757 rfl (h n) rfl⟩
theorem c_cmpS (a b : T) : ∃ c : Int, ∀ n, cl (n + 6) 757 [.str kChr, .str a, .str b] = .ok (.int c) := by
  obtain ⟨c, h⟩ := cmp_end (ρ := [some (.c (.str kChr)), some (.c (.str a)), some (.c (.str b))] ++ List.replicate 21 none) rfl rfl rfl rfl rfl rfl
  exact ⟨c, fun n => cl_of (fl := .ret _) tab757 rfl (h n) rfl⟩
theorem c_lack {k : T} {its : List D} (G : Good k its) {d : D} (h : d ∈ its) (n : Nat) : cl (n + 9) 750 [.str k, d] = .ok (.bool false) := by
  rcases G with ⟨rfl, g⟩ | ⟨rfl, g⟩
  · obtain ⟨a, rfl⟩ := g d h; exact c_lackI n a
  · obtain ⟨a, rfl⟩ := g d h; exact c_lackS n a
theorem c_cmp {k : T} {its : List D} (G : Good k its) {d e : D} (h : d ∈ its) (h' : e ∈ its) : ∃ c : Int, ∀ n, cl (n + 6) 757 [.str k, d, e] = .ok (.int c) := by
  rcases G with ⟨rfl, g⟩ | ⟨rfl, g⟩
  · obtain ⟨a, rfl⟩ := g d h; obtain ⟨b, rfl⟩ := g e h'; exact c_cmpI a b
  · obtain ⟨a, rfl⟩ := g d h; obtain ⟨b, rfl⟩ := g e h'; exact c_cmpS a b
theorem getD_mem {its : List D} {i : Nat} (h : i < its.length) : its.getD i default ∈ its := by
  rw [List.getD_eq_getElem?_getD, List.getElem?_eq_getElem h]; exact List.getElem_mem h
theorem c_places {k : T} {its : List D} (G : Good k its) (hl : its.length ≤ 1000) {i j : Nat} (hi : i < its.length) (hj : j < its.length) : ∃ c : Int, ∀ n, cl (n + 12) 771 [vecD k its, .int (i : Nat), .int (j : Nat), .bool false, .bool true] = .ok (.int c) := by
  obtain ⟨c, hc⟩ := c_cmp G (getD_mem hi) (getD_mem hj)
  have ixi : ∀ μ, ixop μ (.c (.list its)) (.c (.int (i : Nat))) = some (.c (its.getD i default)) := fun μ => op_ixN rfl (getD_at hi) (by lia)
  have ixj : ∀ μ, ixop μ (.c (.list its)) (.c (.int (j : Nat))) = some (.c (its.getD j default)) := fun μ => op_ixN rfl (getD_at hj) (by lia)
  have li := c_lack G (getD_mem hi)
  have lj := c_lack G (getD_mem hj)
  refine ⟨c, fun n => ?_⟩
  apply cl_of (ρ := [some (.c (vecD k its)), some (.c (.int (i : Nat))), some (.c (.int (j : Nat))), some (.c (.bool false)), some (.c (.bool true))] ++ List.replicate 19 none) tab771 rfl
  · unfold fd771
    repeat' (first
        | with_reducible exact ss_nil | with_reducible exact l_nil | with_reducible exact x_k | with_reducible exact next_r
        | with_reducible apply ss_cons
        | with_reducible apply next_n
        | with_reducible apply s_asg | with_reducible apply s_asgC | with_reducible apply s_ex | with_reducible apply s_ret | with_reducible apply s_ife | with_reducible apply s_for | with_reducible apply s_asgT | with_reducible apply s_whl | with_reducible apply s_aug
        | with_reducible apply evB_of
        | with_reducible apply x_v | with_reducible apply x_bin | with_reducible apply x_not | with_reducible apply x_neg | with_reducible apply x_and | with_reducible apply x_or | with_reducible apply x_cmp | with_reducible apply x_ite | with_reducible apply x_bi | with_reducible apply x_fn | with_reducible apply x_vec | with_reducible apply x_mt | with_reducible apply x_at | with_reducible apply x_ix | with_reducible apply x_list | with_reducible apply x_tup | with_reducible apply x_comp
        | with_reducible apply l_cons | with_reducible apply ao_one | with_reducible apply ao_cons
        | (with_reducible refine ite_t ?_ ?_; (show _ = true; first | rfl | exact decide_eq_true (by lia) | assumption | fail)) | (with_reducible refine ite_f ?_ ?_; (show _ = false; first | rfl | exact decide_eq_false (by lia) | assumption | fail))
        | (with_reducible refine itx_t ?_ ?_; (show _ = true; first | rfl | exact decide_eq_true (by lia) | assumption | fail)) | (with_reducible refine itx_f ?_ ?_; (show _ = false; first | rfl | exact decide_eq_false (by lia) | assumption | fail))
        | (with_reducible refine ao_stop ?_; first | rfl | exact decide_eq_true (by lia) | exact decide_eq_false (by lia) | assumption | fail) | (with_reducible refine ao_go ?_ ?_; (show _ = _; first | rfl | exact decide_eq_true (by lia) | exact decide_eq_false (by lia) | assumption | fail))
        | with_reducible apply op_append
        | (show fits _ = true; apply fits_of; first | lia | (simp only [List.length_append, List.length_cons, List.length_nil, List.length_map, List.length_replicate, List.length_range]; lia) | (simp; lia))
        | (show cl _ _ _ = _; first | assumption | apply_assumption | fail)
        | (show forL _ _ _ _ _ _ _ = _; assumption) | (show compL _ _ _ _ _ _ _ _ _ = _; assumption) | (show whlL _ _ _ _ _ _ = _; assumption)
        | (show ixop _ _ _ = _; first | assumption | apply_assumption | rfl) | (show biop _ _ _ = _; first | assumption | apply_assumption | rfl) | (show itemsT _ _ = _; first | assumption | rfl)
        | (show _ = _; rfl) | (show _ = _; assumption)
        | (show meop _ _ _ _ = _; apply_assumption) | (show cmpop _ _ _ _ = _; apply_assumption))
  · rfl
theorem c_keys {k : T} {its : List D} (G : Good k its) (hl : its.length ≤ 1000) {i j : Nat} (hi : i < its.length) (hj : j < its.length) : ∃ c : Int, ∀ n, cl (n + 16) 778 [.list [vecD k its], .int (i : Nat), .int (j : Nat), .list [.bool false], .bool true] = .ok (.int c) := by
  obtain ⟨c, hc⟩ := c_places G hl hi hj
  have hi' : itemsT false (.rng 0 1 1) = some [.int 0] := rfl
  have ρh : fd778.args ([D.list [vecD k its], .int (i : Nat), .int (j : Nat), .list [.bool false], .bool true].map .c) = some ([some (.c (.list [vecD k its])), some (.c (.int (i : Nat))), some (.c (.int (j : Nat))), some (.c (.list [.bool false])), some (.c (.bool true))] ++ List.replicate 19 none) := rfl
  by_cases h0 : c = 0
  · subst h0
    refine ⟨0, fun n => cl_of tab778 ρh (fl := .ret _) (ss_cons (s_for (x_bi (l_cons (x_bi (l_cons (x_v rfl) l_nil) rfl) l_nil) rfl) rfl hi' (for_cons rfl (ss_cons (s_asg (x_fn (l_cons (x_ix (x_v rfl) (x_v rfl) rfl) (l_cons (x_v rfl) (l_cons (x_v rfl) (l_cons (x_ix (x_v rfl) (x_v rfl) rfl) (l_cons (x_v rfl) l_nil))))) rfl (hc n))) (next_n (ss_cons (s_ife (evB_of (x_cmp (x_v rfl) x_k rfl)) (ite_f rfl ss_nil)) (next_n ss_nil)))) for_nil)) (next_n (ss_cons (s_ret x_k) next_r))) rfl⟩
  · refine ⟨c, fun n => cl_of tab778 ρh (fl := .ret _) (ss_cons (s_for (x_bi (l_cons (x_bi (l_cons (x_v rfl) l_nil) rfl) l_nil) rfl) rfl hi' (for_ret rfl (ss_cons (s_asg (x_fn (l_cons (x_ix (x_v rfl) (x_v rfl) rfl) (l_cons (x_v rfl) (l_cons (x_v rfl) (l_cons (x_ix (x_v rfl) (x_v rfl) rfl) (l_cons (x_v rfl) l_nil))))) rfl (hc n))) (next_n (ss_cons (s_ife (evB_of (x_cmp (x_v rfl) x_k rfl)) (ite_t (by simp [h0]) (ss_cons (s_ret (x_v rfl)) next_r))) next_r))))) next_r) rfl⟩
/-! ## merge_runs -/
section
variable {n : Nat} {ρ ρ' ρ₁ ρ₂ : Ev} {μ μ₁ μ₂ μ₃ : Mu}
noncomputable def frzD (μ : Mu) (v : V) : Option D := (fz 5 μ v).map (·.1)
theorem frzD_ok {v : V} {d : D} (h : frzD μ v = some d) : ∃ μ', frz μ v = .ok (d, μ') := by
  unfold frzD at h
  unfold frz
  cases e : fz 5 μ v with
  | none => rw [e] at h; cases h
  | some p => obtain ⟨d', μ'⟩ := p; rw [e] at h; cases h; exact ⟨μ', rfl⟩
theorem cl_ret {f : Addr} {ds : List D} {fd : Fd} {v : V} {d : D} (ht : tabK f = some fd) (ha : fd.args (ds.map .c) = some ρ) (hb : evSs (E n) ρ [] fd.body = .ok (.ret v, ρ₂, μ₁)) (hf : frzD μ₁ v = some d) : cl (n + 1) f ds = .ok d := by
  obtain ⟨μ', e⟩ := frzD_ok hf
  exact cl_of ht ha hb e
theorem o_none : evO (E n) ρ μ none = .ok (none, μ) := rfl
theorem o_some {e : X} {v : V} (h : (E n).x ρ μ e = .ok (v, μ₁)) : evO (E n) ρ μ (some e) = .ok (some v, μ₁) := bindOk h rfl
theorem x_sl {o : X} {lo hi : Option X} {x : V} {a b : Option V} {res} (h1 : (E n).x ρ μ o = .ok (x, μ₁)) (h2 : evO (E n) ρ μ₁ lo = .ok (a, μ₂)) (h3 : evO (E n) ρ μ₂ hi = .ok (b, μ₃)) (h4 : slop μ₃ x a b = .ok res) : (E (n + 1)).x ρ μ (.sl o lo hi) = .ok res :=
  bindOk h1 (bindOk h2 (bindOk h3 h4))
theorem op_drop {x : V} {l : List D} {i : Nat} (h : asList μ x = some l) (hl : l.length ≤ 1000000) : slop μ x (some (.c (.int (i : Nat)))) none = .ok (.r μ.length, μ ++ [.lst true (l.drop i)]) := by
  unfold slop asArr
  rw [h]
  show (if (decide (0 ≤ (i : Int)) && fits l) = true then newL μ (l.drop (i : Int).toNat) else .no) = _
  rw [if_pos (by rw [fits_of hl, decide_eq_true (Int.natCast_nonneg i)]; rfl), Int.toNat_natCast]
  unfold newL
  rw [if_pos (fits_of (by simp; lia))]
theorem op_cat {i : Nat} {y : V} {l r : List D} (h : asList μ (.r i) = some l) (h' : asList μ y = some r) (hl : (l ++ r).length ≤ 1000000) : binop μ .add (.r i) y = .ok (.r μ.length, μ ++ [.lst true (l ++ r)]) := by
  exact orE h (orE h' (if_pos (fits_of hl)))
end
theorem ints_at {l : List Nat} {j : Nat} (h : j < l.length) : (intsD l)[j]? = some (.int (l.getD j 0 : Nat)) := by
  unfold intsD
  rw [List.getElem?_map, List.getD_eq_getElem?_getD, List.getElem?_eq_getElem h]; rfl
theorem nat_mem {l : List Nat} {i : Nat} (h : i < l.length) : l.getD i 0 ∈ l := by
  rw [List.getD_eq_getElem?_getD, List.getElem?_eq_getElem h]; exact List.getElem_mem h
theorem take_succ' {l : List Nat} {i : Nat} (h : i < l.length) : l.take (i + 1) = l.take i ++ [l.getD i 0] := by
  rw [List.take_add_one, List.getD_eq_getElem?_getD, List.getElem?_eq_getElem h]; rfl
theorem ints_len (l : List Nat) : (intsD l).length = l.length := by simp [intsD]
theorem ints_app (l r : List Nat) : intsD l ++ intsD r = intsD (l ++ r) := by simp [intsD]
theorem ints_drop (l : List Nat) (i : Nat) : (intsD l).drop i = intsD (l.drop i) := by simp [intsD, List.map_drop]
noncomputable def runT : X := (.and [(.cmp .lt (.v 6) (.bi .len [(.v 0)])), (.cmp .lt (.v 7) (.bi .len [(.v 1)]))])
noncomputable def runB : List S := [.ife (.cmp .le (.fn 778 [(.v 2), (.ix (.v 0) (.v 6)), (.ix (.v 1) (.v 7)), (.v 3), (.v 4)]) (.k (.int 0))) [.ex (.mt .append (.v 5) [(.ix (.v 0) (.v 6))]), .aug 6 .add (.k (.int 1))] [.ex (.mt .append (.v 5) [(.ix (.v 1) (.v 7))]), .aug 7 .add (.k (.int 1))]]
noncomputable def runE (k : T) (its : List D) (l r : List Nat) (i j : Nat) : Ev := [some (.c (.list (intsD l))), some (.c (.list (intsD r))), some (.c (.list [vecD k its])), some (.c (.list [.bool false])), some (.c (.bool true)), some (.r 0), some (.c (.int (i : Nat))), some (.c (.int (j : Nat)))] ++ List.replicate 16 none
theorem runs_loop (n : Nat) {k : T} {its : List D} (G : Good k its) (hi : its.length ≤ 1000) {l r : List Nat} (hl : ∀ p ∈ l, p < its.length) (hr : ∀ p ∈ r, p < its.length) (hs : l.length + r.length ≤ 60) :
    ∀ (f m i j : Nat) (acc : List Nat), l.length - i + (r.length - j) ≤ m → m < f → i ≤ l.length → j ≤ r.length → acc.Perm (l.take i ++ r.take j) →
    ∃ i' j' acc', whlL (E (n + 20)) runT runB f (runE k its l r i j) [.lst true (intsD acc)] = .ok (.nxt, runE k its l r i' j', [.lst true (intsD acc')]) ∧ i' ≤ l.length ∧ j' ≤ r.length ∧ acc'.Perm (l.take i' ++ r.take j')
  | 0, m, i, j, acc, h1, h2, h3, h4, h5 => absurd h2 (Nat.not_lt_zero _)
  | f + 1, m, i, j, acc, h1, h2, h3, h4, h5 => by
    have ll : ∀ μ, biop μ .len [.c (.list (intsD l))] = .ok (.c (.int (l.length : Nat)), μ) := fun μ => by
      have := op_len (μ := μ) (v := .c (.list (intsD l))) rfl (fits_of (by rw [ints_len]; lia))
      simpa [intsD] using this
    have lr : ∀ μ, biop μ .len [.c (.list (intsD r))] = .ok (.c (.int (r.length : Nat)), μ) := fun μ => by
      have := op_len (μ := μ) (v := .c (.list (intsD r))) rfl (fits_of (by rw [ints_len]; lia))
      simpa [intsD] using this
    have hal : acc.length = i + j := by rw [h5.length_eq, List.length_append, List.length_take, List.length_take]; lia
    by_cases q1 : i < l.length
    · by_cases q2 : j < r.length
      · have il : ∀ μ, ixop μ (.c (.list (intsD l))) (.c (.int (i : Nat))) = some (.c (.int (l.getD i 0 : Nat))) := fun μ => op_ixN rfl (ints_at q1) (by rw [ints_len]; lia)
        have ir : ∀ μ, ixop μ (.c (.list (intsD r))) (.c (.int (j : Nat))) = some (.c (.int (r.getD j 0 : Nat))) := fun μ => op_ixN rfl (ints_at q2) (by rw [ints_len]; lia)
        obtain ⟨c, hc⟩ := c_keys G hi (hl _ (nat_mem q1)) (hr _ (nat_mem q2))
        have ht : ∀ μ, evB (E (n + 20)) (runE k its l r i j) μ runT = .ok (true, μ) := fun μ =>
          evB_of (x_and (ao_cons (evB_of (x_cmp (x_v rfl) (x_bi (l_cons (x_v rfl) l_nil) (ll _)) rfl)) (ao_go (decide_eq_true (by lia)) (ao_one (evB_of (x_cmp (x_v rfl) (x_bi (l_cons (x_v rfl) l_nil) (lr _)) (by show some (decide _) = some true; rw [decide_eq_true (by lia)])))))))
        have hcmp : ∀ μ, evB (E (n + 19)) (runE k its l r i j) μ (.cmp .le (.fn 778 [(.v 2), (.ix (.v 0) (.v 6)), (.ix (.v 1) (.v 7)), (.v 3), (.v 4)]) (.k (.int 0))) = .ok (decide (c ≤ 0), μ) := fun μ =>
          evB_of (x_cmp (x_fn (l_cons (x_v rfl) (l_cons (x_ix (x_v rfl) (x_v rfl) (il _)) (l_cons (x_ix (x_v rfl) (x_v rfl) (ir _)) (l_cons (x_v rfl) (l_cons (x_v rfl) l_nil))))) rfl (hc _)) x_k rfl)
        have fa : fits (intsD acc) = true := fits_of (by rw [ints_len]; lia)
        by_cases q3 : c ≤ 0
        · obtain ⟨i', j', acc', e, e1, e2, e3⟩ := runs_loop n G hi hl hr hs f (m - 1) (i + 1) j (acc ++ [l.getD i 0]) (by lia) (by lia) (by lia) h4 (by
            rw [take_succ' q1]
            refine (List.Perm.append_right _ h5).trans ?_
            rw [List.append_assoc, List.append_assoc]
            exact List.Perm.append_left _ List.perm_append_comm)
          refine ⟨i', j', acc', ?_, e1, e2, e3⟩
          refine whl_go (ht _) (ss_cons (s_ife (hcmp _) (ite_t (decide_eq_true q3) (ss_cons (s_ex (x_mt (x_v rfl) (ok_lst rfl) (l_cons (x_ix (x_v rfl) (x_v rfl) (il _)) l_nil) (op_append rfl rfl fa))) (next_n (ss_cons (s_aug (a := (i : Nat)) (b := 1) rfl x_k) (next_n ss_nil)))))) (next_n ss_nil)) ?_
          rw [← ints_app] at e
          exact e
        · obtain ⟨i', j', acc', e, e1, e2, e3⟩ := runs_loop n G hi hl hr hs f (m - 1) i (j + 1) (acc ++ [r.getD j 0]) (by lia) (by lia) h3 (by lia) (by
            rw [take_succ' q2]
            refine (List.Perm.append_right _ h5).trans ?_
            rw [List.append_assoc])
          refine ⟨i', j', acc', ?_, e1, e2, e3⟩
          refine whl_go (ht _) (ss_cons (s_ife (hcmp _) (ite_f (decide_eq_false q3) (ss_cons (s_ex (x_mt (x_v rfl) (ok_lst rfl) (l_cons (x_ix (x_v rfl) (x_v rfl) (ir _)) l_nil) (op_append rfl rfl fa))) (next_n (ss_cons (s_aug (a := (j : Nat)) (b := 1) rfl x_k) (next_n ss_nil)))))) (next_n ss_nil)) ?_
          rw [← ints_app] at e
          exact e
      · refine ⟨i, j, acc, whl_end ?_, h3, h4, h5⟩
        exact evB_of (x_and (ao_cons (evB_of (x_cmp (x_v rfl) (x_bi (l_cons (x_v rfl) l_nil) (ll _)) rfl)) (ao_go (decide_eq_true (by lia)) (ao_one (evB_of (x_cmp (x_v rfl) (x_bi (l_cons (x_v rfl) l_nil) (lr _)) (by show some (decide _) = some false; rw [decide_eq_false (by lia)])))))))
    · refine ⟨i, j, acc, whl_end ?_, h3, h4, h5⟩
      exact evB_of (x_and (b := false) (ao_cons (evB_of (x_cmp (r := false) (x_v rfl) (x_bi (l_cons (x_v rfl) l_nil) (ll _)) (by show some (decide _) = some false; rw [decide_eq_false (by lia)]))) (ao_stop rfl)))
theorem c_runs (n : Nat) {k : T} {its : List D} (G : Good k its) (hi : its.length ≤ 1000) {l r : List Nat} (hl : ∀ p ∈ l, p < its.length) (hr : ∀ p ∈ r, p < its.length) (hs : l.length + r.length ≤ 60) :
    ∃ m : List Nat, m.Perm (l ++ r) ∧ cl (n + 22) 785 [.list (intsD l), .list (intsD r), .list [vecD k its], .list [.bool false], .bool true] = .ok (.list (intsD m)) := by
  obtain ⟨i, j, acc, e, e1, e2, e3⟩ := runs_loop n G hi hl hr hs 64 60 0 0 [] (by lia) (by lia) (by lia) (by lia) (.nil)
  have hal : acc.length = i + j := by rw [e3.length_eq, List.length_append, List.length_take, List.length_take]; lia
  refine ⟨acc ++ l.drop i ++ r.drop j, ?_, ?_⟩
  · refine (List.Perm.append_right _ (List.Perm.append_right _ e3)).trans ?_
    conv => rhs; rw [← List.take_append_drop i l, ← List.take_append_drop j r]
    rw [List.append_assoc, List.append_assoc, List.append_assoc]
    refine List.Perm.append_left _ ?_
    rw [← List.append_assoc, ← List.append_assoc]
    exact List.Perm.append_right _ List.perm_append_comm
  · have d1 := op_drop (μ := [.lst true (intsD acc)]) (x := .c (.list (intsD l))) (i := i) rfl (by rw [ints_len]; lia)
    have k1 := op_cat (μ := [.lst true (intsD acc), .lst true ((intsD l).drop i)]) (i := 0) (y := .r 1) rfl rfl (by simp [intsD]; lia)
    have d2 := op_drop (μ := [.lst true (intsD acc), .lst true ((intsD l).drop i), .lst true (intsD acc ++ (intsD l).drop i)]) (x := .c (.list (intsD r))) (i := j) rfl (by rw [ints_len]; lia)
    have k2 := op_cat (μ := [.lst true (intsD acc), .lst true ((intsD l).drop i), .lst true (intsD acc ++ (intsD l).drop i), .lst true ((intsD r).drop j)]) (i := 2) (y := .r 3) rfl rfl (by simp [intsD]; lia)
    refine cl_ret (ρ := (((runE k its l r 0 0).set 5 none).set 6 none).set 7 none) tab785 rfl (v := .r 4)
      (ss_cons (s_asg (x_list l_nil rfl rfl)) (next_n (ss_cons (s_asg x_k) (next_n (ss_cons (s_asg x_k) (next_n (ss_cons (s_whl e) (next_n (ss_cons (s_ret (x_bin (x_bin (x_v rfl) (x_sl (x_v rfl) (o_some (x_v rfl)) o_none d1) k1) (x_sl (x_v rfl) (o_some (x_v rfl)) o_none d2) k2)) next_r))))))))) ?_
    rw [← ints_app, ← ints_app, ints_drop, ints_drop]
    rfl
/-! ## loops with an invariant -/
section
variable {n : Nat} {ρ ρ' ρ₁ ρ₂ : Ev} {μ μ₁ μ₂ μ₃ : Mu}
theorem for_inv {ts : List Nat} {tp : Bool} {b : List S} (I : Nat → Ev → Mu → Prop) : ∀ (l : List D) (k : Nat) (ρ : Ev) (μ : Mu), I k ρ μ →
    (∀ j d, l[j]? = some d → ∀ ρ μ, I (k + j) ρ μ → ∃ ρ₁ ρ₂ μ₂, bindT ρ ts tp d = some ρ₁ ∧ evSs (E n) ρ₁ μ b = .ok (.nxt, ρ₂, μ₂) ∧ I (k + j + 1) ρ₂ μ₂) →
    ∃ ρ' μ', forL (E n) ts tp b ρ μ l = .ok (.nxt, ρ', μ') ∧ I (k + l.length) ρ' μ'
  | [], k, ρ, μ, h, _ => ⟨ρ, μ, rfl, h⟩
  | d :: r, k, ρ, μ, h, H => by
    obtain ⟨ρ₁, ρ₂, μ₂, e1, e2, e3⟩ := H 0 d rfl ρ μ h
    obtain ⟨ρ', μ', e4, e5⟩ := for_inv I r (k + 1) ρ₂ μ₂ e3 (fun j d hj ρ μ hi => by
      have := H (j + 1) d hj ρ μ (by rw [show k + (j + 1) = k + 1 + j by lia]; exact hi)
      rwa [show k + (j + 1) = k + 1 + j by lia] at this)
    exact ⟨ρ', μ', for_cons e1 e2 e4, by rw [List.length_cons, show k + (r.length + 1) = k + 1 + r.length by lia]; exact e5⟩
theorem whl_inv {t : X} {b : List S} (I : Nat → Ev → Mu → Prop) (J : Ev → Mu → Prop)
    (H : ∀ m ρ μ, I m ρ μ → (∃ μ₁, evB (E n) ρ μ t = .ok (false, μ₁) ∧ J ρ μ₁) ∨ ∃ μ₁ ρ₂ μ₂ m', evB (E n) ρ μ t = .ok (true, μ₁) ∧ evSs (E n) ρ μ₁ b = .ok (.nxt, ρ₂, μ₂) ∧ m' < m ∧ I m' ρ₂ μ₂) :
    ∀ (f m : Nat) (ρ : Ev) (μ : Mu), m < f → I m ρ μ → ∃ ρ' μ', whlL (E n) t b f ρ μ = .ok (.nxt, ρ', μ') ∧ J ρ' μ'
  | 0, m, ρ, μ, h, _ => absurd h (Nat.not_lt_zero _)
  | f + 1, m, ρ, μ, h, hi => by
    rcases H m ρ μ hi with ⟨μ₁, e1, e2⟩ | ⟨μ₁, ρ₂, μ₂, m', e1, e2, e3, e4⟩
    · exact ⟨ρ, μ₁, whl_end e1, e2⟩
    · obtain ⟨ρ', μ', e5, e6⟩ := whl_inv I J H f m' ρ₂ μ₂ (by lia) e4
      exact ⟨ρ', μ', whl_go e1 e2 e5, e6⟩
/-- all but q is kept -/
noncomputable def Kp (q : Nat) (μ μ' : Mu) : Prop := ∀ i, i ≠ q → i < μ.length → μ'[i]? = μ[i]?
theorem Kp.trans {q : Nat} (h : Kp q μ μ₁) (h' : Kp q μ₁ μ₂) (hl : μ.length ≤ μ₁.length) : Kp q μ μ₂ := fun i a b => (h' i a (Nat.lt_of_lt_of_le b hl)).trans (h i a b)
theorem comp_map {ts : List Nat} {tp : Bool} {e : X} {acc : Nat} (g : D → D) (μ0 : Mu) : ∀ (l a : List D) (μ : Mu), μ0.length ≤ μ.length → Kp acc μ0 μ → μ[acc]? = some (.lst true a) → a.length + l.length ≤ 1000 →
    (∀ d ∈ l, ∃ ρ₁, bindT ρ ts tp d = some ρ₁ ∧ ∀ μ, μ0.length ≤ μ.length → Kp acc μ0 μ → ∃ v μ₁ μ₂, (E n).x ρ₁ μ e = .ok (v, μ₁) ∧ frz μ₁ v = .ok (g d, μ₂) ∧ μ.length ≤ μ₂.length ∧ (∀ i, i < μ.length → μ₂[i]? = μ[i]?)) →
    ∃ μ', compL (E n) ρ ts tp [] e acc μ l = .ok μ' ∧ μ'[acc]? = some (.lst true (a ++ l.map g)) ∧ μ0.length ≤ μ'.length ∧ Kp acc μ0 μ'
  | [], a, μ, h1, h2, h3, h4, H => ⟨μ, rfl, by rw [List.map_nil, List.append_nil]; exact h3, h1, h2⟩
  | d :: l, a, μ, h1, h2, h3, h4, H => by
    obtain ⟨ρ₁, b1, b2⟩ := H d (.head _)
    obtain ⟨v, μ₁, μ₂, e1, e2, e3, e4⟩ := b2 μ h1 h2
    have hacc : acc < μ.length := (List.getElem?_eq_some_iff.mp h3).1
    have h3' : μ₂[acc]? = some (.lst true a) := (e4 acc hacc).trans h3
    obtain ⟨μ', c1, c2, c3, c4⟩ := comp_map g μ0 l (a ++ [g d]) (μ₂.set acc (.lst true (a ++ [g d]))) (by rw [List.length_set]; lia)
      (fun i hi hl => by rw [List.getElem?_set_ne (Ne.symm hi), e4 i (by lia)]; exact h2 i hi hl)
      (by rw [List.getElem?_set_self (by lia)]) (by simp at h4 ⊢; lia) (fun d m => H d (.tail _ m))
    refine ⟨μ', comp_cons b1 e1 e2 h3' (fits_of (by simp at h4; lia)) c1, ?_, c3, c4⟩
    rw [c2, List.append_assoc]; rfl
theorem x_map {b : Nat} {ts : List Nat} {tp : Bool} {it e : X} {x : V} {d : D} {l : List D} (g : D → D) (h1 : (E n).x ρ μ it = .ok (x, μ₁)) (h2 : frz μ₁ x = .ok (d, μ₂)) (h3 : itemsT tp d = some l) (hl : l.length ≤ 1000)
    (H : ∀ d ∈ l, ∃ ρ₁, bindT (clr b ρ) ts tp d = some ρ₁ ∧ ∀ μ, μ₂.length ≤ μ.length → (∀ i, i < μ₂.length → μ[i]? = μ₂[i]?) → ∃ v μ₁ μ₂, (E n).x ρ₁ μ e = .ok (v, μ₁) ∧ frz μ₁ v = .ok (g d, μ₂) ∧ μ.length ≤ μ₂.length ∧ (∀ i, i < μ.length → μ₂[i]? = μ[i]?)) :
    ∃ μ', (E (n + 1)).x ρ μ (.comp b ts tp it [] e) = .ok (.r μ₂.length, μ') ∧ μ'[μ₂.length]? = some (.lst true (l.map g)) ∧ μ₂.length < μ'.length ∧ ∀ i, i < μ₂.length → μ'[i]? = μ₂[i]? := by
  obtain ⟨μ', c1, c2, c3, c4⟩ := comp_map (n := n) (ρ := clr b ρ) (ts := ts) (tp := tp) (e := e) (acc := μ₂.length) g (μ₂ ++ [.lst true []]) l [] (μ₂ ++ [.lst true []]) (Nat.le_refl _) (fun _ _ _ => rfl) (by simp) (by simpa using hl) (fun d m => by
    obtain ⟨ρ₁, b1, b2⟩ := H d m
    refine ⟨ρ₁, b1, fun μ k1 k2 => b2 μ (by simp at k1; lia) fun i hi => ?_⟩
    rw [k2 i (by lia) (by simp; lia), List.getElem?_append_left hi])
  refine ⟨μ', x_comp h1 h2 h3 c1, ?_, by simp at c3; lia, fun i hi => ?_⟩
  · rw [c2]; rfl
  · rw [c4 i (by lia) (by simp; lia), List.getElem?_append_left hi]
end
/-! ## merge_sort -/
noncomputable def runsD (rs : List (List Nat)) : List D := rs.map fun r => .list (intsD r)
theorem runs_len (rs : List (List Nat)) : (runsD rs).length = rs.length := by simp [runsD]
theorem runs_at {l : List (List Nat)} {j : Nat} (h : j < l.length) : (runsD l)[j]? = some (.list (intsD (l.getD j []))) := by
  unfold runsD
  rw [List.getElem?_map, List.getD_eq_getElem?_getD, List.getElem?_eq_getElem h]; rfl
theorem takeL {l : List (List Nat)} {i : Nat} (h : i < l.length) : l.take (i + 1) = l.take i ++ [l.getD i []] := by
  rw [List.take_add_one, List.getD_eq_getElem?_getD, List.getElem?_eq_getElem h]; rfl
theorem memL {l : List (List Nat)} {i : Nat} (h : i < l.length) : l.getD i [] ∈ l := by
  rw [List.getD_eq_getElem?_getD, List.getElem?_eq_getElem h]; exact List.getElem_mem h
theorem rng2_all : (List.range 17).map (fun m : Nat => rngL 0 ((m : Int) - 1) 2) = (List.range 17).map fun m : Nat => (List.range (m / 2)).map fun i => D.int ((2 * i : Nat) : Int) := by kernel_rfl
theorem rng2 (m : Nat) (h : m ≤ 16) : rngL 0 ((m : Int) - 1) 2 = (List.range (m / 2)).map fun i => .int ((2 * i : Nat) : Int) := List.map_inj_left.mp rng2_all m (List.mem_range.mpr (Nat.lt_succ_of_le h))
noncomputable def srtT : X := (.cmp .gt (.bi .len [(.v 4)]) (.k (.int 1)))
noncomputable def srtI : List S := [.ex (.mt .append (.v 5) [(.fn 785 [(.ix (.v 4) (.v 6)), (.ix (.v 4) (.bin .add (.v 6) (.k (.int 1)))), (.v 1), (.v 2), (.v 3)])])]
noncomputable def srtB : List S := [.asg 5 (.list []), .for_ [6] false (.bi .range [(.k (.int 0)), (.bin .sub (.bi .len [(.v 4)]) (.k (.int 1))), (.k (.int 2))]) srtI, .ife (.cmp .eq (.bin .mod (.bi .len [(.v 4)]) (.k (.int 2))) (.k (.int 1))) [.ex (.mt .append (.v 5) [(.ix (.v 4) (.neg (.k (.int 1))))])] [], .asg 4 (.v 5)]
noncomputable def srtE (k : T) (its : List D) (ps : List Nat) (a b c : Option V) : Ev := [some (.c (.list (intsD ps))), some (.c (.list [vecD k its])), some (.c (.list [.bool false])), some (.c (.bool true)), a, b, c] ++ List.replicate 17 none
noncomputable def SrtI (k : T) (its : List D) (ps : List Nat) (m : Nat) (ρ : Ev) (μ : Mu) : Prop := ∃ q b c runs, ρ = srtE k its ps (some (.r q)) b c ∧ μ[q]? = some (.lst true (runsD runs)) ∧ runs.flatten.Perm ps ∧ runs.length = m ∧ m ≤ 16 ∧ 0 < m
theorem srt_step (n : Nat) {k : T} {its : List D} (G : Good k its) (hi : its.length ≤ 1000) {ps : List Nat} (hp : ∀ p ∈ ps, p < its.length) (hn : ps.length ≤ 16) (m : Nat) (ρ : Ev) (μ : Mu) (h : SrtI k its ps m ρ μ) :
    (∃ μ₁, evB (E (n + 27)) ρ μ srtT = .ok (false, μ₁) ∧ SrtI k its ps 1 ρ μ₁) ∨ ∃ μ₁ ρ₂ μ₂ m', evB (E (n + 27)) ρ μ srtT = .ok (true, μ₁) ∧ evSs (E (n + 27)) ρ μ₁ srtB = .ok (.nxt, ρ₂, μ₂) ∧ m' < m ∧ SrtI k its ps m' ρ₂ μ₂ := by
  obtain ⟨q, b, c, runs, rfl, hq, hP, hm, h16, h0⟩ := h
  have len : ∀ μ, μ[q]? = some (.lst true (runsD runs)) → biop μ .len [.r q] = .ok (.c (.int (m : Nat)), μ) := fun μ h => by
    have := op_len (μ := μ) (v := .r q) (l := runsD runs) (seeB h) (fits_of (by rw [runs_len]; lia))
    rwa [runs_len, hm] at this
  by_cases h1 : m = 1
  · subst h1
    exact .inl ⟨μ, evB_of (x_cmp (x_bi (l_cons (x_v rfl) l_nil) (len _ hq)) x_k rfl), q, b, c, runs, rfl, hq, hP, hm, h16, h0⟩
  refine .inr ⟨μ, ?_⟩
  have hql : q < μ.length := (List.getElem?_eq_some_iff.mp hq).1
  have hb : ∀ r ∈ runs, (∀ p ∈ r, p < its.length) ∧ r.length ≤ 16 := fun r hr => ⟨fun p hp' => hp p (hP.mem_iff.mp (List.mem_flatten.mpr ⟨r, hr, hp'⟩)), by
    have := (List.sublist_flatten_of_mem hr).length_le
    rw [hP.length_eq] at this; lia⟩
  have hat : ∀ μ', μ'[q]? = some (.lst true (runsD runs)) → ∀ j, j < m → ixop μ' (.r q) (.c (.int (j : Nat))) = some (.c (.list (intsD (runs.getD j [])))) := fun μ' h' j hj => op_ixN (seeB h') (runs_at (by lia)) (by rw [runs_len]; lia)
  have hF := for_inv (n := n + 26) (ts := [6]) (tp := false) (b := srtI) (fun j ρ μ' => j ≤ m / 2 → ∃ c lg, ρ = srtE k its ps (some (.r q)) (some (.r μ.length)) c ∧ μ'[q]? = some (.lst true (runsD runs)) ∧ μ'[μ.length]? = some (.lst true (runsD lg)) ∧ lg.length = j ∧ lg.flatten.Perm (runs.take (2 * j)).flatten)
    (rngL 0 ((m : Int) - 1) 2) 0 (srtE k its ps (some (.r q)) (some (.r μ.length)) c) (μ ++ [.lst true []])
    (fun _ => ⟨c, [], rfl, by rw [List.getElem?_append_left hql]; exact hq, by simp [runsD], rfl, .nil⟩)
    (fun j d hj ρ μ' hI => by
      rw [rng2 m h16, List.getElem?_map] at hj
      have hjm : j < m / 2 := by
        rcases Nat.lt_or_ge j (m / 2) with h | h
        · exact h
        · rw [List.getElem?_eq_none (by simpa using h)] at hj; cases hj
      rw [List.getElem?_range hjm] at hj
      cases hj
      obtain ⟨c', lg, rfl, i1, i2, i3, i4⟩ := hI (by lia)
      rw [Nat.zero_add] at i3 i4
      have m1 := memL (l := runs) (i := 2 * j) (by lia)
      have m2 := memL (l := runs) (i := 2 * j + 1) (by lia)
      obtain ⟨mm, p1, p2⟩ := c_runs (n + 1) G hi (hb _ m1).1 (hb _ m2).1 (by have := (hb _ m1).2; have := (hb _ m2).2; lia)
      refine ⟨srtE k its ps (some (.r q)) (some (.r μ.length)) (some (.c (.int ((2 * j : Nat) : Int)))), _, _, rfl, ss_cons (s_ex (x_mt (x_v rfl) (ok_lst i2) (l_cons (x_fn (l_cons (x_ix (x_v rfl) (x_v rfl) (hat _ i1 _ (by lia))) (l_cons (x_ix (x_v rfl) (x_bin (x_v rfl) x_k rfl) (hat _ i1 (2 * j + 1) (by lia))) (l_cons (x_v rfl) (l_cons (x_v rfl) (l_cons (x_v rfl) l_nil))))) rfl p2) l_nil) (op_append rfl i2 (fits_of (by rw [runs_len]; lia))))) (next_n ss_nil), fun _ => ⟨_, lg ++ [mm], rfl, ?_, ?_, by simp [i3], ?_⟩⟩
      · rw [List.getElem?_set_ne (by lia)]; exact i1
      · rw [List.getElem?_set_self (List.getElem?_eq_some_iff.mp i2).1]
        simp [runsD]
      · rw [show 2 * (0 + j + 1) = 2 * j + 1 + 1 by lia, takeL (by lia), takeL (by lia)]
        simp only [List.flatten_append, List.flatten_cons, List.flatten_nil, List.append_nil, List.append_assoc]
        exact i4.append p1)
  obtain ⟨ρ', μ', e1, e2⟩ := hF
  have rl : (rngL 0 ((m : Int) - 1) 2).length = m / 2 := by rw [rng2 m h16]; simp
  rw [rl, Nat.zero_add] at e2
  obtain ⟨c', lg, rfl, i1, i2, i3, i4⟩ := e2 (Nat.le_refl _)
  have itm : itemsT false (.rng 0 ((m : Int) - 1) 2) = some (rngL 0 ((m : Int) - 1) 2) := by
    unfold itemsT items tiny
    simp only [Bool.false_eq_true, if_false]
    rw [if_pos (by simp; lia)]
  have eF : (E (n + 27)).s (srtE k its ps (some (.r q)) (some (.r μ.length)) c) (μ ++ [.lst true []]) (.for_ [6] false (.bi .range [(.k (.int 0)), (.bin .sub (.bi .len [(.v 4)]) (.k (.int 1))), (.k (.int 2))]) srtI) = .ok (.nxt, srtE k its ps (some (.r q)) (some (.r μ.length)) c', μ') :=
    s_for (x_bi (l_cons x_k (l_cons (x_bin (x_bi (l_cons (x_v rfl) l_nil) (len _ (by rw [List.getElem?_append_left hql]; exact hq))) x_k rfl) (l_cons x_k l_nil))) rfl) rfl itm e1
  by_cases ho : m % 2 = 1
  · have lastI : ixop μ' (.r q) (.c (.int (-1))) = some (.c (.list (intsD (runs.getD (m - 1) [])))) := by
      show (if tiny (-1) = true then ((asSeq μ' (.r q)).bind fun l => atI l (-1)).map V.c else none) = _
      rw [if_pos (show tiny (-1) = true from rfl), show asSeq μ' (.r q) = some (runsD runs) from seeB i1]
      show (atI (runsD runs) (-1)).map V.c = _
      unfold atI PySem.seqIndex?
      rw [runs_len, hm]
      simp only [show ((-1 : Int) < 0) = True from by simp, if_true]
      rw [if_pos (by simp only [Bool.and_eq_true, decide_eq_true_eq]; lia)]
      rw [show ((-1 : Int) + (m : Nat)).toNat = m - 1 by lia]
      rw [Option.bind_some, runs_at (by lia)]
      rfl
    refine ⟨srtE k its ps (some (.r μ.length)) (some (.r μ.length)) c', _, m / 2 + 1, evB_of (x_cmp (x_bi (l_cons (x_v rfl) l_nil) (len _ hq)) x_k (by show some (decide _) = some true; rw [decide_eq_true (by lia)])),
      ss_cons (s_asg (x_list l_nil rfl rfl)) (next_n (ss_cons eF (next_n (ss_cons (s_ife (evB_of (x_cmp (x_bin (x_bi (l_cons (x_v rfl) l_nil) (len _ i1)) x_k rfl) x_k rfl)) (ite_t (by
        show (((m : Int).fmod 2) == 1) = true
        rw [beq_iff_eq, Int.fmod_eq_emod_of_nonneg _ (by lia)]; lia) (ss_cons (s_ex (x_mt (x_v rfl) (ok_lst i2) (l_cons (x_ix (x_v rfl) (x_neg x_k) lastI) l_nil) (op_append rfl i2 (fits_of (by rw [runs_len]; lia))))) (next_n ss_nil)))) (next_n (ss_cons (s_asg (x_v rfl)) (next_n ss_nil))))))),
      by lia, μ.length, _, c', lg ++ [runs.getD (m - 1) []], rfl, ?_, ?_, by simp [i3], by lia, by lia⟩
    · rw [List.getElem?_set_self (List.getElem?_eq_some_iff.mp i2).1]
      simp [runsD]
    · refine List.Perm.trans ?_ hP
      rw [List.flatten_append]
      refine (List.Perm.append_right _ i4).trans ?_
      conv => rhs; rw [show runs = runs.take (m - 1 + 1) by rw [List.take_of_length_le (by lia)]]
      rw [takeL (by lia), List.flatten_append, show 2 * (m / 2) = m - 1 by lia]
  · refine ⟨srtE k its ps (some (.r μ.length)) (some (.r μ.length)) c', _, m / 2, evB_of (x_cmp (x_bi (l_cons (x_v rfl) l_nil) (len _ hq)) x_k (by show some (decide _) = some true; rw [decide_eq_true (by lia)])),
      ss_cons (s_asg (x_list l_nil rfl rfl)) (next_n (ss_cons eF (next_n (ss_cons (s_ife (evB_of (x_cmp (x_bin (x_bi (l_cons (x_v rfl) l_nil) (len _ i1)) x_k rfl) x_k rfl)) (ite_f (by
        show (((m : Int).fmod 2) == 1) = false
        rw [beq_eq_false_iff_ne, Int.fmod_eq_emod_of_nonneg _ (by lia)]; lia) ss_nil)) (next_n (ss_cons (s_asg (x_v rfl)) (next_n ss_nil))))))),
      by lia, μ.length, _, c', lg, rfl, i2, ?_, i3, by lia, by lia⟩
    refine i4.trans ?_
    rw [List.take_of_length_le (by lia)]
    exact hP
theorem flat1 (ps : List Nat) : (ps.map fun p => [p]).flatten = ps := by
  induction ps with
  | nil => rfl
  | cons a l ih => rw [List.map_cons, List.flatten_cons, ih]; rfl
theorem c_sort (n : Nat) {k : T} {its : List D} (G : Good k its) (hi : its.length ≤ 1000) {ps : List Nat} (hp : ∀ p ∈ ps, p < its.length) (hn : ps.length ≤ 16) :
    ∃ m : List Nat, m.Perm ps ∧ cl (n + 29) 790 [.list (intsD ps), .list [vecD k its], .list [.bool false], .bool true] = .ok (.list (intsD m)) := by
  obtain ⟨μ', e1, e2, e3, e4⟩ := x_map (n := n + 27) (ρ := srtE k its ps none none none) (μ := []) (b := 7) (ts := [7]) (tp := false) (it := .v 0) (e := .list [.v 7]) (l := intsD ps) (fun d => .list [d]) (x_v rfl) rfl rfl (by rw [ints_len]; lia)
    (fun d hd => ⟨_, rfl, fun μ _ _ => by
      unfold intsD at hd
      obtain ⟨p, _, rfl⟩ := List.mem_map.mp hd
      have hs : fz 5 (μ ++ [P.lst true [.int (p : Nat)]]) (.r μ.length) = some (.list [.int (p : Nat)], (μ ++ [P.lst true [.int (p : Nat)]]).set μ.length (P.frz (.list [.int (p : Nat)]))) := by
        show (μ ++ [P.lst true [.int (p : Nat)]])[μ.length]?.bind _ = _
        rw [show (μ ++ [P.lst true [.int (p : Nat)]])[μ.length]? = some (.lst true [.int (p : Nat)]) by simp]
        rfl
      refine ⟨_, _, _, x_list (l_cons (x_v rfl) l_nil) rfl rfl, by unfold frz; rw [hs]; rfl, by simp, fun i hi => ?_⟩
      rw [List.getElem?_set_ne (by lia), List.getElem?_append_left hi]⟩)
  have e2' : μ'[0]? = some (.lst true (runsD (ps.map fun p => [p]))) := by
    refine Eq.trans e2 ?_
    simp [runsD, intsD]
  have fl := flat1 ps
  have asq : asSeq μ' (.r 0) = some (runsD (ps.map fun p => [p])) := seeB e2'
  have len : biop μ' .len [.r 0] = .ok (.c (.int (ps.length : Nat)), μ') := by
    have := op_len (μ := μ') (v := .r 0) asq (fits_of (by rw [runs_len, List.length_map]; lia))
    rwa [runs_len, List.length_map] at this
  by_cases h0 : ps.length = 0
  · have : ps = [] := List.length_eq_zero_iff.mp h0
    subst this
    exact ⟨[], .nil, by kernel_rfl⟩
  · obtain ⟨ρ1, μ1, w1, w2⟩ := whl_inv (n := n + 27) (t := srtT) (b := srtB) (SrtI k its ps) (SrtI k its ps 1) (srt_step n G hi hp hn) 64 ps.length (srtE k its ps (some (.r 0)) none none) μ' (by lia) ⟨0, none, none, ps.map fun p => [p], rfl, e2', by rw [fl], by simp, hn, by lia⟩
    obtain ⟨q, b, c, runs, rfl, hq, hP, hm, -, -⟩ := w2
    obtain ⟨r, rfl⟩ : ∃ r, runs = [r] := by
      match runs, hm with
      | [r], _ => exact ⟨r, rfl⟩
    refine ⟨r, by simpa using hP, ?_⟩
    have hix : ixop μ1 (.r q) (.c (.int (0 : Nat))) = some (.c (.list (intsD r))) := op_ixN (l := runsD [r]) (seeB hq) (runs_at (l := [r]) (by simp)) (by rw [runs_len]; simp)
    refine cl_ret (ρ := srtE k its ps none none none) tab790 rfl (v := .c (.list (intsD r))) (ss_cons (s_asgC e1) (next_n (ss_cons (s_ife (evB_of (x_cmp (x_bi (l_cons (x_v rfl) l_nil) len) x_k rfl)) (ite_f (by
      show (((ps.length : Nat) : Int) == 0) = false
      rw [beq_eq_false_iff_ne]; lia) ss_nil)) (next_n (ss_cons (s_whl w1) (next_n (ss_cons (s_ret (x_ix (x_v rfl) x_k hix)) next_r))))))) rfl
/-! ## order_by -/
theorem c_len (n : Nat) {k : T} {its : List D} (G : Good k its) (hi : its.length ≤ 1000) : cl (n + 12) 350 [vecD k its] = .ok (.int (its.length : Nat)) := by
  have hl : ∀ μ, biop μ .len [.c (.list its)] = .ok (.c (.int its.length), μ) := fun μ => op_len rfl (fits_of (Nat.le_trans hi (by decide)))
  rcases G with ⟨rfl, -⟩ | ⟨rfl, -⟩
  · exact cl_ret (ρ := [some (V.c (vecD kInt its))] ++ List.replicate 23 none) tab350 rfl (v := .c (.int its.length)) (ss_cons (s_asg (x_at (x_v rfl) rfl)) (next_n (ss_cons (s_ife (evB_of (x_cmp (x_v rfl) x_k rfl)) (ite_f rfl ss_nil)) (next_n (ss_cons (s_ife (evB_of (x_or (ao_cons (evB_of (x_bi (l_cons (x_v rfl) (l_cons x_k l_nil)) rfl)) (ao_stop rfl)))) (ite_t rfl (ss_cons (s_ret (x_bi (l_cons (x_at (x_v rfl) rfl) l_nil) (hl _))) next_r))) next_r))))) rfl
  · exact cl_ret (ρ := [some (V.c (vecD kChr its))] ++ List.replicate 23 none) tab350 rfl (v := .c (.int its.length)) (ss_cons (s_asg (x_at (x_v rfl) rfl)) (next_n (ss_cons (s_ife (evB_of (x_cmp (x_v rfl) x_k rfl)) (ite_f rfl ss_nil)) (next_n (ss_cons (s_ife (evB_of (x_or (ao_cons (evB_of (x_bi (l_cons (x_v rfl) (l_cons x_k l_nil)) rfl)) (ao_stop rfl)))) (ite_t rfl (ss_cons (s_ret (x_bi (l_cons (x_at (x_v rfl) rfl) l_nil) (hl _))) next_r))) next_r))))) rfl
theorem c_srtb (n : Nat) {k : T} {its : List D} (G : Good k its) : cl (n + 12) 764 [vecD k its] = .ok .none := by
  rcases G with ⟨rfl, -⟩ | ⟨rfl, -⟩ <;> kernel_rfl
theorem c_each (n : Nat) : cl (n + 12) 795 [.bool false, .int 1] = .ok (.list [.bool false]) := by kernel_rfl
noncomputable def kepB : List S := [.asg 4 (.k (.bool true)), .ife (.cmp .is (.v 1) (.k .none)) [.for_ [5] false (.v 0) [.ife (.fn 750 [(.at (.v 5) .kind), (.ix (.at (.v 5) .items) (.v 3))]) [.asg 4 (.k (.bool false))] []]] [], .ife (.v 4) [.ex (.mt .append (.v 2) [(.v 3)])] []]
theorem range_snoc (m : Nat) : intsD (List.range m) ++ [.int (m : Nat)] = intsD (List.range (m + 1)) := by
  unfold intsD
  rw [List.range_succ, List.map_append]; rfl
theorem rng_at {m j : Nat} {d : D} (h : (intsD (List.range m))[j]? = some d) : d = .int (j : Nat) ∧ j < m := by
  unfold intsD at h
  rw [List.getElem?_map] at h
  rcases Nat.lt_or_ge j m with q | q
  · rw [List.getElem?_range q] at h
    exact ⟨(Option.some.inj h).symm, q⟩
  · rw [List.getElem?_eq_none (by rw [List.length_range]; exact q)] at h
    exact nomatch h
theorem rng_len (m : Nat) : (intsD (List.range m)).length = m := by rw [ints_len, List.length_range]
noncomputable def kepE (k : T) (its : List D) (a b c : Option V) : Ev := [some (.c (.list [vecD k its])), some (.c (.bool true)), a, b, c] ++ List.replicate 19 none
theorem c_kplaces (n : Nat) {k : T} {its : List D} (G : Good k its) (hi : its.length ≤ 1000) : cl (n + 20) 802 [.list [vecD k its], .bool true] = .ok (.list (intsD (List.range its.length))) := by
  have hl := c_len (n + 4) G hi
  obtain ⟨ρ', μ', e1, c', d', rfl, rfl⟩ := for_inv (n := n + 18) (ts := [3]) (tp := false) (b := kepB) (fun j ρ μ => ∃ c d, ρ = kepE k its (some (.r 0)) c d ∧ μ = [.lst true (intsD (List.range j))])
    (intsD (List.range its.length)) 0 _ _ ⟨none, none, rfl, rfl⟩ (fun j d hj ρ μ hI => by
      obtain ⟨c, d', rfl, rfl⟩ := hI
      obtain ⟨rfl, hjm⟩ := rng_at hj
      rw [Nat.zero_add]
      refine ⟨_, _, _, rfl, ss_cons (s_asg x_k) (next_n (ss_cons (s_ife (evB_of (x_cmp (x_v rfl) x_k rfl)) (ite_f rfl ss_nil)) (next_n (ss_cons (s_ife (evB_of (x_v rfl)) (ite_t rfl (ss_cons (s_ex (x_mt (x_v rfl) (ok_lst rfl) (l_cons (x_v rfl) l_nil) (op_append rfl rfl (fits_of (by rw [rng_len]; exact Nat.le_trans (Nat.le_of_lt hjm) (Nat.le_trans hi (by decide))))))) (next_n ss_nil)))) (next_n ss_nil))))), some (.c (.int (j : Nat))), some (.c (.bool true)), rfl, ?_⟩
      rw [← range_snoc]; rfl)
  rw [rng_len, Nat.zero_add] at e1
  exact cl_ret (ρ := [some (V.c (.list [vecD k its])), some (V.c (.bool true)), none, none, none] ++ List.replicate 19 none) tab802 rfl (v := .r 0) (ss_cons (s_asg (x_list l_nil rfl rfl)) (next_n (ss_cons (s_for (μ₂ := [.lst true []]) (x_bi (l_cons (x_fn (l_cons (x_ix (x_v rfl) x_k rfl) l_nil) rfl hl) l_nil) rfl) rfl (items_rng hi) (by exact e1)) (next_n (ss_cons (s_ret (x_v rfl)) next_r))))) rfl
theorem c_order (n : Nat) {k : T} {its : List D} (G : Good k its) (hn : its.length ≤ 16) : ∃ m : List Nat, m.Perm (List.range its.length) ∧ cl (n + 32) 810 [.list [vecD k its]] = .ok (.list (intsD m)) := by
  have hi : its.length ≤ 1000 := Nat.le_trans hn (by decide)
  obtain ⟨m, p, hs⟩ := c_sort n G hi (ps := List.range its.length) (fun p hp => List.mem_range.mp hp) (by rw [List.length_range]; exact hn)
  refine ⟨m, p, ?_⟩
  have h0 : itemsT false (.list [vecD k its]) = some [vecD k its] := rfl
  refine cl_ret (ρ := [some (V.c (.list [vecD k its])), some (V.c (.bool false)), some (V.c (.bool true))] ++ List.replicate 21 none) tab810 rfl (v := .c (.list (intsD m))) (ss_cons (s_ife (evB_of (x_cmp (x_bi (l_cons (x_v rfl) l_nil) rfl) x_k rfl)) (ite_f rfl ss_nil)) (next_n (ss_cons (s_for (x_v rfl) rfl h0 (for_cons rfl (ss_cons (s_ex (x_fn (l_cons (x_v rfl) l_nil) rfl (c_srtb (n + 16) G))) (next_n (ss_cons (s_ife (evB_of (x_cmp (x_fn (l_cons (x_v rfl) l_nil) rfl (c_len (n + 15) G hi)) (x_fn (l_cons (x_ix (x_v rfl) x_k rfl) l_nil) rfl (c_len (n + 15) G hi)) (by
      show some (((its.length : Nat) : Int) != (its.length : Nat)) = some false
      rw [bne_self_eq_false]))) (ite_f rfl ss_nil)) (next_n ss_nil)))) for_nil)) (next_n (ss_cons (s_asg (x_fn (l_cons (x_v rfl) (l_cons (x_bi (l_cons (x_v rfl) l_nil) rfl) l_nil)) rfl (c_each (n + 17)))) (next_n (ss_cons (s_ret (x_fn (l_cons (x_fn (l_cons (x_v rfl) (l_cons (x_v rfl) l_nil)) rfl (c_kplaces (n + 8) G hi)) (l_cons (x_v rfl) (l_cons (x_v rfl) (l_cons (x_or (ao_cons (evB_of (x_cmp (x_v rfl) x_k rfl)) (ao_go rfl (ao_one (evB_of (x_v rfl)))))) l_nil)))) rfl hs)) next_r))))))) rfl
section
variable {n : Nat} {ρ ρ' ρ₁ ρ₂ : Ev} {μ μ₁ μ₂ μ₃ : Mu}
/-- a comprehension whose items make no objects -/
theorem comp0 {ts : List Nat} {tp : Bool} {e : X} (g : D → D) (μ0 : Mu) : ∀ (l a : List D), a.length + l.length ≤ 1000 → (∀ d ∈ l, ∃ ρ₁, bindT ρ ts tp d = some ρ₁ ∧ ∀ μ, (∀ i, i < μ0.length → μ[i]? = μ0[i]?) → (E n).x ρ₁ μ e = .ok (.c (g d), μ)) →
    compL (E n) ρ ts tp [] e μ0.length (μ0 ++ [.lst true a]) l = .ok (μ0 ++ [.lst true (a ++ l.map g)])
  | [], a, _, _ => by rw [List.map_nil, List.append_nil]; rfl
  | d :: l, a, h, H => by
    obtain ⟨ρ₁, b1, b2⟩ := H d (.head _)
    have ih := comp0 g μ0 l (a ++ [g d]) (by rw [List.length_append]; rw [List.length_cons] at h; rw [List.length_singleton]; lia) fun d m => H d (.tail _ m)
    refine comp_cons b1 (b2 _ fun i hi => List.getElem?_append_left hi) rfl (List.getElem?_concat_length ..) (fits_of (by rw [List.length_cons] at h; lia)) ?_
    rw [List.set_append_right _ _ (Nat.le_refl _), Nat.sub_self]
    rw [List.append_assoc] at ih
    exact ih
theorem x_map0 {b : Nat} {ts : List Nat} {tp : Bool} {it e : X} {x : V} {d : D} {l : List D} (g : D → D) (h1 : (E n).x ρ μ it = .ok (x, μ₁)) (h2 : frz μ₁ x = .ok (d, μ₂)) (h3 : itemsT tp d = some l) (hl : l.length ≤ 1000)
    (H : ∀ d ∈ l, ∃ ρ₁, bindT (clr b ρ) ts tp d = some ρ₁ ∧ ∀ μ, (∀ i, i < μ₂.length → μ[i]? = μ₂[i]?) → (E n).x ρ₁ μ e = .ok (.c (g d), μ)) :
    (E (n + 1)).x ρ μ (.comp b ts tp it [] e) = .ok (.r μ₂.length, μ₂ ++ [.lst true (l.map g)]) :=
  x_comp h1 h2 h3 (comp0 g μ₂ l [] (by rw [List.length_nil]; lia) H)
theorem comp_skips {ts : List Nat} {tp : Bool} {e t : X} {acc : Nat} : ∀ (l : List D), (∀ d ∈ l, ∃ ρ₁, bindT ρ ts tp d = some ρ₁ ∧ evB (E n) ρ₁ μ t = .ok (false, μ)) → compL (E n) ρ ts tp [t] e acc μ l = .ok μ
  | [], _ => rfl
  | d :: l, H => by
    obtain ⟨ρ₁, b1, b2⟩ := H d (.head _)
    exact comp_skip b1 b2 (comp_skips l fun d m => H d (.tail _ m))
end
/-! ## key_column -/
theorem pairs_mem {ps : List (Nat × Nat)} {d : D} (h : d ∈ pairsD ps) : ∃ p ∈ ps, d = pairD p := by
  obtain ⟨p, m, e⟩ := List.mem_map.mp h
  exact ⟨p, m, e.symm⟩
theorem pairs_len (ps : List (Nat × Nat)) : (pairsD ps).length = ps.length := by unfold pairsD; rw [List.length_map]
noncomputable def sub0 : D → D | .tup (a :: _) => a | _ => .none
noncomputable def sub1 : D → D | .tup [_, a] => a | _ => .none
theorem sub0_map (ps : List (Nat × Nat)) : (pairsD ps).map sub0 = intsD (ps.map (·.1)) := by
  unfold pairsD intsD
  rw [List.map_map, List.map_map]; rfl
theorem sub1_map (ps : List (Nat × Nat)) : (pairsD ps).map sub1 = intsD (ps.map (·.2)) := by
  unfold pairsD intsD
  rw [List.map_map, List.map_map]; rfl
noncomputable def kcE (x y : D) (ps : List (Nat × Nat)) : Ev := [some (.c x), some (.c y), some (.c (.list (pairsD ps)))] ++ List.replicate 21 none
theorem c_keycol (n : Nat) (k : T) (its : List D) (y : D) (ps : List (Nat × Nat)) (hp : ∀ p ∈ ps, p.1 < its.length) (hi : its.length ≤ 1000) (ha : ps.length ≤ 1000) : cl (n + 16) 877 [vecD k its, y, .list (pairsD ps)] = .ok (vecD k (pickD its (ps.map (·.1)))) := by
  have c1 : (E (n + 12)).x (kcE (vecD k its) y ps) [] (.comp 8 [8,9] true (.v 2) [(.cmp .is (.v 8) (.k .none))] (.v 8)) = .ok (.r 0, [.lst true []]) :=
    x_comp (μ₂ := []) (l := pairsD ps) (x_v rfl) rfl rfl (by
      refine comp_skips _ fun d m => ?_
      obtain ⟨p, -, rfl⟩ := pairs_mem m
      exact ⟨_, rfl, evB_of (x_cmp (x_v rfl) x_k rfl)⟩)
  have c2 : (E (n + 12)).x (kcE (vecD k its) y ps) [.lst true []] (.comp 8 [8,9] true (.v 2) [] (.v 8)) = .ok (.r 1, [.lst true [], .lst true ((pairsD ps).map sub0)]) :=
    x_map0 (μ₂ := [.lst true []]) sub0 (x_v rfl) rfl rfl (by rw [pairs_len]; exact ha) fun d m => by
      obtain ⟨p, -, rfl⟩ := pairs_mem m
      exact ⟨_, rfl, fun μ _ => x_v rfl⟩
  have hk := c_pick n k its (ps.map (·.1)) (fun q m => by obtain ⟨p, m', rfl⟩ := List.mem_map.mp m; exact hp p m') hi (by rw [List.length_map]; exact ha)
  rw [sub0_map] at c2
  exact cl_ret (ρ := kcE (vecD k its) y ps) tab877 rfl (v := .c (vecD k (pickD its (ps.map (·.1))))) (ss_cons (s_ife (evB_of (x_cmp (x_bi (l_cons c1 l_nil) rfl) x_k rfl)) (ite_t rfl (ss_cons (s_ret (x_fn (l_cons (x_v rfl) (l_cons c2 l_nil)) rfl hk)) next_r))) next_r) rfl
/-! ## row_keys -/
noncomputable def lists : Nat → List (List Nat)
  | 0 => [[]]
  | n + 1 => [] :: ((lists n).map (0 :: ·) ++ (lists n).map (1 :: ·) ++ (lists n).map (2 :: ·))
theorem lists_mem : ∀ (m : Nat) (l : List Nat), l.length ≤ m → (∀ d ∈ l, d < 3) → l ∈ lists m
  | 0, [], _, _ => .head _
  | m + 1, [], _, _ => .head _
  | m + 1, d :: l, h, H => by
    have ih := lists_mem m l (Nat.le_of_succ_le_succ h) fun d m => H d (.tail _ m)
    have hd := H d (.head _)
    have : d = 0 ∨ d = 1 ∨ d = 2 := by lia
    refine .tail _ ?_
    rcases this with rfl | rfl | rfl
    · exact List.mem_append_left _ (List.mem_append_left _ (List.mem_map.mpr ⟨l, ih, rfl⟩))
    · exact List.mem_append_left _ (List.mem_append_right _ (List.mem_map.mpr ⟨l, ih, rfl⟩))
    · exact List.mem_append_right _ (List.mem_map.mpr ⟨l, ih, rfl⟩)
noncomputable def keyI (d : Nat) : T := [50,58,61,48 + d]
noncomputable def keyS (d : Nat) : T := [51,58,61,107,48 + d]
noncomputable def itsS (kl : List Nat) : List D := kl.map fun d => .str [107, 48 + d]
noncomputable def itsT (kl : List Nat) : List D := kl.map fun d => .str [48 + d]
theorem c_rkI_all (n : Nat) : (lists 4).map (fun l => cl (n + 36) 839 [.list [vecD kInt (intsD l)], .int (l.length : Nat)]) = (lists 4).map fun l => .ok (.list (strsD (l.map keyI))) := by kernel_rfl
theorem c_rkI (n : Nat) {l : List Nat} (h : l.length ≤ 4) (H : ∀ d ∈ l, d < 3) : cl (n + 36) 839 [.list [vecD kInt (intsD l)], .int (l.length : Nat)] = .ok (.list (strsD (l.map keyI))) :=
  List.map_inj_left.mp (c_rkI_all n) l (lists_mem 4 l h H)
theorem c_rkS (n : Nat) {l : List Nat} (h : l.length ≤ 4) : cl (n + 36) 839 [.list [vecD kChr (itsS l)], .int (l.length : Nat)] = .ok (.list (strsD (l.map keyS))) :=
  match l, h with
  | [], _ => by kernel_rfl
  | [_], _ => by kernel_rfl
  | [_, _], _ => by kernel_rfl
  | [_, _, _], _ => by kernel_rfl
  | [_, _, _, _], _ => by kernel_rfl
theorem c_rkT (n : Nat) {l : List Nat} (h : l.length ≤ 4) : cl (n + 36) 839 [.list [vecD kChr (itsT l)], .int (l.length : Nat)] = .ok (.list (strsD (l.map keyI))) :=
  match l, h with
  | [], _ => by kernel_rfl
  | [_], _ => by kernel_rfl
  | [_, _], _ => by kernel_rfl
  | [_, _, _], _ => by kernel_rfl
  | [_, _, _, _], _ => by kernel_rfl
/-! ## frames -/
noncomputable def frD (cols : List D) (names : List T) (rw : List D) : D := .vec (.str [108,105,115,116]) (.list cols) (.dict [([110,97,109,101,115], vecD kChr (strsD names)), ([99,108,97,115,115], vecD kChr [.str [100,97,116,97,46,102,114,97,109,101]]), ([114,111,119,46,110,97,109,101,115], vecD kInt rw)])
noncomputable def nA : T := [97]
noncomputable def nV : T := [118]
noncomputable def nW : T := [119]
noncomputable def nAy : T := [97,46,121]
noncomputable def eX : T := [46,120]
noncomputable def eY : T := [46,121]
theorem c_rows (n : Nat) (cols : List D) (names : List T) (rw : List D) (h : rw.length ≤ 1000) : cl (n + 12) 703 [frD cols names rw] = .ok (.int (rw.length : Nat)) := by
  have hl : ∀ μ, biop μ .len [.c (.list rw)] = .ok (.c (.int rw.length), μ) := fun μ => op_len rfl (fits_of (Nat.le_trans h (by decide)))
  exact cl_ret (ρ := [some (V.c (frD cols names rw))] ++ List.replicate 23 none) tab703 rfl (v := .c (.int rw.length)) (ss_cons (s_ife (evB_of (x_or (ao_cons (evB_of (x_cmp (x_at (x_v rfl) rfl) x_k rfl)) (ao_go rfl (ao_one (evB_of (x_cmp x_k (x_at (x_v rfl) rfl) rfl))))))) (ite_f rfl ss_nil)) (next_n (ss_cons (s_ret (x_bi (l_cons (x_at (x_ix (x_at (x_v rfl) rfl) x_k rfl) rfl) l_nil) (hl _))) next_r))) rfl
theorem of_map {F G : Nat → Res D} : ∀ (l : List Nat), l.map F = l.foldr (fun m r => G m :: r) [] → ∀ m ∈ l, F m = G m
  | [], _, m, h => nomatch h
  | a :: l, e, m, h => by
    have e1 : F a = G a := List.head_eq_of_cons_eq e
    have e2 := List.tail_eq_of_cons_eq e
    rcases List.mem_cons.mp h with rfl | h
    · exact e1
    · exact of_map l e2 m h
theorem c_prows_all (n : Nat) : (List.range 17).map (fun m => cl (n + 34) 696 [.int (m : Nat)]) = (List.range 17).foldr (fun m r => .ok (vecD kInt (rngL 1 ((m : Int) + 1) 1)) :: r) [] := by kernel_rfl
theorem c_prows (n : Nat) {m : Nat} (h : m ≤ 16) : cl (n + 34) 696 [.int (m : Nat)] = .ok (vecD kInt (rngL 1 ((m : Int) + 1) 1)) := of_map _ (c_prows_all n) m (List.mem_range.mpr (Nat.lt_succ_of_le h))
theorem c_checkX (n : Nat) (k : T) (its more rw : List D) : cl (n + 34) 846 [frD [vecD k its, vecD kInt more] [nA, nV] rw, .list [.str nA]] = .ok (.list [.int 0]) := by kernel_rfl
theorem c_checkW (n : Nat) (k : T) (its more rw : List D) : cl (n + 34) 846 [frD [vecD k its, vecD kInt more] [nA, nW] rw, .list [.str nA]] = .ok (.list [.int 0]) := by kernel_rfl
theorem c_checkY (n : Nat) (k : T) (its more rw : List D) : cl (n + 34) 846 [frD [vecD k its, vecD kInt more] [nA, nAy] rw, .list [.str nA]] = .ok (.list [.int 0]) := by kernel_rfl
theorem c_check1 (n : Nat) (k : T) (its rw : List D) : cl (n + 34) 846 [frD [vecD k its] [nA] rw, .list [.str nA]] = .ok (.list [.int 0]) := by kernel_rfl
theorem c_names (n : Nat) (cols : List D) (a : T) (l : List T) (rw : List D) (h : l = [] ∨ ∃ b, l = [b]) : cl (n + 34) 708 [frD cols (a :: l) rw] = .ok (.list (strsD (a :: l))) := by
  rcases h with rfl | ⟨b, rfl⟩ <;> kernel_rfl
theorem c_other1 (n : Nat) : cl (n + 34) 884 [.list (strsD [nA]), .list (strsD [nA, nV]), .list (strsD [nA]), .str eY] = .ok (.list []) := by kernel_rfl
theorem c_otherX1 (n : Nat) : cl (n + 34) 884 [.list (strsD [nA, nV]), .list (strsD [nA]), .list (strsD [nA]), .str eX] = .ok (.list (strsD [nV])) := by kernel_rfl
theorem c_otherXW (n : Nat) : cl (n + 34) 884 [.list (strsD [nA, nV]), .list (strsD [nA, nW]), .list (strsD [nA]), .str eX] = .ok (.list (strsD [nV])) := by kernel_rfl
theorem c_otherXY (n : Nat) : cl (n + 34) 884 [.list (strsD [nA, nV]), .list (strsD [nA, nAy]), .list (strsD [nA]), .str eX] = .ok (.list (strsD [nV])) := by kernel_rfl
theorem c_otherW (n : Nat) : cl (n + 34) 884 [.list (strsD [nA, nW]), .list (strsD [nA, nV]), .list (strsD [nA]), .str eY] = .ok (.list (strsD [nW])) := by kernel_rfl
theorem c_otherY (n : Nat) : cl (n + 34) 884 [.list (strsD [nA, nAy]), .list (strsD [nA, nV]), .list (strsD [nA]), .str eY] = .ok (.list (strsD [nAy])) := by kernel_rfl
theorem c_newfr3 (n : Nat) (k : T) (a b c rw : List D) (n1 n2 n3 : T) : cl (n + 34) 689 [.list [vecD k a, vecD kInt b, vecD kInt c], .list (strsD [n1, n2, n3]), vecD kInt rw] = .ok (frD [vecD k a, vecD kInt b, vecD kInt c] [n1, n2, n3] rw) := by kernel_rfl
theorem c_newfr2 (n : Nat) (k : T) (a b rw : List D) (n1 n2 : T) : cl (n + 34) 689 [.list [vecD k a, vecD kInt b], .list (strsD [n1, n2]), vecD kInt rw] = .ok (frD [vecD k a, vecD kInt b] [n1, n2] rw) := by kernel_rfl
theorem c_newfr1 (n : Nat) (k : T) (a rw : List D) (n1 : T) : cl (n + 34) 689 [.list [vecD k a], .list (strsD [n1]), vecD kInt rw] = .ok (frD [vecD k a] [n1] rw) := by kernel_rfl
theorem c_askeyI (n : Nat) (a : List D) (y : D) : cl (n + 34) 834 [vecD kInt a, y] = .ok (vecD kInt a) := by kernel_rfl
theorem c_askeyS (n : Nat) (a : List D) (y : D) : cl (n + 34) 834 [vecD kChr a, y] = .ok (vecD kChr a) := by kernel_rfl
theorem c_askey (n : Nat) {k : T} (h : k = kInt ∨ k = kChr) (a : List D) (y : D) : cl (n + 34) 834 [vecD k a, y] = .ok (vecD k a) := by
  rcases h with rfl | rfl
  · exact c_askeyI n a y
  · exact c_askeyS n a y
theorem c_mordI (n : Nat) (a : List D) : cl (n + 34) 896 [.list [vecD kInt a], .bool false] = .ok (.list [vecD kInt a]) := by kernel_rfl
theorem c_mordS (n : Nat) (a : List D) : cl (n + 34) 896 [.list [vecD kChr a], .bool false] = .ok (.list [vecD kChr a]) := by kernel_rfl
theorem c_mord (n : Nat) {k : T} (h : k = kInt ∨ k = kChr) (a : List D) : cl (n + 34) 896 [.list [vecD k a], .bool false] = .ok (.list [vecD k a]) := by
  rcases h with rfl | rfl
  · exact c_mordI n a
  · exact c_mordS n a
theorem c_merged (n : Nat) (xs ys : List T) (hx : xs.length ≤ 4) (hy : ys.length ≤ 4) : cl (n + 14) 872 [.list (strsD xs), .list (strsD ys), .bool false, .bool false] = .ok (.list (pairsD (pairs xs ys))) := by
  exact cl_ret (ρ := [some (V.c (.list (strsD xs))), some (V.c (.list (strsD ys))), some (V.c (.bool false)), some (V.c (.bool false))] ++ List.replicate 20 none) tab872 rfl (v := .c (.list (pairsD (pairs xs ys)))) (ss_cons (s_asg (x_fn (l_cons (x_v rfl) (l_cons (x_v rfl) l_nil)) rfl (c_matched n xs ys hx hy))) (next_n (ss_cons (s_ife (evB_of (x_v rfl)) (ite_f rfl ss_nil)) (next_n (ss_cons (s_ife (evB_of (x_v rfl)) (ite_f rfl ss_nil)) (next_n (ss_cons (s_ret (x_v rfl)) next_r))))))) rfl
/-! ## merge_frames -/
theorem idx_mem {ys : List T} {t : T} {j : Nat} (h : j ∈ idx ys t) : j < ys.length := List.mem_range.mp (List.mem_filter.mp h).1
theorem pairs_lt {xs ys : List T} {p : Nat × Nat} (h : p ∈ pairs xs ys) : p.1 < xs.length ∧ p.2 < ys.length := by
  obtain ⟨i, hi, h2⟩ := List.mem_flatMap.mp h
  obtain ⟨j, hj, rfl⟩ := List.mem_map.mp h2
  exact ⟨List.mem_range.mp hi, idx_mem hj⟩
theorem flat_len {α β : Type} (f : α → List β) (c : Nat) : ∀ l : List α, (∀ a ∈ l, (f a).length ≤ c) → (l.flatMap f).length ≤ c * l.length
  | [], _ => Nat.le_refl _
  | a :: l, h => by
    have := flat_len f c l fun b m => h b (.tail _ m)
    have := h a (.head _)
    rw [List.flatMap_cons, List.length_append, List.length_cons, Nat.mul_succ]; lia
theorem pairs_le {xs ys : List T} (hx : xs.length ≤ 4) (hy : ys.length ≤ 4) : (pairs xs ys).length ≤ 16 := by
  have := flat_len (fun i => (idx ys (xs.getD i [])).map (i, ·)) 4 (List.range xs.length) fun a _ => by rw [List.length_map]; exact Nat.le_trans (idx_le _ _) hy
  rw [List.length_range] at this
  unfold pairs; lia
theorem pick_len (its : List D) (ps : List Nat) : (pickD its ps).length = ps.length := List.length_map ..
theorem good_pick {k : T} {its : List D} (G : Good k its) {ps : List Nat} (h : ∀ p ∈ ps, p < its.length) : Good k (pickD its ps) := by
  have : ∀ d ∈ pickD its ps, d ∈ its := fun d m => by
    obtain ⟨p, m', rfl⟩ := List.mem_map.mp m
    exact getD_mem (h p m')
  rcases G with ⟨e, g⟩ | ⟨e, g⟩
  · exact .inl ⟨e, fun d m => g d (this d m)⟩
  · exact .inr ⟨e, fun d m => g d (this d m)⟩
noncomputable def at2 (P : List (Nat × Nat)) (m : List Nat) : List (Nat × Nat) := m.map fun p => P.getD p (0, 0)
theorem pick_pick (its : List D) (P : List (Nat × Nat)) {m : List Nat} (h : ∀ p ∈ m, p < P.length) : pickD (pickD its (P.map (·.1))) m = pickD its ((at2 P m).map (·.1)) := by
  unfold pickD at2
  rw [List.map_map, List.map_map, List.map_map]
  refine List.map_congr_left fun p hp => ?_
  have := h p hp
  simp only [List.getD_eq_getElem?_getD, List.getElem?_map, List.getElem?_eq_getElem this, Option.map_some, Option.getD_some, Function.comp]
theorem at2_perm (P : List (Nat × Nat)) {m : List Nat} (h : m.Perm (List.range P.length)) : (at2 P m).Perm P := by
  refine (h.map _).trans ?_
  have : (List.range P.length).map (fun p => P.getD p (0, 0)) = P := by
    apply List.ext_getElem
    · rw [List.length_map, List.length_range]
    · intro i h1 h2
      rw [List.getElem_map, List.getElem_range, List.getD_eq_getElem?_getD, List.getElem?_eq_getElem h2]; rfl
  rw [this]
noncomputable def gAt (P : List (Nat × Nat)) : D → D | .int p => pairD (P.getD p.toNat (0, 0)) | _ => .none
theorem gAt_map (P : List (Nat × Nat)) (m : List Nat) : (intsD m).map (gAt P) = pairsD (at2 P m) := by
  unfold intsD pairsD at2
  rw [List.map_map, List.map_map]; rfl
theorem ps_at {P : List (Nat × Nat)} {p : Nat} (h : p < P.length) : (pairsD P)[p]? = some (pairD (P.getD p (0, 0))) := by
  unfold pairsD
  rw [List.getElem?_map, List.getD_eq_getElem?_getD, List.getElem?_eq_getElem h]; rfl
theorem int_mem {m : List Nat} {d : D} (h : d ∈ intsD m) : ∃ p ∈ m, d = .int (p : Nat) := by
  obtain ⟨p, m', e⟩ := List.mem_map.mp h
  exact ⟨p, m', e.symm⟩
theorem Good.kind {k : T} {its : List D} (G : Good k its) : k = kInt ∨ k = kChr := by
  rcases G with ⟨e, -⟩ | ⟨e, -⟩
  · exact .inl e
  · exact .inr e

noncomputable def mf (x y : D) (l : List (Option V)) : Ev := [some (.c x), some (.c y), some (.c (.list [.str nA])), some (.c (.bool false)), some (.c (.bool false)), some (.c (.list [.str eX, .str eY])), some (.c (.bool true))] ++ l ++ List.replicate 3 none

theorem c_mf2 (n : Nat) {k k' : T} {its more rx its' more' ry : List D} {h : T} (G : Good k its) (hk' : k' = kInt ∨ k' = kChr) {kx ky : List T} (lx : kx.length ≤ 4) (ly : ky.length ≤ 4) (l1 : its.length = kx.length) (l2 : more.length = kx.length) (l3 : rx.length = kx.length) (l4 : its'.length = ky.length) (l5 : more'.length = ky.length) (l6 : ry.length = ky.length)
    (hkx : cl (n + 36) 839 [.list [vecD k its], .int (kx.length : Nat)] = .ok (.list (strsD kx))) (hky : cl (n + 36) 839 [.list [vecD k' its'], .int (ky.length : Nat)] = .ok (.list (strsD ky)))
    (hcy : cl (n + 37) 846 [frD [vecD k' its', vecD kInt more'] [nA, h] ry, .list [.str nA]] = .ok (.list [.int 0])) (hny : cl (n + 37) 708 [frD [vecD k' its', vecD kInt more'] [nA, h] ry] = .ok (.list (strsD [nA, h])))
    (ho1 : cl (n + 36) 884 [.list (strsD [nA, nV]), .list (strsD [nA, h]), .list (strsD [nA]), .str eX] = .ok (.list (strsD [nV]))) (ho2 : cl (n + 36) 884 [.list (strsD [nA, h]), .list (strsD [nA, nV]), .list (strsD [nA]), .str eY] = .ok (.list (strsD [h]))) :
    ∃ (ps : List (Nat × Nat)) (rw : List D), ps.Perm (pairs kx ky) ∧ cl (n + 40) 902 [frD [vecD k its, vecD kInt more] [nA, nV] rx, frD [vecD k' its', vecD kInt more'] [nA, h] ry, .list [.str nA], .bool false, .bool false, .list [.str eX, .str eY], .bool true] = .ok (frD [vecD k (pickD its (ps.map (·.1))), vecD kInt (pickD more (ps.map (·.1))), vecD kInt (pickD more' (ps.map (·.2)))] [nA, nV, h] rw) := by
  have hk := G.kind
  have hcx := c_checkX (n + 3) k its more rx
  have hnx := c_names (n + 3) [vecD k its, vecD kInt more] nA [nV] rx (.inr ⟨_, rfl⟩)
  have hrx := c_rows (n + 23) [vecD k its, vecD kInt more] [nA, nV] rx (by lia)
  have hry := c_rows (n + 23) [vecD k' its', vecD kInt more'] [nA, h] ry (by lia)
  rw [l3] at hrx
  rw [l6] at hry
  have hmp := c_merged (n + 22) kx ky lx ly
  have hlt : ∀ p ∈ pairs kx ky, p.1 < kx.length ∧ p.2 < ky.length := fun p m => pairs_lt m
  have hPn := pairs_le lx ly
  generalize pairs kx ky = P at *
  have hkc := c_keycol (n + 19) k its (vecD k' its') P (fun p m => by rw [l1]; exact (hlt p m).1) (by lia) (by lia)
  have G1 : Good k (pickD its (P.map (·.1))) := good_pick G fun p m => by
    obtain ⟨q, m', rfl⟩ := List.mem_map.mp m
    rw [l1]; exact (hlt q m').1
  have e1 : (pickD its (P.map (·.1))).length = P.length := by rw [pick_len, List.length_map]
  have hmo := c_mord (n + 1) hk (pickD its (P.map (·.1)))
  obtain ⟨m, hmP, hor⟩ := c_order (n + 4) G1 (by rw [e1]; exact hPn)
  rw [e1] at hmP
  have hmp1 : ∀ p ∈ m, p < P.length := fun p h => List.mem_range.mp (hmP.mem_iff.mp h)
  have hmn : m.length = P.length := by rw [hmP.length_eq, List.length_range]
  have hpk := c_pick (n + 24) k (pickD its (P.map (·.1))) m (by rw [e1]; exact hmp1) (by lia) (by lia)
  rw [pick_pick its P hmp1] at hpk
  have hps' := at2_perm P hmP
  have hlt2 : ∀ p ∈ at2 P m, p.1 < kx.length ∧ p.2 < ky.length := fun p h => hlt p (hps'.mem_iff.mp h)
  have hn2 : (at2 P m).length = m.length := List.length_map ..
  have hml : (intsD m).length ≤ 1000 := by rw [ints_len]; lia
  have hPl : (pairsD P).length ≤ 1000000 := by rw [pairs_len]; lia
  have hgm := gAt_map P m
  generalize hps0 : at2 P m = ps at *
  have hps : (pairsD ps).length ≤ 1000 := by rw [pairs_len]; lia
  have hpx := c_pick (n + 22) kInt more (ps.map (·.1)) (fun p m => by
    obtain ⟨q, m', rfl⟩ := List.mem_map.mp m
    rw [l2]; exact (hlt2 q m').1) (by lia) (by rw [List.length_map]; lia)
  have hpy := c_pick (n + 22) kInt more' (ps.map (·.2)) (fun p m => by
    obtain ⟨q, m', rfl⟩ := List.mem_map.mp m
    rw [l5]; exact (hlt2 q m').2) (by lia) (by rw [List.length_map]; lia)
  rw [← sub0_map] at hpx
  have hly : ∀ μ, biop μ .len [.c (.list (strsD [nA, h]))] = .ok (.c (.int 2), μ) := fun μ => by kernel_rfl
  rw [← sub1_map] at hpy
  have hlp : ∀ μ i, μ[i]? = some (.frz (.list (pairsD ps))) → biop μ .len [.r i] = .ok (.c (.int (ps.length : Nat)), μ) := fun μ i h => by
    have := op_len (μ := μ) (v := .r i) (l := pairsD ps) (seeB h) (fits_of (Nat.le_trans hps (by decide)))
    rwa [pairs_len] at this
  have hpr := c_prows (n + 2) (m := ps.length) (by lia)
  have hnf := c_newfr3 (n + 3) k (pickD its (ps.map (·.1))) (pickD more (ps.map (·.1))) (pickD more' (ps.map (·.2))) (rngL 1 ((ps.length : Int) + 1) 1) nA nV h
  have u2 : (E (n + 38)).s (mf (frD [vecD k its, vecD kInt more] [nA, nV] rx) (frD [vecD k' its', vecD kInt more'] [nA, h] ry) [some (.c (.list [.int 0])), some (.c (.list [.int 0])), some (.c (.list (pairsD P))), none, some (.r 0), some (.r 1), some (.c (.int 0)), some (.c (.list (strsD kx))), some (.c (.list (strsD ky))), some (.r 4), some (.c (.list (intsD m))), none, none, none]) [.lst true [vecD k its], .lst true [vecD k' its'], .frz (.list [vecD k its]), .frz (.list [vecD k' its']), .frz (.list [vecD k (pickD its (P.map (·.1)))])] (.asgC 9 (.comp 21 [21] false (.v 17) [] (.ix (.v 9) (.v 21)))) = .ok (.nxt, mf (frD [vecD k its, vecD kInt more] [nA, nV] rx) (frD [vecD k' its', vecD kInt more'] [nA, h] ry) [some (.c (.list [.int 0])), some (.c (.list [.int 0])), some (.r 5), none, some (.r 0), some (.r 1), some (.c (.int 0)), some (.c (.list (strsD kx))), some (.c (.list (strsD ky))), some (.r 4), some (.c (.list (intsD m))), none, none, none], [.lst true [vecD k its], .lst true [vecD k' its'], .frz (.list [vecD k its]), .frz (.list [vecD k' its']), .frz (.list [vecD k (pickD its (P.map (·.1)))]), .lst true (pairsD ps)]) := by
    rw [← hgm]
    exact s_asgC (x_map0 (μ₂ := [.lst true [vecD k its], .lst true [vecD k' its'], .frz (.list [vecD k its]), .frz (.list [vecD k' its']), .frz (.list [vecD k (pickD its (P.map (·.1)))])]) (gAt P) (l := intsD m) (x_v rfl) rfl rfl hml (fun d m => by obtain ⟨p, m', rfl⟩ := int_mem m; exact ⟨_, rfl, fun μ _ => x_ix (x_v rfl) (x_v rfl) (op_ixN (l := pairsD P) rfl (ps_at (hmp1 p m')) hPl)⟩))
  exact ⟨ps, _, hps', cl_ret tab902 rfl (ss_cons (s_asg (x_fn (l_cons (x_v rfl) (l_cons (x_v rfl) l_nil)) rfl (by exact hcx)) : (E (n + 39)).s (mf (frD [vecD k its, vecD kInt more] [nA, nV] rx) (frD [vecD k' its', vecD kInt more'] [nA, h] ry) [none, none, none, none, none, none, none, none, none, none, none, none, none, none]) [] (.asg 7 (.fn 846 [(.v 0), (.v 2)])) = .ok (.nxt, mf (frD [vecD k its, vecD kInt more] [nA, nV] rx) (frD [vecD k' its', vecD kInt more'] [nA, h] ry) [some (.c (.list [.int 0])), none, none, none, none, none, none, none, none, none, none, none, none, none], [])) (next_n (ss_cons (s_asg (x_fn (l_cons (x_v rfl) (l_cons (x_v rfl) l_nil)) rfl (by exact hcy)) : (E (n + 39)).s (mf (frD [vecD k its, vecD kInt more] [nA, nV] rx) (frD [vecD k' its', vecD kInt more'] [nA, h] ry) [some (.c (.list [.int 0])), none, none, none, none, none, none, none, none, none, none, none, none, none]) [] (.asg 8 (.fn 846 [(.v 1), (.v 2)])) = .ok (.nxt, mf (frD [vecD k its, vecD kInt more] [nA, nV] rx) (frD [vecD k' its', vecD kInt more'] [nA, h] ry) [some (.c (.list [.int 0])), some (.c (.list [.int 0])), none, none, none, none, none, none, none, none, none, none, none, none], [])) (next_n (ss_cons (s_ife (evB_of (x_cmp (x_bi (l_cons (x_v rfl) l_nil) rfl) x_k rfl)) (ite_f rfl (ss_cons (s_asgC (x_comp (μ₂ := []) (x_v rfl) rfl rfl (comp_cons rfl (x_ix (x_at (x_v rfl) rfl) (x_v rfl) rfl) rfl rfl rfl comp_nil)) : (E (n + 38)).s (mf (frD [vecD k its, vecD kInt more] [nA, nV] rx) (frD [vecD k' its', vecD kInt more'] [nA, h] ry) [some (.c (.list [.int 0])), some (.c (.list [.int 0])), none, none, none, none, none, none, none, none, none, none, none, none]) [] (.asgC 11 (.comp 21 [21] false (.v 7) [] (.ix (.at (.v 0) .items) (.v 21)))) = .ok (.nxt, mf (frD [vecD k its, vecD kInt more] [nA, nV] rx) (frD [vecD k' its', vecD kInt more'] [nA, h] ry) [some (.c (.list [.int 0])), some (.c (.list [.int 0])), none, none, some (.r 0), none, none, none, none, none, none, none, none, none], [.lst true [vecD k its]])) (next_n (ss_cons (s_asgC (x_comp (μ₂ := [.lst true [vecD k its]]) (x_v rfl) rfl rfl (comp_cons rfl (x_ix (x_at (x_v rfl) rfl) (x_v rfl) rfl) rfl rfl rfl comp_nil)) : (E (n + 38)).s (mf (frD [vecD k its, vecD kInt more] [nA, nV] rx) (frD [vecD k' its', vecD kInt more'] [nA, h] ry) [some (.c (.list [.int 0])), some (.c (.list [.int 0])), none, none, some (.r 0), none, none, none, none, none, none, none, none, none]) [.lst true [vecD k its]] (.asgC 12 (.comp 21 [21] false (.v 8) [] (.ix (.at (.v 1) .items) (.v 21)))) = .ok (.nxt, mf (frD [vecD k its, vecD kInt more] [nA, nV] rx) (frD [vecD k' its', vecD kInt more'] [nA, h] ry) [some (.c (.list [.int 0])), some (.c (.list [.int 0])), none, none, some (.r 0), some (.r 1), none, none, none, none, none, none, none, none], [.lst true [vecD k its], .lst true [vecD k' its']])) (next_n (ss_cons (s_asg (x_fn (l_cons (x_comp (x_bi (l_cons (x_bi (l_cons (x_v rfl) l_nil) rfl) l_nil) rfl) rfl rfl (comp_cons rfl (x_fn (l_cons (x_ix (x_v rfl) (x_v rfl) rfl) (l_cons (x_ix (x_v rfl) (x_v rfl) rfl) l_nil)) rfl (c_askey n hk _ _)) rfl rfl rfl comp_nil)) (l_cons (x_fn (l_cons (x_v rfl) l_nil) rfl (by exact hrx)) l_nil)) rfl (by exact hkx)) : (E (n + 38)).s (mf (frD [vecD k its, vecD kInt more] [nA, nV] rx) (frD [vecD k' its', vecD kInt more'] [nA, h] ry) [some (.c (.list [.int 0])), some (.c (.list [.int 0])), none, none, some (.r 0), some (.r 1), none, none, none, none, none, none, none, none]) [.lst true [vecD k its], .lst true [vecD k' its']] (.asg 14 (.fn 839 [(.comp 21 [21] false (.bi .range [(.bi .len [(.v 2)])]) [] (.fn 834 [(.ix (.v 11) (.v 21)), (.ix (.v 12) (.v 21))])), (.fn 703 [(.v 0)])])) = .ok (.nxt, mf (frD [vecD k its, vecD kInt more] [nA, nV] rx) (frD [vecD k' its', vecD kInt more'] [nA, h] ry) [some (.c (.list [.int 0])), some (.c (.list [.int 0])), none, none, some (.r 0), some (.r 1), none, some (.c (.list (strsD kx))), none, none, none, none, none, none], [.lst true [vecD k its], .lst true [vecD k' its'], .frz (.list [vecD k its])])) (next_n (ss_cons (s_asg (x_fn (l_cons (x_comp (x_bi (l_cons (x_bi (l_cons (x_v rfl) l_nil) rfl) l_nil) rfl) rfl rfl (comp_cons rfl (x_fn (l_cons (x_ix (x_v rfl) (x_v rfl) rfl) (l_cons (x_ix (x_v rfl) (x_v rfl) rfl) l_nil)) rfl (c_askey n hk' _ _)) rfl rfl rfl comp_nil)) (l_cons (x_fn (l_cons (x_v rfl) l_nil) rfl (by exact hry)) l_nil)) rfl (by exact hky)) : (E (n + 38)).s (mf (frD [vecD k its, vecD kInt more] [nA, nV] rx) (frD [vecD k' its', vecD kInt more'] [nA, h] ry) [some (.c (.list [.int 0])), some (.c (.list [.int 0])), none, none, some (.r 0), some (.r 1), none, some (.c (.list (strsD kx))), none, none, none, none, none, none]) [.lst true [vecD k its], .lst true [vecD k' its'], .frz (.list [vecD k its])] (.asg 15 (.fn 839 [(.comp 21 [21] false (.bi .range [(.bi .len [(.v 2)])]) [] (.fn 834 [(.ix (.v 12) (.v 21)), (.ix (.v 11) (.v 21))])), (.fn 703 [(.v 1)])])) = .ok (.nxt, mf (frD [vecD k its, vecD kInt more] [nA, nV] rx) (frD [vecD k' its', vecD kInt more'] [nA, h] ry) [some (.c (.list [.int 0])), some (.c (.list [.int 0])), none, none, some (.r 0), some (.r 1), none, some (.c (.list (strsD kx))), some (.c (.list (strsD ky))), none, none, none, none, none], [.lst true [vecD k its], .lst true [vecD k' its'], .frz (.list [vecD k its]), .frz (.list [vecD k' its'])])) (next_n (ss_cons (s_asg (x_fn (l_cons (x_v rfl) (l_cons (x_v rfl) (l_cons (x_v rfl) (l_cons (x_v rfl) l_nil)))) rfl (by exact hmp)) : (E (n + 38)).s (mf (frD [vecD k its, vecD kInt more] [nA, nV] rx) (frD [vecD k' its', vecD kInt more'] [nA, h] ry) [some (.c (.list [.int 0])), some (.c (.list [.int 0])), none, none, some (.r 0), some (.r 1), none, some (.c (.list (strsD kx))), some (.c (.list (strsD ky))), none, none, none, none, none]) [.lst true [vecD k its], .lst true [vecD k' its'], .frz (.list [vecD k its]), .frz (.list [vecD k' its'])] (.asg 9 (.fn 872 [(.v 14), (.v 15), (.v 3), (.v 4)])) = .ok (.nxt, mf (frD [vecD k its, vecD kInt more] [nA, nV] rx) (frD [vecD k' its', vecD kInt more'] [nA, h] ry) [some (.c (.list [.int 0])), some (.c (.list [.int 0])), some (.c (.list (pairsD P))), none, some (.r 0), some (.r 1), none, some (.c (.list (strsD kx))), some (.c (.list (strsD ky))), none, none, none, none, none], [.lst true [vecD k its], .lst true [vecD k' its'], .frz (.list [vecD k its]), .frz (.list [vecD k' its'])])) (next_n ss_nil))))))))))) : (E (n + 39)).s (mf (frD [vecD k its, vecD kInt more] [nA, nV] rx) (frD [vecD k' its', vecD kInt more'] [nA, h] ry) [some (.c (.list [.int 0])), some (.c (.list [.int 0])), none, none, none, none, none, none, none, none, none, none, none, none]) [] (.ife (.cmp .eq (.bi .len [(.v 2)]) (.k (.int 0))) [.asg 9 .bad] [.asgC 11 (.comp 21 [21] false (.v 7) [] (.ix (.at (.v 0) .items) (.v 21))), .asgC 12 (.comp 21 [21] false (.v 8) [] (.ix (.at (.v 1) .items) (.v 21))), .asg 14 (.fn 839 [(.comp 21 [21] false (.bi .range [(.bi .len [(.v 2)])]) [] (.fn 834 [(.ix (.v 11) (.v 21)), (.ix (.v 12) (.v 21))])), (.fn 703 [(.v 0)])]), .asg 15 (.fn 839 [(.comp 21 [21] false (.bi .range [(.bi .len [(.v 2)])]) [] (.fn 834 [(.ix (.v 12) (.v 21)), (.ix (.v 11) (.v 21))])), (.fn 703 [(.v 1)])]), .asg 9 (.fn 872 [(.v 14), (.v 15), (.v 3), (.v 4)])]) = .ok (.nxt, mf (frD [vecD k its, vecD kInt more] [nA, nV] rx) (frD [vecD k' its', vecD kInt more'] [nA, h] ry) [some (.c (.list [.int 0])), some (.c (.list [.int 0])), some (.c (.list (pairsD P))), none, some (.r 0), some (.r 1), none, some (.c (.list (strsD kx))), some (.c (.list (strsD ky))), none, none, none, none, none], [.lst true [vecD k its], .lst true [vecD k' its'], .frz (.list [vecD k its]), .frz (.list [vecD k' its'])])) (next_n (ss_cons (s_asg (x_list l_nil rfl rfl) : (E (n + 39)).s (mf (frD [vecD k its, vecD kInt more] [nA, nV] rx) (frD [vecD k' its', vecD kInt more'] [nA, h] ry) [some (.c (.list [.int 0])), some (.c (.list [.int 0])), some (.c (.list (pairsD P))), none, some (.r 0), some (.r 1), none, some (.c (.list (strsD kx))), some (.c (.list (strsD ky))), none, none, none, none, none]) [.lst true [vecD k its], .lst true [vecD k' its'], .frz (.list [vecD k its]), .frz (.list [vecD k' its'])] (.asg 16 (.list [])) = .ok (.nxt, mf (frD [vecD k its, vecD kInt more] [nA, nV] rx) (frD [vecD k' its', vecD kInt more'] [nA, h] ry) [some (.c (.list [.int 0])), some (.c (.list [.int 0])), some (.c (.list (pairsD P))), none, some (.r 0), some (.r 1), none, some (.c (.list (strsD kx))), some (.c (.list (strsD ky))), some (.r 4), none, none, none, none], [.lst true [vecD k its], .lst true [vecD k' its'], .frz (.list [vecD k its]), .frz (.list [vecD k' its']), .lst true []])) (next_n (ss_cons (s_for (x_bi (l_cons (x_bi (l_cons (x_v rfl) l_nil) rfl) l_nil) rfl) rfl rfl (for_cons rfl (ss_cons (s_ex (x_mt (x_v rfl) (ok_lst rfl) (l_cons (x_fn (l_cons (x_ix (x_at (x_v rfl) rfl) (x_ix (x_v rfl) (x_v rfl) rfl) rfl) (l_cons (x_ix (x_at (x_v rfl) rfl) (x_ix (x_v rfl) (x_v rfl) rfl) rfl) (l_cons (x_v rfl) l_nil))) rfl (by exact hkc)) l_nil) (op_append rfl rfl rfl))) (next_n ss_nil)) for_nil) : (E (n + 39)).s (mf (frD [vecD k its, vecD kInt more] [nA, nV] rx) (frD [vecD k' its', vecD kInt more'] [nA, h] ry) [some (.c (.list [.int 0])), some (.c (.list [.int 0])), some (.c (.list (pairsD P))), none, some (.r 0), some (.r 1), none, some (.c (.list (strsD kx))), some (.c (.list (strsD ky))), some (.r 4), none, none, none, none]) [.lst true [vecD k its], .lst true [vecD k' its'], .frz (.list [vecD k its]), .frz (.list [vecD k' its']), .lst true []] (.for_ [13] false (.bi .range [(.bi .len [(.v 2)])]) [.ex (.mt .append (.v 16) [(.fn 877 [(.ix (.at (.v 0) .items) (.ix (.v 7) (.v 13))), (.ix (.at (.v 1) .items) (.ix (.v 8) (.v 13))), (.v 9)])])]) = .ok (.nxt, mf (frD [vecD k its, vecD kInt more] [nA, nV] rx) (frD [vecD k' its', vecD kInt more'] [nA, h] ry) [some (.c (.list [.int 0])), some (.c (.list [.int 0])), some (.c (.list (pairsD P))), none, some (.r 0), some (.r 1), some (.c (.int 0)), some (.c (.list (strsD kx))), some (.c (.list (strsD ky))), some (.r 4), none, none, none, none], [.lst true [vecD k its], .lst true [vecD k' its'], .frz (.list [vecD k its]), .frz (.list [vecD k' its']), .lst true [vecD k (pickD its (P.map (·.1)))]])) (next_n (ss_cons (s_ife (evB_of (x_and (ao_cons (evB_of (x_cmp (x_bi (l_cons (x_v rfl) l_nil) rfl) x_k rfl)) (ao_go rfl (ao_one (evB_of (x_v rfl))))))) (ite_t rfl (ss_cons (s_asg (x_fn (l_cons (x_fn (l_cons (x_v rfl) (l_cons (x_or (ao_cons (evB_of (x_v rfl)) (ao_go rfl (ao_one (evB_of (x_v rfl)))))) l_nil)) rfl (by exact hmo)) l_nil) rfl (by exact hor)) : (E (n + 38)).s (mf (frD [vecD k its, vecD kInt more] [nA, nV] rx) (frD [vecD k' its', vecD kInt more'] [nA, h] ry) [some (.c (.list [.int 0])), some (.c (.list [.int 0])), some (.c (.list (pairsD P))), none, some (.r 0), some (.r 1), some (.c (.int 0)), some (.c (.list (strsD kx))), some (.c (.list (strsD ky))), some (.r 4), none, none, none, none]) [.lst true [vecD k its], .lst true [vecD k' its'], .frz (.list [vecD k its]), .frz (.list [vecD k' its']), .lst true [vecD k (pickD its (P.map (·.1)))]] (.asg 17 (.fn 810 [(.fn 896 [(.v 16), (.or [(.v 3), (.v 4)])])])) = .ok (.nxt, mf (frD [vecD k its, vecD kInt more] [nA, nV] rx) (frD [vecD k' its', vecD kInt more'] [nA, h] ry) [some (.c (.list [.int 0])), some (.c (.list [.int 0])), some (.c (.list (pairsD P))), none, some (.r 0), some (.r 1), some (.c (.int 0)), some (.c (.list (strsD kx))), some (.c (.list (strsD ky))), some (.r 4), some (.c (.list (intsD m))), none, none, none], [.lst true [vecD k its], .lst true [vecD k' its'], .frz (.list [vecD k its]), .frz (.list [vecD k' its']), .frz (.list [vecD k (pickD its (P.map (·.1)))])])) (next_n (ss_cons u2 (next_n (ss_cons (s_asgC (x_comp (μ₂ := [.lst true [vecD k its], .lst true [vecD k' its'], .frz (.list [vecD k its]), .frz (.list [vecD k' its']), .frz (.list [vecD k (pickD its (P.map (·.1)))]), .lst true (pairsD ps)]) (x_v rfl) rfl rfl (comp_cons rfl (x_fn (l_cons (x_v rfl) (l_cons (x_v rfl) l_nil)) rfl (by exact hpk)) rfl rfl rfl comp_nil)) : (E (n + 38)).s (mf (frD [vecD k its, vecD kInt more] [nA, nV] rx) (frD [vecD k' its', vecD kInt more'] [nA, h] ry) [some (.c (.list [.int 0])), some (.c (.list [.int 0])), some (.r 5), none, some (.r 0), some (.r 1), some (.c (.int 0)), some (.c (.list (strsD kx))), some (.c (.list (strsD ky))), some (.r 4), some (.c (.list (intsD m))), none, none, none]) [.lst true [vecD k its], .lst true [vecD k' its'], .frz (.list [vecD k its]), .frz (.list [vecD k' its']), .frz (.list [vecD k (pickD its (P.map (·.1)))]), .lst true (pairsD ps)] (.asgC 16 (.comp 21 [21] false (.v 16) [] (.fn 729 [(.v 21), (.v 17)]))) = .ok (.nxt, mf (frD [vecD k its, vecD kInt more] [nA, nV] rx) (frD [vecD k' its', vecD kInt more'] [nA, h] ry) [some (.c (.list [.int 0])), some (.c (.list [.int 0])), some (.r 5), none, some (.r 0), some (.r 1), some (.c (.int 0)), some (.c (.list (strsD kx))), some (.c (.list (strsD ky))), some (.r 6), some (.c (.list (intsD m))), none, none, none], [.lst true [vecD k its], .lst true [vecD k' its'], .frz (.list [vecD k its]), .frz (.list [vecD k' its']), .frz (.list [vecD k (pickD its (P.map (·.1)))]), .lst true (pairsD ps), .lst true [vecD k (pickD its (ps.map (·.1)))]])) (next_n ss_nil))))))) : (E (n + 39)).s (mf (frD [vecD k its, vecD kInt more] [nA, nV] rx) (frD [vecD k' its', vecD kInt more'] [nA, h] ry) [some (.c (.list [.int 0])), some (.c (.list [.int 0])), some (.c (.list (pairsD P))), none, some (.r 0), some (.r 1), some (.c (.int 0)), some (.c (.list (strsD kx))), some (.c (.list (strsD ky))), some (.r 4), none, none, none, none]) [.lst true [vecD k its], .lst true [vecD k' its'], .frz (.list [vecD k its]), .frz (.list [vecD k' its']), .lst true [vecD k (pickD its (P.map (·.1)))]] (.ife (.and [(.cmp .gt (.bi .len [(.v 2)]) (.k (.int 0))), (.v 6)]) [.asg 17 (.fn 810 [(.fn 896 [(.v 16), (.or [(.v 3), (.v 4)])])]), .asgC 9 (.comp 21 [21] false (.v 17) [] (.ix (.v 9) (.v 21))), .asgC 16 (.comp 21 [21] false (.v 16) [] (.fn 729 [(.v 21), (.v 17)]))] []) = .ok (.nxt, mf (frD [vecD k its, vecD kInt more] [nA, nV] rx) (frD [vecD k' its', vecD kInt more'] [nA, h] ry) [some (.c (.list [.int 0])), some (.c (.list [.int 0])), some (.r 5), none, some (.r 0), some (.r 1), some (.c (.int 0)), some (.c (.list (strsD kx))), some (.c (.list (strsD ky))), some (.r 6), some (.c (.list (intsD m))), none, none, none], [.lst true [vecD k its], .lst true [vecD k' its'], .frz (.list [vecD k its]), .frz (.list [vecD k' its']), .frz (.list [vecD k (pickD its (P.map (·.1)))]), .lst true (pairsD ps), .lst true [vecD k (pickD its (ps.map (·.1)))]])) (next_n (ss_cons (s_asg (x_fn (l_cons (x_v rfl) l_nil) rfl (by exact hnx)) : (E (n + 39)).s (mf (frD [vecD k its, vecD kInt more] [nA, nV] rx) (frD [vecD k' its', vecD kInt more'] [nA, h] ry) [some (.c (.list [.int 0])), some (.c (.list [.int 0])), some (.r 5), none, some (.r 0), some (.r 1), some (.c (.int 0)), some (.c (.list (strsD kx))), some (.c (.list (strsD ky))), some (.r 6), some (.c (.list (intsD m))), none, none, none]) [.lst true [vecD k its], .lst true [vecD k' its'], .frz (.list [vecD k its]), .frz (.list [vecD k' its']), .frz (.list [vecD k (pickD its (P.map (·.1)))]), .lst true (pairsD ps), .lst true [vecD k (pickD its (ps.map (·.1)))]] (.asg 18 (.fn 708 [(.v 0)])) = .ok (.nxt, mf (frD [vecD k its, vecD kInt more] [nA, nV] rx) (frD [vecD k' its', vecD kInt more'] [nA, h] ry) [some (.c (.list [.int 0])), some (.c (.list [.int 0])), some (.r 5), none, some (.r 0), some (.r 1), some (.c (.int 0)), some (.c (.list (strsD kx))), some (.c (.list (strsD ky))), some (.r 6), some (.c (.list (intsD m))), some (.c (.list (strsD [nA, nV]))), none, none], [.lst true [vecD k its], .lst true [vecD k' its'], .frz (.list [vecD k its]), .frz (.list [vecD k' its']), .frz (.list [vecD k (pickD its (P.map (·.1)))]), .lst true (pairsD ps), .lst true [vecD k (pickD its (ps.map (·.1)))]])) (next_n (ss_cons (s_asg (x_fn (l_cons (x_v rfl) l_nil) rfl (by exact hny)) : (E (n + 39)).s (mf (frD [vecD k its, vecD kInt more] [nA, nV] rx) (frD [vecD k' its', vecD kInt more'] [nA, h] ry) [some (.c (.list [.int 0])), some (.c (.list [.int 0])), some (.r 5), none, some (.r 0), some (.r 1), some (.c (.int 0)), some (.c (.list (strsD kx))), some (.c (.list (strsD ky))), some (.r 6), some (.c (.list (intsD m))), some (.c (.list (strsD [nA, nV]))), none, none]) [.lst true [vecD k its], .lst true [vecD k' its'], .frz (.list [vecD k its]), .frz (.list [vecD k' its']), .frz (.list [vecD k (pickD its (P.map (·.1)))]), .lst true (pairsD ps), .lst true [vecD k (pickD its (ps.map (·.1)))]] (.asg 19 (.fn 708 [(.v 1)])) = .ok (.nxt, mf (frD [vecD k its, vecD kInt more] [nA, nV] rx) (frD [vecD k' its', vecD kInt more'] [nA, h] ry) [some (.c (.list [.int 0])), some (.c (.list [.int 0])), some (.r 5), none, some (.r 0), some (.r 1), some (.c (.int 0)), some (.c (.list (strsD kx))), some (.c (.list (strsD ky))), some (.r 6), some (.c (.list (intsD m))), some (.c (.list (strsD [nA, nV]))), some (.c (.list (strsD [nA, h]))), none], [.lst true [vecD k its], .lst true [vecD k' its'], .frz (.list [vecD k its]), .frz (.list [vecD k' its']), .frz (.list [vecD k (pickD its (P.map (·.1)))]), .lst true (pairsD ps), .lst true [vecD k (pickD its (ps.map (·.1)))]])) (next_n (ss_cons (s_for (x_bi (l_cons (x_bi (l_cons (x_v rfl) l_nil) rfl) l_nil) rfl) rfl rfl (for_cons rfl (ss_cons (s_ife (evB_of (x_cmp (x_v rfl) (x_v rfl) rfl)) (ite_f rfl ss_nil)) (next_n ss_nil)) (for_cons rfl (ss_cons (s_ife (evB_of (x_cmp (x_v rfl) (x_v rfl) rfl)) (ite_t rfl (ss_cons (s_ex (x_mt (x_v rfl) (ok_lst rfl) (l_cons (x_fn (l_cons (x_ix (x_at (x_v rfl) rfl) (x_v rfl) rfl) (l_cons (x_map0 (μ₂ := [.lst true [vecD k its], .lst true [vecD k' its'], .frz (.list [vecD k its]), .frz (.list [vecD k' its']), .frz (.list [vecD k (pickD its (P.map (·.1)))]), .frz (.list (pairsD ps)), .lst true [vecD k (pickD its (ps.map (·.1)))]]) sub0 (l := pairsD ps) (x_v rfl) rfl rfl hps (fun d m => by obtain ⟨p, -, rfl⟩ := pairs_mem m; exact ⟨_, rfl, fun μ _ => x_ix (x_v rfl) x_k rfl⟩)) l_nil)) rfl (by exact hpx)) l_nil) (op_append rfl rfl rfl))) (next_n ss_nil)))) (next_n ss_nil)) for_nil)) : (E (n + 39)).s (mf (frD [vecD k its, vecD kInt more] [nA, nV] rx) (frD [vecD k' its', vecD kInt more'] [nA, h] ry) [some (.c (.list [.int 0])), some (.c (.list [.int 0])), some (.r 5), none, some (.r 0), some (.r 1), some (.c (.int 0)), some (.c (.list (strsD kx))), some (.c (.list (strsD ky))), some (.r 6), some (.c (.list (intsD m))), some (.c (.list (strsD [nA, nV]))), some (.c (.list (strsD [nA, h]))), none]) [.lst true [vecD k its], .lst true [vecD k' its'], .frz (.list [vecD k its]), .frz (.list [vecD k' its']), .frz (.list [vecD k (pickD its (P.map (·.1)))]), .lst true (pairsD ps), .lst true [vecD k (pickD its (ps.map (·.1)))]] (.for_ [10] false (.bi .range [(.bi .len [(.v 18)])]) [.ife (.cmp .notin (.v 10) (.v 7)) [.ex (.mt .append (.v 16) [(.fn 729 [(.ix (.at (.v 0) .items) (.v 10)), (.comp 21 [21] false (.v 9) [] (.ix (.v 21) (.k (.int 0))))])])] []]) = .ok (.nxt, mf (frD [vecD k its, vecD kInt more] [nA, nV] rx) (frD [vecD k' its', vecD kInt more'] [nA, h] ry) [some (.c (.list [.int 0])), some (.c (.list [.int 0])), some (.r 5), some (.c (.int 1)), some (.r 0), some (.r 1), some (.c (.int 0)), some (.c (.list (strsD kx))), some (.c (.list (strsD ky))), some (.r 6), some (.c (.list (intsD m))), some (.c (.list (strsD [nA, nV]))), some (.c (.list (strsD [nA, h]))), none], [.lst true [vecD k its], .lst true [vecD k' its'], .frz (.list [vecD k its]), .frz (.list [vecD k' its']), .frz (.list [vecD k (pickD its (P.map (·.1)))]), .frz (.list (pairsD ps)), .lst true [vecD k (pickD its (ps.map (·.1))), vecD kInt (pickD more (ps.map (·.1)))], .frz (.list ((pairsD ps).map sub0))])) (next_n (ss_cons (s_for (x_bi (l_cons (x_bi (l_cons (x_v rfl) l_nil) (hly _)) l_nil) rfl) rfl rfl (for_cons rfl (ss_cons (s_ife (evB_of (x_cmp (x_v rfl) (x_v rfl) rfl)) (ite_f rfl ss_nil)) (next_n ss_nil)) (for_cons rfl (ss_cons (s_ife (evB_of (x_cmp (x_v rfl) (x_v rfl) rfl)) (ite_t rfl (ss_cons (s_ex (x_mt (x_v rfl) (ok_lst rfl) (l_cons (x_fn (l_cons (x_ix (x_at (x_v rfl) rfl) (x_v rfl) rfl) (l_cons (x_map0 (μ₂ := [.lst true [vecD k its], .lst true [vecD k' its'], .frz (.list [vecD k its]), .frz (.list [vecD k' its']), .frz (.list [vecD k (pickD its (P.map (·.1)))]), .frz (.list (pairsD ps)), .lst true [vecD k (pickD its (ps.map (·.1))), vecD kInt (pickD more (ps.map (·.1)))], .frz (.list ((pairsD ps).map sub0))]) sub1 (l := pairsD ps) (x_v rfl) rfl rfl hps (fun d m => by obtain ⟨p, -, rfl⟩ := pairs_mem m; exact ⟨_, rfl, fun μ _ => x_ix (x_v rfl) x_k rfl⟩)) l_nil)) rfl (by exact hpy)) l_nil) (op_append rfl rfl rfl))) (next_n ss_nil)))) (next_n ss_nil)) for_nil)) : (E (n + 39)).s (mf (frD [vecD k its, vecD kInt more] [nA, nV] rx) (frD [vecD k' its', vecD kInt more'] [nA, h] ry) [some (.c (.list [.int 0])), some (.c (.list [.int 0])), some (.r 5), some (.c (.int 1)), some (.r 0), some (.r 1), some (.c (.int 0)), some (.c (.list (strsD kx))), some (.c (.list (strsD ky))), some (.r 6), some (.c (.list (intsD m))), some (.c (.list (strsD [nA, nV]))), some (.c (.list (strsD [nA, h]))), none]) [.lst true [vecD k its], .lst true [vecD k' its'], .frz (.list [vecD k its]), .frz (.list [vecD k' its']), .frz (.list [vecD k (pickD its (P.map (·.1)))]), .frz (.list (pairsD ps)), .lst true [vecD k (pickD its (ps.map (·.1))), vecD kInt (pickD more (ps.map (·.1)))], .frz (.list ((pairsD ps).map sub0))] (.for_ [10] false (.bi .range [(.bi .len [(.v 19)])]) [.ife (.cmp .notin (.v 10) (.v 8)) [.ex (.mt .append (.v 16) [(.fn 729 [(.ix (.at (.v 1) .items) (.v 10)), (.comp 21 [21] false (.v 9) [] (.ix (.v 21) (.k (.int 1))))])])] []]) = .ok (.nxt, mf (frD [vecD k its, vecD kInt more] [nA, nV] rx) (frD [vecD k' its', vecD kInt more'] [nA, h] ry) [some (.c (.list [.int 0])), some (.c (.list [.int 0])), some (.r 5), some (.c (.int 1)), some (.r 0), some (.r 1), some (.c (.int 0)), some (.c (.list (strsD kx))), some (.c (.list (strsD ky))), some (.r 6), some (.c (.list (intsD m))), some (.c (.list (strsD [nA, nV]))), some (.c (.list (strsD [nA, h]))), none], [.lst true [vecD k its], .lst true [vecD k' its'], .frz (.list [vecD k its]), .frz (.list [vecD k' its']), .frz (.list [vecD k (pickD its (P.map (·.1)))]), .frz (.list (pairsD ps)), .lst true [vecD k (pickD its (ps.map (·.1))), vecD kInt (pickD more (ps.map (·.1))), vecD kInt (pickD more' (ps.map (·.2)))], .frz (.list ((pairsD ps).map sub0)), .frz (.list ((pairsD ps).map sub1))])) (next_n (ss_cons (s_asg (x_bin (x_bi (l_cons (x_v rfl) l_nil) rfl) (x_fn (l_cons (x_v rfl) (l_cons (x_v rfl) (l_cons (x_v rfl) (l_cons (x_ix (x_v rfl) x_k rfl) l_nil)))) rfl (by exact ho1)) rfl) : (E (n + 39)).s (mf (frD [vecD k its, vecD kInt more] [nA, nV] rx) (frD [vecD k' its', vecD kInt more'] [nA, h] ry) [some (.c (.list [.int 0])), some (.c (.list [.int 0])), some (.r 5), some (.c (.int 1)), some (.r 0), some (.r 1), some (.c (.int 0)), some (.c (.list (strsD kx))), some (.c (.list (strsD ky))), some (.r 6), some (.c (.list (intsD m))), some (.c (.list (strsD [nA, nV]))), some (.c (.list (strsD [nA, h]))), none]) [.lst true [vecD k its], .lst true [vecD k' its'], .frz (.list [vecD k its]), .frz (.list [vecD k' its']), .frz (.list [vecD k (pickD its (P.map (·.1)))]), .frz (.list (pairsD ps)), .lst true [vecD k (pickD its (ps.map (·.1))), vecD kInt (pickD more (ps.map (·.1))), vecD kInt (pickD more' (ps.map (·.2)))], .frz (.list ((pairsD ps).map sub0)), .frz (.list ((pairsD ps).map sub1))] (.asg 20 (.bin .add (.bi .tlist [(.v 2)]) (.fn 884 [(.v 18), (.v 19), (.v 2), (.ix (.v 5) (.k (.int 0)))]))) = .ok (.nxt, mf (frD [vecD k its, vecD kInt more] [nA, nV] rx) (frD [vecD k' its', vecD kInt more'] [nA, h] ry) [some (.c (.list [.int 0])), some (.c (.list [.int 0])), some (.r 5), some (.c (.int 1)), some (.r 0), some (.r 1), some (.c (.int 0)), some (.c (.list (strsD kx))), some (.c (.list (strsD ky))), some (.r 6), some (.c (.list (intsD m))), some (.c (.list (strsD [nA, nV]))), some (.c (.list (strsD [nA, h]))), some (.r 10)], [.lst true [vecD k its], .lst true [vecD k' its'], .frz (.list [vecD k its]), .frz (.list [vecD k' its']), .frz (.list [vecD k (pickD its (P.map (·.1)))]), .frz (.list (pairsD ps)), .lst true [vecD k (pickD its (ps.map (·.1))), vecD kInt (pickD more (ps.map (·.1))), vecD kInt (pickD more' (ps.map (·.2)))], .frz (.list ((pairsD ps).map sub0)), .frz (.list ((pairsD ps).map sub1)), .lst true (strsD [nA]), .lst true (strsD [nA, nV])])) (next_n (ss_cons (s_asg (x_bin (x_v rfl) (x_fn (l_cons (x_v rfl) (l_cons (x_v rfl) (l_cons (x_v rfl) (l_cons (x_ix (x_v rfl) x_k rfl) l_nil)))) rfl (by exact ho2)) rfl) : (E (n + 39)).s (mf (frD [vecD k its, vecD kInt more] [nA, nV] rx) (frD [vecD k' its', vecD kInt more'] [nA, h] ry) [some (.c (.list [.int 0])), some (.c (.list [.int 0])), some (.r 5), some (.c (.int 1)), some (.r 0), some (.r 1), some (.c (.int 0)), some (.c (.list (strsD kx))), some (.c (.list (strsD ky))), some (.r 6), some (.c (.list (intsD m))), some (.c (.list (strsD [nA, nV]))), some (.c (.list (strsD [nA, h]))), some (.r 10)]) [.lst true [vecD k its], .lst true [vecD k' its'], .frz (.list [vecD k its]), .frz (.list [vecD k' its']), .frz (.list [vecD k (pickD its (P.map (·.1)))]), .frz (.list (pairsD ps)), .lst true [vecD k (pickD its (ps.map (·.1))), vecD kInt (pickD more (ps.map (·.1))), vecD kInt (pickD more' (ps.map (·.2)))], .frz (.list ((pairsD ps).map sub0)), .frz (.list ((pairsD ps).map sub1)), .lst true (strsD [nA]), .lst true (strsD [nA, nV])] (.asg 20 (.bin .add (.v 20) (.fn 884 [(.v 19), (.v 18), (.v 2), (.ix (.v 5) (.k (.int 1)))]))) = .ok (.nxt, mf (frD [vecD k its, vecD kInt more] [nA, nV] rx) (frD [vecD k' its', vecD kInt more'] [nA, h] ry) [some (.c (.list [.int 0])), some (.c (.list [.int 0])), some (.r 5), some (.c (.int 1)), some (.r 0), some (.r 1), some (.c (.int 0)), some (.c (.list (strsD kx))), some (.c (.list (strsD ky))), some (.r 6), some (.c (.list (intsD m))), some (.c (.list (strsD [nA, nV]))), some (.c (.list (strsD [nA, h]))), some (.r 11)], [.lst true [vecD k its], .lst true [vecD k' its'], .frz (.list [vecD k its]), .frz (.list [vecD k' its']), .frz (.list [vecD k (pickD its (P.map (·.1)))]), .frz (.list (pairsD ps)), .lst true [vecD k (pickD its (ps.map (·.1))), vecD kInt (pickD more (ps.map (·.1))), vecD kInt (pickD more' (ps.map (·.2)))], .frz (.list ((pairsD ps).map sub0)), .frz (.list ((pairsD ps).map sub1)), .lst true (strsD [nA]), .lst true (strsD [nA, nV]), .lst true (strsD [nA, nV, h])])) (next_n (ss_cons (s_ret (x_fn (l_cons (x_v rfl) (l_cons (x_v rfl) (l_cons (x_fn (l_cons (x_bi (l_cons (x_v rfl) l_nil) (by exact hlp _ _ rfl)) l_nil) rfl (by exact hpr)) l_nil))) rfl (by exact hnf)) : (E (n + 39)).s (mf (frD [vecD k its, vecD kInt more] [nA, nV] rx) (frD [vecD k' its', vecD kInt more'] [nA, h] ry) [some (.c (.list [.int 0])), some (.c (.list [.int 0])), some (.r 5), some (.c (.int 1)), some (.r 0), some (.r 1), some (.c (.int 0)), some (.c (.list (strsD kx))), some (.c (.list (strsD ky))), some (.r 6), some (.c (.list (intsD m))), some (.c (.list (strsD [nA, nV]))), some (.c (.list (strsD [nA, h]))), some (.r 11)]) [.lst true [vecD k its], .lst true [vecD k' its'], .frz (.list [vecD k its]), .frz (.list [vecD k' its']), .frz (.list [vecD k (pickD its (P.map (·.1)))]), .frz (.list (pairsD ps)), .lst true [vecD k (pickD its (ps.map (·.1))), vecD kInt (pickD more (ps.map (·.1))), vecD kInt (pickD more' (ps.map (·.2)))], .frz (.list ((pairsD ps).map sub0)), .frz (.list ((pairsD ps).map sub1)), .lst true (strsD [nA]), .lst true (strsD [nA, nV]), .lst true (strsD [nA, nV, h])] (.ret (.fn 689 [(.v 16), (.v 20), (.fn 696 [(.bi .len [(.v 9)])])])) = .ok (.ret (.c (frD [vecD k (pickD its (ps.map (·.1))), vecD kInt (pickD more (ps.map (·.1))), vecD kInt (pickD more' (ps.map (·.2)))] [nA, nV, h] (rngL 1 ((ps.length : Int) + 1) 1))), mf (frD [vecD k its, vecD kInt more] [nA, nV] rx) (frD [vecD k' its', vecD kInt more'] [nA, h] ry) [some (.c (.list [.int 0])), some (.c (.list [.int 0])), some (.r 5), some (.c (.int 1)), some (.r 0), some (.r 1), some (.c (.int 0)), some (.c (.list (strsD kx))), some (.c (.list (strsD ky))), some (.r 6), some (.c (.list (intsD m))), some (.c (.list (strsD [nA, nV]))), some (.c (.list (strsD [nA, h]))), some (.r 11)], [.lst true [vecD k its], .lst true [vecD k' its'], .frz (.list [vecD k its]), .frz (.list [vecD k' its']), .frz (.list [vecD k (pickD its (P.map (·.1)))]), .frz (.list (pairsD ps)), .frz (.list [vecD k (pickD its (ps.map (·.1))), vecD kInt (pickD more (ps.map (·.1))), vecD kInt (pickD more' (ps.map (·.2)))]), .frz (.list ((pairsD ps).map sub0)), .frz (.list ((pairsD ps).map sub1)), .lst true (strsD [nA]), .lst true (strsD [nA, nV]), .frz (.list (strsD [nA, nV, h]))])) next_r))))))))))))))))))))))))) rfl⟩

theorem c_mf1 (n : Nat) {k k' : T} {its more rx its'  ry : List D} (G : Good k its) (hk' : k' = kInt ∨ k' = kChr) {kx ky : List T} (lx : kx.length ≤ 4) (ly : ky.length ≤ 4) (l1 : its.length = kx.length) (l2 : more.length = kx.length) (l3 : rx.length = kx.length) (l4 : its'.length = ky.length) (l6 : ry.length = ky.length)
    (hkx : cl (n + 36) 839 [.list [vecD k its], .int (kx.length : Nat)] = .ok (.list (strsD kx))) (hky : cl (n + 36) 839 [.list [vecD k' its'], .int (ky.length : Nat)] = .ok (.list (strsD ky)))
    (hcy : cl (n + 37) 846 [frD [vecD k' its'] [nA] ry, .list [.str nA]] = .ok (.list [.int 0])) (hny : cl (n + 37) 708 [frD [vecD k' its'] [nA] ry] = .ok (.list (strsD [nA])))
    (ho1 : cl (n + 36) 884 [.list (strsD [nA, nV]), .list (strsD [nA]), .list (strsD [nA]), .str eX] = .ok (.list (strsD [nV]))) (ho2 : cl (n + 36) 884 [.list (strsD [nA]), .list (strsD [nA, nV]), .list (strsD [nA]), .str eY] = .ok (.list (strsD []))) :
    ∃ (ps : List (Nat × Nat)) (rw : List D), ps.Perm (pairs kx ky) ∧ cl (n + 40) 902 [frD [vecD k its, vecD kInt more] [nA, nV] rx, frD [vecD k' its'] [nA] ry, .list [.str nA], .bool false, .bool false, .list [.str eX, .str eY], .bool true] = .ok (frD [vecD k (pickD its (ps.map (·.1))), vecD kInt (pickD more (ps.map (·.1)))] [nA, nV] rw) := by
  have hk := G.kind
  have hcx := c_checkX (n + 3) k its more rx
  have hnx := c_names (n + 3) [vecD k its, vecD kInt more] nA [nV] rx (.inr ⟨_, rfl⟩)
  have hrx := c_rows (n + 23) [vecD k its, vecD kInt more] [nA, nV] rx (by lia)
  have hry := c_rows (n + 23) [vecD k' its'] [nA] ry (by lia)
  rw [l3] at hrx
  rw [l6] at hry
  have hmp := c_merged (n + 22) kx ky lx ly
  have hlt : ∀ p ∈ pairs kx ky, p.1 < kx.length ∧ p.2 < ky.length := fun p m => pairs_lt m
  have hPn := pairs_le lx ly
  generalize pairs kx ky = P at *
  have hkc := c_keycol (n + 19) k its (vecD k' its') P (fun p m => by rw [l1]; exact (hlt p m).1) (by lia) (by lia)
  have G1 : Good k (pickD its (P.map (·.1))) := good_pick G fun p m => by
    obtain ⟨q, m', rfl⟩ := List.mem_map.mp m
    rw [l1]; exact (hlt q m').1
  have e1 : (pickD its (P.map (·.1))).length = P.length := by rw [pick_len, List.length_map]
  have hmo := c_mord (n + 1) hk (pickD its (P.map (·.1)))
  obtain ⟨m, hmP, hor⟩ := c_order (n + 4) G1 (by rw [e1]; exact hPn)
  rw [e1] at hmP
  have hmp1 : ∀ p ∈ m, p < P.length := fun p h => List.mem_range.mp (hmP.mem_iff.mp h)
  have hmn : m.length = P.length := by rw [hmP.length_eq, List.length_range]
  have hpk := c_pick (n + 24) k (pickD its (P.map (·.1))) m (by rw [e1]; exact hmp1) (by lia) (by lia)
  rw [pick_pick its P hmp1] at hpk
  have hps' := at2_perm P hmP
  have hlt2 : ∀ p ∈ at2 P m, p.1 < kx.length ∧ p.2 < ky.length := fun p h => hlt p (hps'.mem_iff.mp h)
  have hn2 : (at2 P m).length = m.length := List.length_map ..
  have hml : (intsD m).length ≤ 1000 := by rw [ints_len]; lia
  have hPl : (pairsD P).length ≤ 1000000 := by rw [pairs_len]; lia
  have hgm := gAt_map P m
  generalize hps0 : at2 P m = ps at *
  have hps : (pairsD ps).length ≤ 1000 := by rw [pairs_len]; lia
  have hpx := c_pick (n + 22) kInt more (ps.map (·.1)) (fun p m => by
    obtain ⟨q, m', rfl⟩ := List.mem_map.mp m
    rw [l2]; exact (hlt2 q m').1) (by lia) (by rw [List.length_map]; lia)
  rw [← sub0_map] at hpx
  have hlp : ∀ μ i, μ[i]? = some (.frz (.list (pairsD ps))) → biop μ .len [.r i] = .ok (.c (.int (ps.length : Nat)), μ) := fun μ i h => by
    have := op_len (μ := μ) (v := .r i) (l := pairsD ps) (seeB h) (fits_of (Nat.le_trans hps (by decide)))
    rwa [pairs_len] at this
  have hpr := c_prows (n + 2) (m := ps.length) (by lia)
  have hnf := c_newfr2 (n + 3) k (pickD its (ps.map (·.1))) (pickD more (ps.map (·.1))) (rngL 1 ((ps.length : Int) + 1) 1) nA nV
  have u2 : (E (n + 38)).s (mf (frD [vecD k its, vecD kInt more] [nA, nV] rx) (frD [vecD k' its'] [nA] ry) [some (.c (.list [.int 0])), some (.c (.list [.int 0])), some (.c (.list (pairsD P))), none, some (.r 0), some (.r 1), some (.c (.int 0)), some (.c (.list (strsD kx))), some (.c (.list (strsD ky))), some (.r 4), some (.c (.list (intsD m))), none, none, none]) [.lst true [vecD k its], .lst true [vecD k' its'], .frz (.list [vecD k its]), .frz (.list [vecD k' its']), .frz (.list [vecD k (pickD its (P.map (·.1)))])] (.asgC 9 (.comp 21 [21] false (.v 17) [] (.ix (.v 9) (.v 21)))) = .ok (.nxt, mf (frD [vecD k its, vecD kInt more] [nA, nV] rx) (frD [vecD k' its'] [nA] ry) [some (.c (.list [.int 0])), some (.c (.list [.int 0])), some (.r 5), none, some (.r 0), some (.r 1), some (.c (.int 0)), some (.c (.list (strsD kx))), some (.c (.list (strsD ky))), some (.r 4), some (.c (.list (intsD m))), none, none, none], [.lst true [vecD k its], .lst true [vecD k' its'], .frz (.list [vecD k its]), .frz (.list [vecD k' its']), .frz (.list [vecD k (pickD its (P.map (·.1)))]), .lst true (pairsD ps)]) := by
    rw [← hgm]
    exact s_asgC (x_map0 (μ₂ := [.lst true [vecD k its], .lst true [vecD k' its'], .frz (.list [vecD k its]), .frz (.list [vecD k' its']), .frz (.list [vecD k (pickD its (P.map (·.1)))])]) (gAt P) (l := intsD m) (x_v rfl) rfl rfl hml (fun d m => by obtain ⟨p, m', rfl⟩ := int_mem m; exact ⟨_, rfl, fun μ _ => x_ix (x_v rfl) (x_v rfl) (op_ixN (l := pairsD P) rfl (ps_at (hmp1 p m')) hPl)⟩))
  exact ⟨ps, _, hps', cl_ret tab902 rfl (ss_cons (s_asg (x_fn (l_cons (x_v rfl) (l_cons (x_v rfl) l_nil)) rfl (by exact hcx)) : (E (n + 39)).s (mf (frD [vecD k its, vecD kInt more] [nA, nV] rx) (frD [vecD k' its'] [nA] ry) [none, none, none, none, none, none, none, none, none, none, none, none, none, none]) [] (.asg 7 (.fn 846 [(.v 0), (.v 2)])) = .ok (.nxt, mf (frD [vecD k its, vecD kInt more] [nA, nV] rx) (frD [vecD k' its'] [nA] ry) [some (.c (.list [.int 0])), none, none, none, none, none, none, none, none, none, none, none, none, none], [])) (next_n (ss_cons (s_asg (x_fn (l_cons (x_v rfl) (l_cons (x_v rfl) l_nil)) rfl (by exact hcy)) : (E (n + 39)).s (mf (frD [vecD k its, vecD kInt more] [nA, nV] rx) (frD [vecD k' its'] [nA] ry) [some (.c (.list [.int 0])), none, none, none, none, none, none, none, none, none, none, none, none, none]) [] (.asg 8 (.fn 846 [(.v 1), (.v 2)])) = .ok (.nxt, mf (frD [vecD k its, vecD kInt more] [nA, nV] rx) (frD [vecD k' its'] [nA] ry) [some (.c (.list [.int 0])), some (.c (.list [.int 0])), none, none, none, none, none, none, none, none, none, none, none, none], [])) (next_n (ss_cons (s_ife (evB_of (x_cmp (x_bi (l_cons (x_v rfl) l_nil) rfl) x_k rfl)) (ite_f rfl (ss_cons (s_asgC (x_comp (μ₂ := []) (x_v rfl) rfl rfl (comp_cons rfl (x_ix (x_at (x_v rfl) rfl) (x_v rfl) rfl) rfl rfl rfl comp_nil)) : (E (n + 38)).s (mf (frD [vecD k its, vecD kInt more] [nA, nV] rx) (frD [vecD k' its'] [nA] ry) [some (.c (.list [.int 0])), some (.c (.list [.int 0])), none, none, none, none, none, none, none, none, none, none, none, none]) [] (.asgC 11 (.comp 21 [21] false (.v 7) [] (.ix (.at (.v 0) .items) (.v 21)))) = .ok (.nxt, mf (frD [vecD k its, vecD kInt more] [nA, nV] rx) (frD [vecD k' its'] [nA] ry) [some (.c (.list [.int 0])), some (.c (.list [.int 0])), none, none, some (.r 0), none, none, none, none, none, none, none, none, none], [.lst true [vecD k its]])) (next_n (ss_cons (s_asgC (x_comp (μ₂ := [.lst true [vecD k its]]) (x_v rfl) rfl rfl (comp_cons rfl (x_ix (x_at (x_v rfl) rfl) (x_v rfl) rfl) rfl rfl rfl comp_nil)) : (E (n + 38)).s (mf (frD [vecD k its, vecD kInt more] [nA, nV] rx) (frD [vecD k' its'] [nA] ry) [some (.c (.list [.int 0])), some (.c (.list [.int 0])), none, none, some (.r 0), none, none, none, none, none, none, none, none, none]) [.lst true [vecD k its]] (.asgC 12 (.comp 21 [21] false (.v 8) [] (.ix (.at (.v 1) .items) (.v 21)))) = .ok (.nxt, mf (frD [vecD k its, vecD kInt more] [nA, nV] rx) (frD [vecD k' its'] [nA] ry) [some (.c (.list [.int 0])), some (.c (.list [.int 0])), none, none, some (.r 0), some (.r 1), none, none, none, none, none, none, none, none], [.lst true [vecD k its], .lst true [vecD k' its']])) (next_n (ss_cons (s_asg (x_fn (l_cons (x_comp (x_bi (l_cons (x_bi (l_cons (x_v rfl) l_nil) rfl) l_nil) rfl) rfl rfl (comp_cons rfl (x_fn (l_cons (x_ix (x_v rfl) (x_v rfl) rfl) (l_cons (x_ix (x_v rfl) (x_v rfl) rfl) l_nil)) rfl (c_askey n hk _ _)) rfl rfl rfl comp_nil)) (l_cons (x_fn (l_cons (x_v rfl) l_nil) rfl (by exact hrx)) l_nil)) rfl (by exact hkx)) : (E (n + 38)).s (mf (frD [vecD k its, vecD kInt more] [nA, nV] rx) (frD [vecD k' its'] [nA] ry) [some (.c (.list [.int 0])), some (.c (.list [.int 0])), none, none, some (.r 0), some (.r 1), none, none, none, none, none, none, none, none]) [.lst true [vecD k its], .lst true [vecD k' its']] (.asg 14 (.fn 839 [(.comp 21 [21] false (.bi .range [(.bi .len [(.v 2)])]) [] (.fn 834 [(.ix (.v 11) (.v 21)), (.ix (.v 12) (.v 21))])), (.fn 703 [(.v 0)])])) = .ok (.nxt, mf (frD [vecD k its, vecD kInt more] [nA, nV] rx) (frD [vecD k' its'] [nA] ry) [some (.c (.list [.int 0])), some (.c (.list [.int 0])), none, none, some (.r 0), some (.r 1), none, some (.c (.list (strsD kx))), none, none, none, none, none, none], [.lst true [vecD k its], .lst true [vecD k' its'], .frz (.list [vecD k its])])) (next_n (ss_cons (s_asg (x_fn (l_cons (x_comp (x_bi (l_cons (x_bi (l_cons (x_v rfl) l_nil) rfl) l_nil) rfl) rfl rfl (comp_cons rfl (x_fn (l_cons (x_ix (x_v rfl) (x_v rfl) rfl) (l_cons (x_ix (x_v rfl) (x_v rfl) rfl) l_nil)) rfl (c_askey n hk' _ _)) rfl rfl rfl comp_nil)) (l_cons (x_fn (l_cons (x_v rfl) l_nil) rfl (by exact hry)) l_nil)) rfl (by exact hky)) : (E (n + 38)).s (mf (frD [vecD k its, vecD kInt more] [nA, nV] rx) (frD [vecD k' its'] [nA] ry) [some (.c (.list [.int 0])), some (.c (.list [.int 0])), none, none, some (.r 0), some (.r 1), none, some (.c (.list (strsD kx))), none, none, none, none, none, none]) [.lst true [vecD k its], .lst true [vecD k' its'], .frz (.list [vecD k its])] (.asg 15 (.fn 839 [(.comp 21 [21] false (.bi .range [(.bi .len [(.v 2)])]) [] (.fn 834 [(.ix (.v 12) (.v 21)), (.ix (.v 11) (.v 21))])), (.fn 703 [(.v 1)])])) = .ok (.nxt, mf (frD [vecD k its, vecD kInt more] [nA, nV] rx) (frD [vecD k' its'] [nA] ry) [some (.c (.list [.int 0])), some (.c (.list [.int 0])), none, none, some (.r 0), some (.r 1), none, some (.c (.list (strsD kx))), some (.c (.list (strsD ky))), none, none, none, none, none], [.lst true [vecD k its], .lst true [vecD k' its'], .frz (.list [vecD k its]), .frz (.list [vecD k' its'])])) (next_n (ss_cons (s_asg (x_fn (l_cons (x_v rfl) (l_cons (x_v rfl) (l_cons (x_v rfl) (l_cons (x_v rfl) l_nil)))) rfl (by exact hmp)) : (E (n + 38)).s (mf (frD [vecD k its, vecD kInt more] [nA, nV] rx) (frD [vecD k' its'] [nA] ry) [some (.c (.list [.int 0])), some (.c (.list [.int 0])), none, none, some (.r 0), some (.r 1), none, some (.c (.list (strsD kx))), some (.c (.list (strsD ky))), none, none, none, none, none]) [.lst true [vecD k its], .lst true [vecD k' its'], .frz (.list [vecD k its]), .frz (.list [vecD k' its'])] (.asg 9 (.fn 872 [(.v 14), (.v 15), (.v 3), (.v 4)])) = .ok (.nxt, mf (frD [vecD k its, vecD kInt more] [nA, nV] rx) (frD [vecD k' its'] [nA] ry) [some (.c (.list [.int 0])), some (.c (.list [.int 0])), some (.c (.list (pairsD P))), none, some (.r 0), some (.r 1), none, some (.c (.list (strsD kx))), some (.c (.list (strsD ky))), none, none, none, none, none], [.lst true [vecD k its], .lst true [vecD k' its'], .frz (.list [vecD k its]), .frz (.list [vecD k' its'])])) (next_n ss_nil))))))))))) : (E (n + 39)).s (mf (frD [vecD k its, vecD kInt more] [nA, nV] rx) (frD [vecD k' its'] [nA] ry) [some (.c (.list [.int 0])), some (.c (.list [.int 0])), none, none, none, none, none, none, none, none, none, none, none, none]) [] (.ife (.cmp .eq (.bi .len [(.v 2)]) (.k (.int 0))) [.asg 9 .bad] [.asgC 11 (.comp 21 [21] false (.v 7) [] (.ix (.at (.v 0) .items) (.v 21))), .asgC 12 (.comp 21 [21] false (.v 8) [] (.ix (.at (.v 1) .items) (.v 21))), .asg 14 (.fn 839 [(.comp 21 [21] false (.bi .range [(.bi .len [(.v 2)])]) [] (.fn 834 [(.ix (.v 11) (.v 21)), (.ix (.v 12) (.v 21))])), (.fn 703 [(.v 0)])]), .asg 15 (.fn 839 [(.comp 21 [21] false (.bi .range [(.bi .len [(.v 2)])]) [] (.fn 834 [(.ix (.v 12) (.v 21)), (.ix (.v 11) (.v 21))])), (.fn 703 [(.v 1)])]), .asg 9 (.fn 872 [(.v 14), (.v 15), (.v 3), (.v 4)])]) = .ok (.nxt, mf (frD [vecD k its, vecD kInt more] [nA, nV] rx) (frD [vecD k' its'] [nA] ry) [some (.c (.list [.int 0])), some (.c (.list [.int 0])), some (.c (.list (pairsD P))), none, some (.r 0), some (.r 1), none, some (.c (.list (strsD kx))), some (.c (.list (strsD ky))), none, none, none, none, none], [.lst true [vecD k its], .lst true [vecD k' its'], .frz (.list [vecD k its]), .frz (.list [vecD k' its'])])) (next_n (ss_cons (s_asg (x_list l_nil rfl rfl) : (E (n + 39)).s (mf (frD [vecD k its, vecD kInt more] [nA, nV] rx) (frD [vecD k' its'] [nA] ry) [some (.c (.list [.int 0])), some (.c (.list [.int 0])), some (.c (.list (pairsD P))), none, some (.r 0), some (.r 1), none, some (.c (.list (strsD kx))), some (.c (.list (strsD ky))), none, none, none, none, none]) [.lst true [vecD k its], .lst true [vecD k' its'], .frz (.list [vecD k its]), .frz (.list [vecD k' its'])] (.asg 16 (.list [])) = .ok (.nxt, mf (frD [vecD k its, vecD kInt more] [nA, nV] rx) (frD [vecD k' its'] [nA] ry) [some (.c (.list [.int 0])), some (.c (.list [.int 0])), some (.c (.list (pairsD P))), none, some (.r 0), some (.r 1), none, some (.c (.list (strsD kx))), some (.c (.list (strsD ky))), some (.r 4), none, none, none, none], [.lst true [vecD k its], .lst true [vecD k' its'], .frz (.list [vecD k its]), .frz (.list [vecD k' its']), .lst true []])) (next_n (ss_cons (s_for (x_bi (l_cons (x_bi (l_cons (x_v rfl) l_nil) rfl) l_nil) rfl) rfl rfl (for_cons rfl (ss_cons (s_ex (x_mt (x_v rfl) (ok_lst rfl) (l_cons (x_fn (l_cons (x_ix (x_at (x_v rfl) rfl) (x_ix (x_v rfl) (x_v rfl) rfl) rfl) (l_cons (x_ix (x_at (x_v rfl) rfl) (x_ix (x_v rfl) (x_v rfl) rfl) rfl) (l_cons (x_v rfl) l_nil))) rfl (by exact hkc)) l_nil) (op_append rfl rfl rfl))) (next_n ss_nil)) for_nil) : (E (n + 39)).s (mf (frD [vecD k its, vecD kInt more] [nA, nV] rx) (frD [vecD k' its'] [nA] ry) [some (.c (.list [.int 0])), some (.c (.list [.int 0])), some (.c (.list (pairsD P))), none, some (.r 0), some (.r 1), none, some (.c (.list (strsD kx))), some (.c (.list (strsD ky))), some (.r 4), none, none, none, none]) [.lst true [vecD k its], .lst true [vecD k' its'], .frz (.list [vecD k its]), .frz (.list [vecD k' its']), .lst true []] (.for_ [13] false (.bi .range [(.bi .len [(.v 2)])]) [.ex (.mt .append (.v 16) [(.fn 877 [(.ix (.at (.v 0) .items) (.ix (.v 7) (.v 13))), (.ix (.at (.v 1) .items) (.ix (.v 8) (.v 13))), (.v 9)])])]) = .ok (.nxt, mf (frD [vecD k its, vecD kInt more] [nA, nV] rx) (frD [vecD k' its'] [nA] ry) [some (.c (.list [.int 0])), some (.c (.list [.int 0])), some (.c (.list (pairsD P))), none, some (.r 0), some (.r 1), some (.c (.int 0)), some (.c (.list (strsD kx))), some (.c (.list (strsD ky))), some (.r 4), none, none, none, none], [.lst true [vecD k its], .lst true [vecD k' its'], .frz (.list [vecD k its]), .frz (.list [vecD k' its']), .lst true [vecD k (pickD its (P.map (·.1)))]])) (next_n (ss_cons (s_ife (evB_of (x_and (ao_cons (evB_of (x_cmp (x_bi (l_cons (x_v rfl) l_nil) rfl) x_k rfl)) (ao_go rfl (ao_one (evB_of (x_v rfl))))))) (ite_t rfl (ss_cons (s_asg (x_fn (l_cons (x_fn (l_cons (x_v rfl) (l_cons (x_or (ao_cons (evB_of (x_v rfl)) (ao_go rfl (ao_one (evB_of (x_v rfl)))))) l_nil)) rfl (by exact hmo)) l_nil) rfl (by exact hor)) : (E (n + 38)).s (mf (frD [vecD k its, vecD kInt more] [nA, nV] rx) (frD [vecD k' its'] [nA] ry) [some (.c (.list [.int 0])), some (.c (.list [.int 0])), some (.c (.list (pairsD P))), none, some (.r 0), some (.r 1), some (.c (.int 0)), some (.c (.list (strsD kx))), some (.c (.list (strsD ky))), some (.r 4), none, none, none, none]) [.lst true [vecD k its], .lst true [vecD k' its'], .frz (.list [vecD k its]), .frz (.list [vecD k' its']), .lst true [vecD k (pickD its (P.map (·.1)))]] (.asg 17 (.fn 810 [(.fn 896 [(.v 16), (.or [(.v 3), (.v 4)])])])) = .ok (.nxt, mf (frD [vecD k its, vecD kInt more] [nA, nV] rx) (frD [vecD k' its'] [nA] ry) [some (.c (.list [.int 0])), some (.c (.list [.int 0])), some (.c (.list (pairsD P))), none, some (.r 0), some (.r 1), some (.c (.int 0)), some (.c (.list (strsD kx))), some (.c (.list (strsD ky))), some (.r 4), some (.c (.list (intsD m))), none, none, none], [.lst true [vecD k its], .lst true [vecD k' its'], .frz (.list [vecD k its]), .frz (.list [vecD k' its']), .frz (.list [vecD k (pickD its (P.map (·.1)))])])) (next_n (ss_cons u2 (next_n (ss_cons (s_asgC (x_comp (μ₂ := [.lst true [vecD k its], .lst true [vecD k' its'], .frz (.list [vecD k its]), .frz (.list [vecD k' its']), .frz (.list [vecD k (pickD its (P.map (·.1)))]), .lst true (pairsD ps)]) (x_v rfl) rfl rfl (comp_cons rfl (x_fn (l_cons (x_v rfl) (l_cons (x_v rfl) l_nil)) rfl (by exact hpk)) rfl rfl rfl comp_nil)) : (E (n + 38)).s (mf (frD [vecD k its, vecD kInt more] [nA, nV] rx) (frD [vecD k' its'] [nA] ry) [some (.c (.list [.int 0])), some (.c (.list [.int 0])), some (.r 5), none, some (.r 0), some (.r 1), some (.c (.int 0)), some (.c (.list (strsD kx))), some (.c (.list (strsD ky))), some (.r 4), some (.c (.list (intsD m))), none, none, none]) [.lst true [vecD k its], .lst true [vecD k' its'], .frz (.list [vecD k its]), .frz (.list [vecD k' its']), .frz (.list [vecD k (pickD its (P.map (·.1)))]), .lst true (pairsD ps)] (.asgC 16 (.comp 21 [21] false (.v 16) [] (.fn 729 [(.v 21), (.v 17)]))) = .ok (.nxt, mf (frD [vecD k its, vecD kInt more] [nA, nV] rx) (frD [vecD k' its'] [nA] ry) [some (.c (.list [.int 0])), some (.c (.list [.int 0])), some (.r 5), none, some (.r 0), some (.r 1), some (.c (.int 0)), some (.c (.list (strsD kx))), some (.c (.list (strsD ky))), some (.r 6), some (.c (.list (intsD m))), none, none, none], [.lst true [vecD k its], .lst true [vecD k' its'], .frz (.list [vecD k its]), .frz (.list [vecD k' its']), .frz (.list [vecD k (pickD its (P.map (·.1)))]), .lst true (pairsD ps), .lst true [vecD k (pickD its (ps.map (·.1)))]])) (next_n ss_nil))))))) : (E (n + 39)).s (mf (frD [vecD k its, vecD kInt more] [nA, nV] rx) (frD [vecD k' its'] [nA] ry) [some (.c (.list [.int 0])), some (.c (.list [.int 0])), some (.c (.list (pairsD P))), none, some (.r 0), some (.r 1), some (.c (.int 0)), some (.c (.list (strsD kx))), some (.c (.list (strsD ky))), some (.r 4), none, none, none, none]) [.lst true [vecD k its], .lst true [vecD k' its'], .frz (.list [vecD k its]), .frz (.list [vecD k' its']), .lst true [vecD k (pickD its (P.map (·.1)))]] (.ife (.and [(.cmp .gt (.bi .len [(.v 2)]) (.k (.int 0))), (.v 6)]) [.asg 17 (.fn 810 [(.fn 896 [(.v 16), (.or [(.v 3), (.v 4)])])]), .asgC 9 (.comp 21 [21] false (.v 17) [] (.ix (.v 9) (.v 21))), .asgC 16 (.comp 21 [21] false (.v 16) [] (.fn 729 [(.v 21), (.v 17)]))] []) = .ok (.nxt, mf (frD [vecD k its, vecD kInt more] [nA, nV] rx) (frD [vecD k' its'] [nA] ry) [some (.c (.list [.int 0])), some (.c (.list [.int 0])), some (.r 5), none, some (.r 0), some (.r 1), some (.c (.int 0)), some (.c (.list (strsD kx))), some (.c (.list (strsD ky))), some (.r 6), some (.c (.list (intsD m))), none, none, none], [.lst true [vecD k its], .lst true [vecD k' its'], .frz (.list [vecD k its]), .frz (.list [vecD k' its']), .frz (.list [vecD k (pickD its (P.map (·.1)))]), .lst true (pairsD ps), .lst true [vecD k (pickD its (ps.map (·.1)))]])) (next_n (ss_cons (s_asg (x_fn (l_cons (x_v rfl) l_nil) rfl (by exact hnx)) : (E (n + 39)).s (mf (frD [vecD k its, vecD kInt more] [nA, nV] rx) (frD [vecD k' its'] [nA] ry) [some (.c (.list [.int 0])), some (.c (.list [.int 0])), some (.r 5), none, some (.r 0), some (.r 1), some (.c (.int 0)), some (.c (.list (strsD kx))), some (.c (.list (strsD ky))), some (.r 6), some (.c (.list (intsD m))), none, none, none]) [.lst true [vecD k its], .lst true [vecD k' its'], .frz (.list [vecD k its]), .frz (.list [vecD k' its']), .frz (.list [vecD k (pickD its (P.map (·.1)))]), .lst true (pairsD ps), .lst true [vecD k (pickD its (ps.map (·.1)))]] (.asg 18 (.fn 708 [(.v 0)])) = .ok (.nxt, mf (frD [vecD k its, vecD kInt more] [nA, nV] rx) (frD [vecD k' its'] [nA] ry) [some (.c (.list [.int 0])), some (.c (.list [.int 0])), some (.r 5), none, some (.r 0), some (.r 1), some (.c (.int 0)), some (.c (.list (strsD kx))), some (.c (.list (strsD ky))), some (.r 6), some (.c (.list (intsD m))), some (.c (.list (strsD [nA, nV]))), none, none], [.lst true [vecD k its], .lst true [vecD k' its'], .frz (.list [vecD k its]), .frz (.list [vecD k' its']), .frz (.list [vecD k (pickD its (P.map (·.1)))]), .lst true (pairsD ps), .lst true [vecD k (pickD its (ps.map (·.1)))]])) (next_n (ss_cons (s_asg (x_fn (l_cons (x_v rfl) l_nil) rfl (by exact hny)) : (E (n + 39)).s (mf (frD [vecD k its, vecD kInt more] [nA, nV] rx) (frD [vecD k' its'] [nA] ry) [some (.c (.list [.int 0])), some (.c (.list [.int 0])), some (.r 5), none, some (.r 0), some (.r 1), some (.c (.int 0)), some (.c (.list (strsD kx))), some (.c (.list (strsD ky))), some (.r 6), some (.c (.list (intsD m))), some (.c (.list (strsD [nA, nV]))), none, none]) [.lst true [vecD k its], .lst true [vecD k' its'], .frz (.list [vecD k its]), .frz (.list [vecD k' its']), .frz (.list [vecD k (pickD its (P.map (·.1)))]), .lst true (pairsD ps), .lst true [vecD k (pickD its (ps.map (·.1)))]] (.asg 19 (.fn 708 [(.v 1)])) = .ok (.nxt, mf (frD [vecD k its, vecD kInt more] [nA, nV] rx) (frD [vecD k' its'] [nA] ry) [some (.c (.list [.int 0])), some (.c (.list [.int 0])), some (.r 5), none, some (.r 0), some (.r 1), some (.c (.int 0)), some (.c (.list (strsD kx))), some (.c (.list (strsD ky))), some (.r 6), some (.c (.list (intsD m))), some (.c (.list (strsD [nA, nV]))), some (.c (.list (strsD [nA]))), none], [.lst true [vecD k its], .lst true [vecD k' its'], .frz (.list [vecD k its]), .frz (.list [vecD k' its']), .frz (.list [vecD k (pickD its (P.map (·.1)))]), .lst true (pairsD ps), .lst true [vecD k (pickD its (ps.map (·.1)))]])) (next_n (ss_cons (s_for (x_bi (l_cons (x_bi (l_cons (x_v rfl) l_nil) rfl) l_nil) rfl) rfl rfl (for_cons rfl (ss_cons (s_ife (evB_of (x_cmp (x_v rfl) (x_v rfl) rfl)) (ite_f rfl ss_nil)) (next_n ss_nil)) (for_cons rfl (ss_cons (s_ife (evB_of (x_cmp (x_v rfl) (x_v rfl) rfl)) (ite_t rfl (ss_cons (s_ex (x_mt (x_v rfl) (ok_lst rfl) (l_cons (x_fn (l_cons (x_ix (x_at (x_v rfl) rfl) (x_v rfl) rfl) (l_cons (x_map0 (μ₂ := [.lst true [vecD k its], .lst true [vecD k' its'], .frz (.list [vecD k its]), .frz (.list [vecD k' its']), .frz (.list [vecD k (pickD its (P.map (·.1)))]), .frz (.list (pairsD ps)), .lst true [vecD k (pickD its (ps.map (·.1)))]]) sub0 (l := pairsD ps) (x_v rfl) rfl rfl hps (fun d m => by obtain ⟨p, -, rfl⟩ := pairs_mem m; exact ⟨_, rfl, fun μ _ => x_ix (x_v rfl) x_k rfl⟩)) l_nil)) rfl (by exact hpx)) l_nil) (op_append rfl rfl rfl))) (next_n ss_nil)))) (next_n ss_nil)) for_nil)) : (E (n + 39)).s (mf (frD [vecD k its, vecD kInt more] [nA, nV] rx) (frD [vecD k' its'] [nA] ry) [some (.c (.list [.int 0])), some (.c (.list [.int 0])), some (.r 5), none, some (.r 0), some (.r 1), some (.c (.int 0)), some (.c (.list (strsD kx))), some (.c (.list (strsD ky))), some (.r 6), some (.c (.list (intsD m))), some (.c (.list (strsD [nA, nV]))), some (.c (.list (strsD [nA]))), none]) [.lst true [vecD k its], .lst true [vecD k' its'], .frz (.list [vecD k its]), .frz (.list [vecD k' its']), .frz (.list [vecD k (pickD its (P.map (·.1)))]), .lst true (pairsD ps), .lst true [vecD k (pickD its (ps.map (·.1)))]] (.for_ [10] false (.bi .range [(.bi .len [(.v 18)])]) [.ife (.cmp .notin (.v 10) (.v 7)) [.ex (.mt .append (.v 16) [(.fn 729 [(.ix (.at (.v 0) .items) (.v 10)), (.comp 21 [21] false (.v 9) [] (.ix (.v 21) (.k (.int 0))))])])] []]) = .ok (.nxt, mf (frD [vecD k its, vecD kInt more] [nA, nV] rx) (frD [vecD k' its'] [nA] ry) [some (.c (.list [.int 0])), some (.c (.list [.int 0])), some (.r 5), some (.c (.int 1)), some (.r 0), some (.r 1), some (.c (.int 0)), some (.c (.list (strsD kx))), some (.c (.list (strsD ky))), some (.r 6), some (.c (.list (intsD m))), some (.c (.list (strsD [nA, nV]))), some (.c (.list (strsD [nA]))), none], [.lst true [vecD k its], .lst true [vecD k' its'], .frz (.list [vecD k its]), .frz (.list [vecD k' its']), .frz (.list [vecD k (pickD its (P.map (·.1)))]), .frz (.list (pairsD ps)), .lst true [vecD k (pickD its (ps.map (·.1))), vecD kInt (pickD more (ps.map (·.1)))], .frz (.list ((pairsD ps).map sub0))])) (next_n (ss_cons (s_for (x_bi (l_cons (x_bi (l_cons (x_v rfl) l_nil) rfl) l_nil) rfl) rfl rfl (for_cons rfl (ss_cons (s_ife (evB_of (x_cmp (x_v rfl) (x_v rfl) rfl)) (ite_f rfl ss_nil)) (next_n ss_nil)) for_nil) : (E (n + 39)).s (mf (frD [vecD k its, vecD kInt more] [nA, nV] rx) (frD [vecD k' its'] [nA] ry) [some (.c (.list [.int 0])), some (.c (.list [.int 0])), some (.r 5), some (.c (.int 1)), some (.r 0), some (.r 1), some (.c (.int 0)), some (.c (.list (strsD kx))), some (.c (.list (strsD ky))), some (.r 6), some (.c (.list (intsD m))), some (.c (.list (strsD [nA, nV]))), some (.c (.list (strsD [nA]))), none]) [.lst true [vecD k its], .lst true [vecD k' its'], .frz (.list [vecD k its]), .frz (.list [vecD k' its']), .frz (.list [vecD k (pickD its (P.map (·.1)))]), .frz (.list (pairsD ps)), .lst true [vecD k (pickD its (ps.map (·.1))), vecD kInt (pickD more (ps.map (·.1)))], .frz (.list ((pairsD ps).map sub0))] (.for_ [10] false (.bi .range [(.bi .len [(.v 19)])]) [.ife (.cmp .notin (.v 10) (.v 8)) [.ex (.mt .append (.v 16) [(.fn 729 [(.ix (.at (.v 1) .items) (.v 10)), (.comp 21 [21] false (.v 9) [] (.ix (.v 21) (.k (.int 1))))])])] []]) = .ok (.nxt, mf (frD [vecD k its, vecD kInt more] [nA, nV] rx) (frD [vecD k' its'] [nA] ry) [some (.c (.list [.int 0])), some (.c (.list [.int 0])), some (.r 5), some (.c (.int 0)), some (.r 0), some (.r 1), some (.c (.int 0)), some (.c (.list (strsD kx))), some (.c (.list (strsD ky))), some (.r 6), some (.c (.list (intsD m))), some (.c (.list (strsD [nA, nV]))), some (.c (.list (strsD [nA]))), none], [.lst true [vecD k its], .lst true [vecD k' its'], .frz (.list [vecD k its]), .frz (.list [vecD k' its']), .frz (.list [vecD k (pickD its (P.map (·.1)))]), .frz (.list (pairsD ps)), .lst true [vecD k (pickD its (ps.map (·.1))), vecD kInt (pickD more (ps.map (·.1)))], .frz (.list ((pairsD ps).map sub0))])) (next_n (ss_cons (s_asg (x_bin (x_bi (l_cons (x_v rfl) l_nil) rfl) (x_fn (l_cons (x_v rfl) (l_cons (x_v rfl) (l_cons (x_v rfl) (l_cons (x_ix (x_v rfl) x_k rfl) l_nil)))) rfl (by exact ho1)) rfl) : (E (n + 39)).s (mf (frD [vecD k its, vecD kInt more] [nA, nV] rx) (frD [vecD k' its'] [nA] ry) [some (.c (.list [.int 0])), some (.c (.list [.int 0])), some (.r 5), some (.c (.int 0)), some (.r 0), some (.r 1), some (.c (.int 0)), some (.c (.list (strsD kx))), some (.c (.list (strsD ky))), some (.r 6), some (.c (.list (intsD m))), some (.c (.list (strsD [nA, nV]))), some (.c (.list (strsD [nA]))), none]) [.lst true [vecD k its], .lst true [vecD k' its'], .frz (.list [vecD k its]), .frz (.list [vecD k' its']), .frz (.list [vecD k (pickD its (P.map (·.1)))]), .frz (.list (pairsD ps)), .lst true [vecD k (pickD its (ps.map (·.1))), vecD kInt (pickD more (ps.map (·.1)))], .frz (.list ((pairsD ps).map sub0))] (.asg 20 (.bin .add (.bi .tlist [(.v 2)]) (.fn 884 [(.v 18), (.v 19), (.v 2), (.ix (.v 5) (.k (.int 0)))]))) = .ok (.nxt, mf (frD [vecD k its, vecD kInt more] [nA, nV] rx) (frD [vecD k' its'] [nA] ry) [some (.c (.list [.int 0])), some (.c (.list [.int 0])), some (.r 5), some (.c (.int 0)), some (.r 0), some (.r 1), some (.c (.int 0)), some (.c (.list (strsD kx))), some (.c (.list (strsD ky))), some (.r 6), some (.c (.list (intsD m))), some (.c (.list (strsD [nA, nV]))), some (.c (.list (strsD [nA]))), some (.r 9)], [.lst true [vecD k its], .lst true [vecD k' its'], .frz (.list [vecD k its]), .frz (.list [vecD k' its']), .frz (.list [vecD k (pickD its (P.map (·.1)))]), .frz (.list (pairsD ps)), .lst true [vecD k (pickD its (ps.map (·.1))), vecD kInt (pickD more (ps.map (·.1)))], .frz (.list ((pairsD ps).map sub0)), .lst true (strsD [nA]), .lst true (strsD [nA, nV])])) (next_n (ss_cons (s_asg (x_bin (x_v rfl) (x_fn (l_cons (x_v rfl) (l_cons (x_v rfl) (l_cons (x_v rfl) (l_cons (x_ix (x_v rfl) x_k rfl) l_nil)))) rfl (by exact ho2)) rfl) : (E (n + 39)).s (mf (frD [vecD k its, vecD kInt more] [nA, nV] rx) (frD [vecD k' its'] [nA] ry) [some (.c (.list [.int 0])), some (.c (.list [.int 0])), some (.r 5), some (.c (.int 0)), some (.r 0), some (.r 1), some (.c (.int 0)), some (.c (.list (strsD kx))), some (.c (.list (strsD ky))), some (.r 6), some (.c (.list (intsD m))), some (.c (.list (strsD [nA, nV]))), some (.c (.list (strsD [nA]))), some (.r 9)]) [.lst true [vecD k its], .lst true [vecD k' its'], .frz (.list [vecD k its]), .frz (.list [vecD k' its']), .frz (.list [vecD k (pickD its (P.map (·.1)))]), .frz (.list (pairsD ps)), .lst true [vecD k (pickD its (ps.map (·.1))), vecD kInt (pickD more (ps.map (·.1)))], .frz (.list ((pairsD ps).map sub0)), .lst true (strsD [nA]), .lst true (strsD [nA, nV])] (.asg 20 (.bin .add (.v 20) (.fn 884 [(.v 19), (.v 18), (.v 2), (.ix (.v 5) (.k (.int 1)))]))) = .ok (.nxt, mf (frD [vecD k its, vecD kInt more] [nA, nV] rx) (frD [vecD k' its'] [nA] ry) [some (.c (.list [.int 0])), some (.c (.list [.int 0])), some (.r 5), some (.c (.int 0)), some (.r 0), some (.r 1), some (.c (.int 0)), some (.c (.list (strsD kx))), some (.c (.list (strsD ky))), some (.r 6), some (.c (.list (intsD m))), some (.c (.list (strsD [nA, nV]))), some (.c (.list (strsD [nA]))), some (.r 10)], [.lst true [vecD k its], .lst true [vecD k' its'], .frz (.list [vecD k its]), .frz (.list [vecD k' its']), .frz (.list [vecD k (pickD its (P.map (·.1)))]), .frz (.list (pairsD ps)), .lst true [vecD k (pickD its (ps.map (·.1))), vecD kInt (pickD more (ps.map (·.1)))], .frz (.list ((pairsD ps).map sub0)), .lst true (strsD [nA]), .lst true (strsD [nA, nV]), .lst true (strsD [nA, nV])])) (next_n (ss_cons (s_ret (x_fn (l_cons (x_v rfl) (l_cons (x_v rfl) (l_cons (x_fn (l_cons (x_bi (l_cons (x_v rfl) l_nil) (by exact hlp _ _ rfl)) l_nil) rfl (by exact hpr)) l_nil))) rfl (by exact hnf)) : (E (n + 39)).s (mf (frD [vecD k its, vecD kInt more] [nA, nV] rx) (frD [vecD k' its'] [nA] ry) [some (.c (.list [.int 0])), some (.c (.list [.int 0])), some (.r 5), some (.c (.int 0)), some (.r 0), some (.r 1), some (.c (.int 0)), some (.c (.list (strsD kx))), some (.c (.list (strsD ky))), some (.r 6), some (.c (.list (intsD m))), some (.c (.list (strsD [nA, nV]))), some (.c (.list (strsD [nA]))), some (.r 10)]) [.lst true [vecD k its], .lst true [vecD k' its'], .frz (.list [vecD k its]), .frz (.list [vecD k' its']), .frz (.list [vecD k (pickD its (P.map (·.1)))]), .frz (.list (pairsD ps)), .lst true [vecD k (pickD its (ps.map (·.1))), vecD kInt (pickD more (ps.map (·.1)))], .frz (.list ((pairsD ps).map sub0)), .lst true (strsD [nA]), .lst true (strsD [nA, nV]), .lst true (strsD [nA, nV])] (.ret (.fn 689 [(.v 16), (.v 20), (.fn 696 [(.bi .len [(.v 9)])])])) = .ok (.ret (.c (frD [vecD k (pickD its (ps.map (·.1))), vecD kInt (pickD more (ps.map (·.1)))] [nA, nV] (rngL 1 ((ps.length : Int) + 1) 1))), mf (frD [vecD k its, vecD kInt more] [nA, nV] rx) (frD [vecD k' its'] [nA] ry) [some (.c (.list [.int 0])), some (.c (.list [.int 0])), some (.r 5), some (.c (.int 0)), some (.r 0), some (.r 1), some (.c (.int 0)), some (.c (.list (strsD kx))), some (.c (.list (strsD ky))), some (.r 6), some (.c (.list (intsD m))), some (.c (.list (strsD [nA, nV]))), some (.c (.list (strsD [nA]))), some (.r 10)], [.lst true [vecD k its], .lst true [vecD k' its'], .frz (.list [vecD k its]), .frz (.list [vecD k' its']), .frz (.list [vecD k (pickD its (P.map (·.1)))]), .frz (.list (pairsD ps)), .frz (.list [vecD k (pickD its (ps.map (·.1))), vecD kInt (pickD more (ps.map (·.1)))]), .frz (.list ((pairsD ps).map sub0)), .lst true (strsD [nA]), .lst true (strsD [nA, nV]), .frz (.list (strsD [nA, nV]))])) next_r))))))))))))))))))))))))) rfl⟩
/-! ## frame_argument, b_merge -/
noncomputable def fd663 : Fd := ⟨1, [], 24, [.ife (.or [(.cmp .ne (.at (.v 0) .kind) (.k (.str [108,105,115,116]))), (.cmp .notin (.k (.str [100,97,116,97,46,102,114,97,109,101])) (.fn 421 [(.v 0)])), (.cmp .notin (.k (.str [114,111,119,46,110,97,109,101,115])) (.at (.v 0) .attrs))]) [.ret (.k (.bool false))] [], .asg 1 (.fn 402 [(.v 0)]), .ife (.and [(.cmp .gt (.bi .len [(.at (.v 0) .items)]) (.k (.int 0))), (.or [(.cmp .is (.v 1) (.k .none)), (.cmp .ne (.bi .len [(.v 1)]) (.bi .len [(.at (.v 0) .items)]))])]) [.ret (.k (.bool false))] [], .for_ [2] false (.at (.v 0) .items) [.ife (.or [(.not (.fn 357 [(.v 2)])), (.cmp .ne (.bi .len [(.at (.v 2) .items)]) (.fn 703 [(.v 0)]))]) [.ret (.k (.bool false))] []], .ret (.k (.bool true))]⟩
theorem tab663 : tabK 663 = some fd663 := by kernel_rfl
noncomputable def fd736 : Fd := ⟨2, [], 24, [.asg 0 (.fn 521 [(.v 0), (.v 1)]), .ife (.not (.fn 663 [(.v 0)])) [.raise (.fs [.inl [39], .inr (.v 1), .inl [39,32,109,117,115,116,32,98,101,32,97,32,100,97,116,97,32,102,114,97,109,101]])] [], .ret (.v 0)]⟩
theorem tab736 : tabK 736 = some fd736 := by kernel_rfl
theorem c_needed (n : Nat) (cols : List D) (names : List T) (rw : List D) (t : T) : cl (n + 14) 521 [frD cols names rw, .str t] = .ok (frD cols names rw) := by kernel_rfl
theorem c_clsattr (n : Nat) (cols : List D) (names : List T) (rw : List D) : cl (n + 14) 421 [frD cols names rw] = .ok (.list [.str [100,97,116,97,46,102,114,97,109,101]]) := by kernel_rfl
theorem c_namesof (n : Nat) (cols : List D) (a : T) (l : List T) (rw : List D) (h : l = [] ∨ ∃ b, l = [b]) : cl (n + 34) 402 [frD cols (a :: l) rw] = .ok (.list (strsD (a :: l))) := by
  rcases h with rfl | ⟨b, rfl⟩ <;> kernel_rfl
theorem c_isvec (n : Nat) (k : T) (a : List D) : cl (n + 14) 357 [vecD k a] = .ok (.bool true) := by kernel_rfl
noncomputable def isfB : List S := [.ife (.or [(.not (.fn 357 [(.v 2)])), (.cmp .ne (.bi .len [(.at (.v 2) .items)]) (.fn 703 [(.v 0)]))]) [.ret (.k (.bool false))] []]
noncomputable def isfE (x n c : D) : Ev := [some (.c x), some (.c n), some (.c c)] ++ List.replicate 21 none
theorem isf_step (n : Nat) {x nm : D} {k : T} {a : List D} {r : Nat} (ha : a.length = r) (hr : r ≤ 1000) (h : cl (n + 16) 703 [x] = .ok (.int (r : Nat))) : evSs (E (n + 20)) (isfE x nm (vecD k a)) [] isfB = .ok (.nxt, isfE x nm (vecD k a), []) := by
  have hl : ∀ μ, biop μ .len [.c (.list a)] = .ok (.c (.int r), μ) := fun μ => by
    have := op_len (μ := μ) (v := .c (.list a)) rfl (fits_of (by lia))
    rwa [ha] at this
  exact ss_cons (s_ife (evB_of (x_or (ao_cons (evB_of (x_not (evB_of (x_fn (l_cons (x_v rfl) l_nil) rfl (c_isvec _ k a))))) (ao_go rfl (ao_one (evB_of (x_cmp (x_bi (l_cons (x_at (x_v rfl) rfl) l_nil) (hl _)) (x_fn (l_cons (x_v rfl) l_nil) rfl h) (by
    show some (((r : Nat) : Int) != (r : Nat)) = some false
    rw [bne_self_eq_false])))))))) (ite_f rfl ss_nil)) (next_n ss_nil)
theorem c_isfr2 (n : Nat) {k : T} {its more rw : List D} (a b : T) (h1 : its.length = rw.length) (h2 : more.length = rw.length) (h3 : rw.length ≤ 1000) : cl (n + 40) 663 [frD [vecD k its, vecD kInt more] [a, b] rw] = .ok (.bool true) := by
  have hr := c_rows (n + 21) [vecD k its, vecD kInt more] [a, b] rw h3
  have hn := c_namesof (n + 3) [vecD k its, vecD kInt more] a [b] rw (.inr ⟨_, rfl⟩)
  have hl : ∀ μ, biop μ .len [.c (.list (strsD [a, b]))] = .ok (.c (.int 2), μ) := fun μ => by kernel_rfl
  have st1 := isf_step (n + 18) (nm := .list (strsD [a, b])) (k := k) h1 h3 (by exact c_rows (n + 22) [vecD k its, vecD kInt more] [a, b] rw h3)
  have st2 := isf_step (n + 18) (nm := .list (strsD [a, b])) (k := kInt) h2 h3 (by exact c_rows (n + 22) [vecD k its, vecD kInt more] [a, b] rw h3)
  exact cl_ret (ρ := [some (V.c (frD [vecD k its, vecD kInt more] [a, b] rw)), none, none] ++ List.replicate 21 none) tab663 rfl (v := .c (.bool true)) (ss_cons (s_ife (evB_of (x_or (ao_cons (evB_of (x_cmp (x_at (x_v rfl) rfl) x_k rfl)) (ao_go rfl (ao_cons (evB_of (x_cmp x_k (x_fn (l_cons (x_v rfl) l_nil) rfl (c_clsattr _ _ _ _)) rfl)) (ao_go rfl (ao_one (evB_of (x_cmp x_k (x_at (x_v rfl) rfl) rfl))))))))) (ite_f rfl ss_nil))
    (next_n (ss_cons (s_asg (x_fn (l_cons (x_v rfl) l_nil) rfl (by exact hn)))
    (next_n (ss_cons (s_ife (evB_of (x_and (ao_cons (evB_of (x_cmp (x_bi (l_cons (x_at (x_v rfl) rfl) l_nil) rfl) x_k rfl)) (ao_go rfl (ao_one (evB_of (x_or (ao_cons (evB_of (x_cmp (x_v rfl) x_k rfl)) (ao_go rfl (ao_one (evB_of (x_cmp (x_bi (l_cons (x_v rfl) l_nil) (hl _)) (x_bi (l_cons (x_at (x_v rfl) rfl) l_nil) rfl) rfl)))))))))))) (ite_f rfl ss_nil))
    (next_n (ss_cons (s_for (x_at (x_v rfl) rfl) rfl rfl (for_cons rfl (by exact st1) (for_cons rfl (by exact st2) for_nil)))
    (next_n (ss_cons (s_ret x_k) next_r))))))))) rfl
theorem c_isfr1 (n : Nat) {k : T} {its rw : List D} (a : T) (h1 : its.length = rw.length) (h3 : rw.length ≤ 1000) : cl (n + 40) 663 [frD [vecD k its] [a] rw] = .ok (.bool true) := by
  have hn := c_namesof (n + 3) [vecD k its] a [] rw (.inl rfl)
  have hl : ∀ μ, biop μ .len [.c (.list (strsD [a]))] = .ok (.c (.int 1), μ) := fun μ => by kernel_rfl
  have st1 := isf_step (n + 18) (nm := .list (strsD [a])) (k := k) h1 h3 (by exact c_rows (n + 22) [vecD k its] [a] rw h3)
  exact cl_ret (ρ := [some (V.c (frD [vecD k its] [a] rw)), none, none] ++ List.replicate 21 none) tab663 rfl (v := .c (.bool true)) (ss_cons (s_ife (evB_of (x_or (ao_cons (evB_of (x_cmp (x_at (x_v rfl) rfl) x_k rfl)) (ao_go rfl (ao_cons (evB_of (x_cmp x_k (x_fn (l_cons (x_v rfl) l_nil) rfl (c_clsattr _ _ _ _)) rfl)) (ao_go rfl (ao_one (evB_of (x_cmp x_k (x_at (x_v rfl) rfl) rfl))))))))) (ite_f rfl ss_nil))
    (next_n (ss_cons (s_asg (x_fn (l_cons (x_v rfl) l_nil) rfl (by exact hn)))
    (next_n (ss_cons (s_ife (evB_of (x_and (ao_cons (evB_of (x_cmp (x_bi (l_cons (x_at (x_v rfl) rfl) l_nil) rfl) x_k rfl)) (ao_go rfl (ao_one (evB_of (x_or (ao_cons (evB_of (x_cmp (x_v rfl) x_k rfl)) (ao_go rfl (ao_one (evB_of (x_cmp (x_bi (l_cons (x_v rfl) l_nil) (hl _)) (x_bi (l_cons (x_at (x_v rfl) rfl) l_nil) rfl) rfl)))))))))))) (ite_f rfl ss_nil))
    (next_n (ss_cons (s_for (x_at (x_v rfl) rfl) rfl rfl (for_cons rfl (by exact st1) for_nil))
    (next_n (ss_cons (s_ret x_k) next_r))))))))) rfl
/-- a frame as an argument -/
noncomputable def IsFr (x : D) : Prop := ∃ cols names rw, x = frD cols names rw ∧ ∀ n, cl (n + 40) 663 [x] = .ok (.bool true)
theorem isFr2 {k : T} {its more rw : List D} (a b : T) (h1 : its.length = rw.length) (h2 : more.length = rw.length) (h3 : rw.length ≤ 1000) : IsFr (frD [vecD k its, vecD kInt more] [a, b] rw) := ⟨_, _, _, rfl, fun n => c_isfr2 n a b h1 h2 h3⟩
theorem isFr1 {k : T} {its rw : List D} (a : T) (h1 : its.length = rw.length) (h3 : rw.length ≤ 1000) : IsFr (frD [vecD k its] [a] rw) := ⟨_, _, _, rfl, fun n => c_isfr1 n a h1 h3⟩
theorem c_frarg (n : Nat) {x : D} (h : IsFr x) (t : T) : cl (n + 44) 736 [x, .str t] = .ok x := by
  obtain ⟨cols, names, rw, rfl, h⟩ := h
  exact cl_ret (ρ := [some (V.c (frD cols names rw)), some (V.c (.str t))] ++ List.replicate 22 none) tab736 rfl (v := .c (frD cols names rw)) (ss_cons (s_asg (x_fn (l_cons (x_v rfl) (l_cons (x_v rfl) l_nil)) rfl (c_needed (n + 27) _ _ _ _))) (next_n (ss_cons (s_ife (evB_of (x_not (evB_of (x_fn (l_cons (x_v rfl) l_nil) rfl (by exact h n))))) (ite_f rfl ss_nil)) (next_n (ss_cons (s_ret (x_v rfl)) next_r))))) rfl
/-! ## b_merge, _law_asked -/
noncomputable def tBy : T := [98,121]
noncomputable def tByx : T := [98,121,46,120]
noncomputable def tByy : T := [98,121,46,121]
noncomputable def nB : T := [98]
noncomputable def nQ : T := [113]
noncomputable def chD (l : List T) : D := vecD kChr (strsD l)
noncomputable def argsD (x y : D) (l : List (T × D)) : D := .list ([.tup [.none, x], .tup [.none, y]] ++ l.map fun p => .tup [.str p.1, p.2])
noncomputable def nn : Option V := some (.c .none)
noncomputable def bmV (args : D) (f : Option V) (l : List (Option V)) : Ev := [nn, some (.c args), nn, f] ++ l ++ List.replicate 4 none
noncomputable def n6 : List (Option V) := List.replicate 6 none
noncomputable def frmls : List D := strsD [[120],[121],tBy,tByx,tByy,[97,108,108],[97,108,108,46,120],[97,108,108,46,121],[115,111,114,116],[115,117,102,102,105,120,101,115]]
noncomputable def bmA : List S := fd926.body.take 2
noncomputable def bmB : List S := (fd926.body.drop 2).take 2
noncomputable def bmC : List S := (fd926.body.drop 4).take 10
noncomputable def bmD : List S := fd926.body.drop 14
theorem bm_body : fd926.body = bmA ++ (bmB ++ (bmC ++ bmD)) := rfl
noncomputable def ls (a b c d e : D) : List (Option V) := [some (.c a), some (.c b), some (.c c), some (.c d), some (.c e), nn, nn, nn, nn, nn]
noncomputable def fY (k : T) (its more rx : List D) (a b : T) : D := frD [vecD k its, vecD kInt more] [a, b] rx
noncomputable def lsC (a : D) (y c d e v16 common names others : D) : List (Option V) := ls a y c d e ++ [some (.r 1), some (.c common), some (.c v16), some (.c names), some (.c others), some (.c (.bool false))]
noncomputable def muF : Mu := [.frz (.list frmls)]
noncomputable def muG : Mu := [.frz (.list frmls), .lst true (strsD [eX, eY])]
section
variable {n : Nat} {ρ ρ₁ ρ₂ : Ev} {μ μ₁ μ₂ : Mu}
theorem bind_on {α β : Type} {r : Res α} {f g : α → Res β} {b : β} {res : Res β} (h : r.bind f = .ok b) (k : ∀ a, f a = .ok b → g a = res) : r.bind g = res := by
  rcases r with a | _ | _
  · exact k a h
  · exact nomatch h
  · exact nomatch h
theorem bind_no {α β : Type} {r : Res α} {f g : α → Res β} (h : r.bind f = .no) (k : ∀ a, f a = .no → g a = .no) : r.bind g = .no := by
  rcases r with a | _ | _
  · exact k a h
  · exact nomatch h
  · rfl
theorem thn_on {o o' : Option T} {r : Res (Fl × Ev × Mu)} {k k' : Ev → Mu → Option T} {f : Fl × Ev × Mu → Res (Fl × Ev × Mu)} {b : Fl × Ev × Mu} (h : r.bind f = .ok b) (hx : thn o r k = none) (H : ∀ q, f q = .ok b → (match q.1 with | .nxt => k q.2.1 q.2.2 | .ret _ => none) = none → (match q.1 with | .nxt => k' q.2.1 q.2.2 | .ret _ => none) = o') : thn o r k' = o' := by
  rcases o with _ | m
  · rcases r with a | _ | _
    · exact H a h hx
    · exact nomatch h
    · exact nomatch h
  · exact nomatch hx
theorem thn_some {o : Option T} {r : Res (Fl × Ev × Mu)} {k k' : Ev → Mu → Option T} {m : T} (hx : thn o r k = some m) (H : ∀ ρ μ, k ρ μ = some m → k' ρ μ = some m) : thn o r k' = some m := by
  rcases o with _ | m'
  · rcases r with ⟨f, ρ, μ⟩ | _ | _
    · rcases f with _ | v
      · exact H ρ μ hx
      · exact nomatch hx
    · exact nomatch hx
    · exact nomatch hx
  · exact hx
theorem ss_app {b : List S} {res} : ∀ {a : List S} {ρ : Ev} {μ : Mu}, evSs (E n) ρ μ a = .ok (.nxt, ρ₁, μ₁) → evSs (E n) ρ₁ μ₁ b = res → evSs (E n) ρ μ (a ++ b) = res
  | [], _, _, h, h2 => by cases h; exact h2
  | s :: a, ρ, μ, h, h2 => bind_on h fun ⟨f, ρ', μ'⟩ h => by
    rcases f with _ | v
    · exact ss_app (a := a) h h2
    · exact nomatch h
theorem ss_no {b : List S} : ∀ {a : List S} {ρ : Ev} {μ : Mu}, evSs (E n) ρ μ a = .no → evSs (E n) ρ μ (a ++ b) = .no
  | [], _, _, h => nomatch h
  | s :: a, ρ, μ, h => bind_no h fun ⟨f, ρ', μ'⟩ h => by
    rcases f with _ | v
    · exact ss_no (a := a) h
    · exact nomatch h
theorem ex_app {b : List S} {o : Option T} : ∀ {a : List S} {ρ : Ev} {μ : Mu}, evSs (E n) ρ μ a = .ok (.nxt, ρ₁, μ₁) → exSs (E n) ρ μ a = none → exSs (E n) ρ₁ μ₁ b = o → exSs (E n) ρ μ (a ++ b) = o
  | [], _, _, h, _, h2 => by cases h; exact h2
  | s :: a, ρ, μ, h, hx, h2 => thn_on h hx fun ⟨f, ρ', μ'⟩ h hx => by
    rcases f with _ | v
    · exact ex_app (a := a) h hx h2
    · exact nomatch h
theorem ex_some {b : List S} {m : T} : ∀ {a : List S} {ρ : Ev} {μ : Mu}, exSs (E n) ρ μ a = some m → exSs (E n) ρ μ (a ++ b) = some m
  | [], _, _, h => nomatch h
  | s :: a, ρ, μ, h => thn_some h fun ρ μ h => ex_some (a := a) h
theorem s_try {b : List S} {r} (h : evSs (E n) ρ [] b = .ok r) : (E (n + 1)).s ρ [] (.tryM b) = .ok r := by
  show tryR (evSs (E n) ρ [] b) (exSs (E n) ρ [] b) = _
  rw [h]; rfl
theorem s_tryX {b : List S} {m : T} (h : evSs (E n) ρ [] b = .no) (h2 : exSs (E n) ρ [] b = some m) : (E (n + 1)).s ρ [] (.tryM b) = .ok (.ret (.c (.str m)), [], []) := by
  show tryR (evSs (E n) ρ [] b) (exSs (E n) ρ [] b) = _
  rw [h, h2]; rfl
end
theorem c_istrue (n : Nat) (b : Bool) : cl (n + 14) 656 [.none, .bool b] = .ok (.bool b) := by kernel_rfl
theorem bm_args (n : Nat) (args : D) {x y b c d : D} (hx : IsFr x) (hy : IsFr y) : evSs (E (n + 59)) (bmV args (some (.r 0)) (ls x y b c d ++ n6)) muF bmB = .ok (.nxt, bmV args (some (.r 0)) (ls x y b c d ++ n6), muF) :=
  ss_cons (s_asg (x_fn (l_cons (x_v rfl) (l_cons x_k l_nil)) rfl (c_frarg (n + 13) hx _))) (next_n (ss_cons (s_asg (x_fn (l_cons (x_v rfl) (l_cons x_k l_nil)) rfl (c_frarg (n + 13) hy _))) (next_n ss_nil)))
/-- what the first statements do with the arguments -/
noncomputable def TakesAs (args x y b c d : D) : Prop := ∀ n, evSs (E (n + 59)) (bmV args none (List.replicate 16 none)) [] bmA = .ok (.nxt, bmV args (some (.r 0)) (ls x y b c d ++ n6), muF)
/-- the names are found -/
noncomputable def Finds (args x y b c d y2 v16 common names others : D) : Prop := ∀ n, evSs (E (n + 59)) (bmV args (some (.r 0)) (ls x y b c d ++ n6)) muF bmC = .ok (.nxt, bmV args (some (.r 0)) (lsC x y2 b c d v16 common names others), muG)
theorem c_bm (n : Nat) {args x y b c d y2 v16 common names others R : D} (hA : TakesAs args x y b c d) (hx : IsFr x) (hy : IsFr y) (hC : Finds args x y b c d y2 v16 common names others)
    (hm : cl (n + 57) 902 [x, y2, names, .bool false, .bool false, .list [.str eX, .str eY], .bool true] = .ok R) : cl (n + 64) 945 [args] = .ok R := by
  have hb : cl (n + 60) 926 [.none, args, .none] = .ok R := cl_ret (ρ := bmV args none (List.replicate 16 none)) tab926 rfl (v := .c R) (by
    rw [bm_body]
    refine ss_app (hA n) (ss_app (bm_args n args hx hy) (ss_app (hC n) ?_))
    exact ss_cons (s_ret (x_fn (l_cons (x_v rfl) (l_cons (x_v rfl) (l_cons (x_v rfl) (l_cons (x_fn (l_cons (x_v rfl) (l_cons (x_v rfl) l_nil)) rfl (c_istrue (n + 42) false)) (l_cons (x_fn (l_cons (x_v rfl) (l_cons (x_v rfl) l_nil)) rfl (c_istrue (n + 42) false)) (l_cons (x_v rfl) (l_cons (x_fn (l_cons (x_v rfl) (l_cons x_k l_nil)) rfl (c_istrue (n + 42) true)) l_nil))))))) rfl (by exact hm))) next_r) rfl
  exact cl_ret (ρ := [some (V.c args)] ++ List.replicate 23 none) tab945 rfl (v := .c R) (ss_cons (s_try (ss_cons (s_ret (x_fn (l_cons x_k (l_cons (x_v rfl) (l_cons x_k l_nil))) rfl (by exact hb))) next_r)) next_r) rfl
/-! the ways to ask -/
theorem tk_xy (x y a b : D) : TakesAs (argsD x y [(tByx, a), (tByy, b)]) x y .none a b := fun n => by kernel_rfl
theorem tk_x (x y a : D) : TakesAs (argsD x y [(tByx, a)]) x y .none a .none := fun n => by kernel_rfl
theorem tk_y (x y a : D) : TakesAs (argsD x y [(tByy, a)]) x y .none .none a := fun n => by kernel_rfl
theorem tk_b (x y a : D) : TakesAs (argsD x y [(tBy, a)]) x y a .none .none := fun n => by kernel_rfl
theorem tk_n (x y : D) : TakesAs (argsD x y []) x y .none .none .none := fun n => by kernel_rfl
section
variable (args : D) (k k' : T) (its more rx its' more' ry : List D)
theorem fi_1w : Finds args (frD [vecD k its, vecD kInt more] [nA, nV] rx) (frD [vecD k' its', vecD kInt more'] [nB, nW] ry) .none (chD [nA]) (chD [nB]) (frD [vecD k' its', vecD kInt more'] [nA, nW] ry) (chD [nB]) (.list (strsD [])) (.list (strsD [nA])) (.list (strsD [nB])) := fun n => by kernel_rfl
theorem fi_1a : Finds args (frD [vecD k its, vecD kInt more] [nA, nV] rx) (frD [vecD k' its', vecD kInt more'] [nB, nA] ry) .none (chD [nA]) (chD [nB]) (frD [vecD k' its', vecD kInt more'] [nA, nAy] ry) (chD [nB]) (.list (strsD [nA])) (.list (strsD [nA])) (.list (strsD [nB])) := fun n => by kernel_rfl
theorem fi_2w : Finds args (frD [vecD k its, vecD kInt more] [nA, nV] rx) (frD [vecD k' its', vecD kInt more'] [nB, nW] ry) .none (chD [nA, nA]) (chD [nB, nB, nB]) (frD [vecD k' its', vecD kInt more'] [nA, nW] ry) (chD [nB, nB, nB]) (.list (strsD [])) (.list (strsD [nA])) (.list (strsD [nB])) := fun n => by kernel_rfl
theorem fi_2a : Finds args (frD [vecD k its, vecD kInt more] [nA, nV] rx) (frD [vecD k' its', vecD kInt more'] [nB, nA] ry) .none (chD [nA, nA]) (chD [nB, nB, nB]) (frD [vecD k' its', vecD kInt more'] [nA, nAy] ry) (chD [nB, nB, nB]) (.list (strsD [nA])) (.list (strsD [nA])) (.list (strsD [nB])) := fun n => by kernel_rfl
theorem fi_3x : Finds args (frD [vecD k its, vecD kInt more] [nA, nV] rx) (frD [vecD k' its', vecD kInt more'] [nA, nW] ry) .none (chD [nA]) .none (frD [vecD k' its', vecD kInt more'] [nA, nW] ry) .none (.list (strsD [nA])) (.list (strsD [nA])) (.list (strsD [nA])) := fun n => by kernel_rfl
theorem fi_3y : Finds args (frD [vecD k its, vecD kInt more] [nA, nV] rx) (frD [vecD k' its', vecD kInt more'] [nA, nW] ry) .none .none (chD [nA]) (frD [vecD k' its', vecD kInt more'] [nA, nW] ry) (chD [nA]) (.list (strsD [nA])) (.list (strsD [nA])) (.list (strsD [nA])) := fun n => by kernel_rfl
theorem fi_3b : Finds args (frD [vecD k its, vecD kInt more] [nA, nV] rx) (frD [vecD k' its', vecD kInt more'] [nA, nW] ry) (chD [nA, nA]) .none .none (frD [vecD k' its', vecD kInt more'] [nA, nW] ry) (chD [nA, nA]) (.list (strsD [nA])) (.list (strsD [nA])) (.list (strsD [nA])) := fun n => by kernel_rfl
theorem fi_3n : Finds args (frD [vecD k its, vecD kInt more] [nA, nV] rx) (frD [vecD k' its', vecD kInt more'] [nA, nW] ry) .none .none .none (frD [vecD k' its', vecD kInt more'] [nA, nW] ry) .none (.list (strsD [nA])) (.list (strsD [nA])) (.list (strsD [nA])) := fun n => by kernel_rfl
theorem fi_4 : Finds args (frD [vecD k its, vecD kInt more] [nA, nV] rx) (frD [vecD k' its'] [nA] ry) .none .none .none (frD [vecD k' its'] [nA] ry) .none (.list (strsD [nA])) (.list (strsD [nA])) (.list (strsD [nA])) := fun n => by kernel_rfl
end
/-! ## refusals -/
section
variable {n : Nat} {ρ ρ₁ ρ₂ : Ev} {μ μ₁ μ₂ : Mu}
theorem ec_of {f : Addr} {fd : Fd} {vs : List V} (ht : tabK f = some fd) (ha : fd.args vs = some ρ) : (E (n + 1)).ec f vs = exSs (E n) ρ [] fd.body := by
  show (match tabK f with | some fd => callE (E n) fd vs | none => none) = _
  rw [ht]
  show callE (E n) fd vs = _
  unfold callE
  rw [ha]
theorem call_no {f : Addr} {fd : Fd} {vs : List V} (ht : tabK f = some fd) (ha : fd.args vs = some ρ) (h : evSs (E n) ρ [] fd.body = .no) : (E (n + 1)).call f vs [] = .no := by
  show (match tabK f with | some fd => callF (E n) fd vs [] | none => .no) = _
  rw [ht]
  show callF (E n) fd vs [] = _
  unfold callF
  rw [ha]
  dsimp only
  rw [h]; rfl
theorem call_of {f : Addr} {fd : Fd} {vs : List V} {v : V} (ht : tabK f = some fd) (ha : fd.args vs = some ρ) (h : evSs (E n) ρ [] fd.body = .ok (.ret v, ρ₂, μ₁)) : (E (n + 1)).call f vs [] = .ok (v, μ₁) := by
  show (match tabK f with | some fd => callF (E n) fd vs [] | none => .no) = _
  rw [ht]
  show callF (E n) fd vs [] = _
  unfold callF
  rw [ha]
  dsimp only
  rw [h]; rfl
theorem ex_cons {s : S} {r : List S} {o : Option T} (h1 : (E n).es ρ μ s = none) (h2 : (E n).s ρ μ s = .ok (.nxt, ρ₁, μ₁)) (h3 : exSs (E n) ρ₁ μ₁ r = o) : exSs (E n) ρ μ (s :: r) = o := by
  show thn ((E n).es ρ μ s) ((E n).s ρ μ s) _ = _
  rw [h1, h2]; exact h3
theorem ex_ret {s : S} {r : List S} {v : V} (h1 : (E n).es ρ μ s = none) (h2 : (E n).s ρ μ s = .ok (.ret v, ρ₁, μ₁)) : exSs (E n) ρ μ (s :: r) = none := by
  show thn ((E n).es ρ μ s) ((E n).s ρ μ s) _ = _
  rw [h1, h2]; rfl
theorem exF {f : Addr} {l : List X} {vs : List V} {ds : List D} {o : Option T} (h1 : evL (E n) ρ μ l = .ok (vs, μ₁)) (h2 : frzs μ₁ vs = .ok (ds, μ₂)) (h3 : (E n).ec f (ds.map .c) = o) : exFn (E n) ρ μ f l = o := by
  show ((evL (E n) ρ μ l).bind fun x => match x with | (vs, μ) => frzs μ vs).opt.bind _ = _
  rw [show ((evL (E n) ρ μ l).bind fun x => match x with | (vs, μ) => frzs μ vs) = .ok (ds, μ₂) from bindOk h1 h2]
  exact h3
theorem e_asg {i : Nat} {f : Addr} {l : List X} {vs : List V} {o : Option T} (ds : List D) (h1 : evL (E n) ρ μ l = .ok (vs, μ₁)) (h2 : frzs μ₁ vs = .ok (ds, μ₂)) (h3 : (E n).ec f (ds.map .c) = o) : (E (n + 1)).es ρ μ (.asg i (.fn f l)) = o := exF h1 h2 h3
theorem e_ret {f : Addr} {l : List X} {vs : List V} {o : Option T} (ds : List D) (h1 : evL (E n) ρ μ l = .ok (vs, μ₁)) (h2 : frzs μ₁ vs = .ok (ds, μ₂)) (h3 : (E n).ec f (ds.map .c) = o) : (E (n + 1)).es ρ μ (.ret (.fn f l)) = o := exF h1 h2 h3
theorem thn_none {r : Res (Fl × Ev × Mu)} {k : Ev → Mu → Option T} (h : ∀ ρ μ, k ρ μ = none) : thn none r k = none := by
  rcases r with ⟨f, ρ, μ⟩ | _ | _
  · rcases f with _ | v
    · exact h ρ μ
    · rfl
  · rfl
  · rfl
theorem ex_two {s1 s2 : S} (h1 : ∀ ρ μ, (E n).es ρ μ s1 = none) (h2 : ∀ ρ μ, (E n).es ρ μ s2 = none) : exSs (E n) ρ μ [s1, s2] = none := by
  show thn ((E n).es ρ μ s1) _ _ = _
  rw [h1]
  refine thn_none fun ρ μ => ?_
  show thn ((E n).es ρ μ s2) _ _ = _
  rw [h2]
  exact thn_none fun _ _ => rfl
theorem e_ife {t : X} {a b : List S} {c : Bool} {o : Option T} (h1 : evB (E n) ρ μ t = .ok (c, μ₁)) (h2 : (if c then exSs (E n) ρ μ₁ a else exSs (E n) ρ μ₁ b) = o) : (E (n + 1)).es ρ μ (.ife t a b) = o := by
  show (evB (E n) ρ μ t).opt.bind _ = _
  rw [h1]
  exact h2
theorem s_retNo {f : Addr} {l : List X} {vs : List V} {ds : List D} (h1 : evL (E n) ρ μ l = .ok (vs, μ₁)) (h2 : frzs μ₁ vs = .ok (ds, μ₂)) (h3 : (E n).call f (ds.map .c) [] = .no) : (E (n + 2)).s ρ μ (.ret (.fn f l)) = .no := by
  have : (E (n + 1)).x ρ μ (.fn f l) = .no := by
    refine bindOk h1 (bindOk h2 ?_)
    show ((E n).call f (ds.map .c) []).bind _ = _
    rw [h3]; rfl
  show ((E (n + 1)).x ρ μ (.fn f l)).bind _ = _
  rw [this]; rfl
end
theorem ec_needed (n : Nat) (cols : List D) (names : List T) (rw : List D) (t : T) : (E (n + 14)).ec 521 [.c (frD cols names rw), .c (.str t)] = none := by kernel_rfl
theorem ec_frarg (n : Nat) {x : D} (h : IsFr x) (t : T) : (E (n + 44)).ec 736 [.c x, .c (.str t)] = none := by
  obtain ⟨cols, names, rw, rfl, h⟩ := h
  rw [ec_of tab736 (ρ := [some (V.c (frD cols names rw)), some (V.c (.str t))] ++ List.replicate 22 none) rfl]
  refine ex_cons (e_asg [frD cols names rw, .str t] (l_cons (x_v rfl) (l_cons (x_v rfl) l_nil)) rfl (ec_needed (n + 28) _ _ _ _)) (s_asg (x_fn (l_cons (x_v rfl) (l_cons (x_v rfl) l_nil)) rfl (c_needed (n + 27) _ _ _ _))) ?_
  refine ex_cons (e_ife (evB_of (x_not (evB_of (x_fn (l_cons (x_v rfl) l_nil) rfl (by exact h n))))) rfl) (s_ife (evB_of (x_not (evB_of (x_fn (l_cons (x_v rfl) l_nil) rfl (by exact h n))))) (ite_f rfl ss_nil)) ?_
  exact ex_ret rfl (s_ret (x_v rfl))
theorem ex_args (n : Nat) (args : D) {x y b c d : D} (hx : IsFr x) (hy : IsFr y) : exSs (E (n + 59)) (bmV args (some (.r 0)) (ls x y b c d ++ n6)) muF bmB = none :=
  ex_cons (e_asg [x, .str _] (l_cons (x_v rfl) (l_cons x_k l_nil)) rfl (ec_frarg (n + 14) hx _)) (s_asg (x_fn (l_cons (x_v rfl) (l_cons x_k l_nil)) rfl (c_frarg (n + 13) hx _)))
    (ex_cons (e_asg [y, .str _] (l_cons (x_v rfl) (l_cons x_k l_nil)) rfl (ec_frarg (n + 14) hy _)) (s_asg (x_fn (l_cons (x_v rfl) (l_cons x_k l_nil)) rfl (c_frarg (n + 13) hy _))) rfl)
theorem ex_takes (n : Nat) (args : D) : exSs (E (n + 59)) (bmV args none (List.replicate 16 none)) [] bmA = none := by
  exact ex_two (fun _ _ => rfl) (fun _ _ => rfl)
noncomputable def Refuses (args x y b c d : D) (m : T) : Prop := ∀ n, evSs (E (n + 59)) (bmV args (some (.r 0)) (ls x y b c d ++ n6)) muF bmC = .no ∧ exSs (E (n + 59)) (bmV args (some (.r 0)) (ls x y b c d ++ n6)) muF bmC = some m
theorem c_refused (n : Nat) {args x y b c d : D} {m : T} (hA : TakesAs args x y b c d) (hx : IsFr x) (hy : IsFr y) (hC : Refuses args x y b c d m) : cl (n + 64) 945 [args] = .ok (.str m) := by
  have hno : evSs (E (n + 59)) (bmV args none (List.replicate 16 none)) [] fd926.body = .no := by
    rw [bm_body]
    exact ss_app (hA n) (ss_app (bm_args n args hx hy) (ss_no (hC n).1))
  have hex : exSs (E (n + 60)) (bmV args none (List.replicate 16 none)) [] fd926.body = some m := by
    rw [bm_body]
    exact ex_app (hA (n + 1)) (ex_takes (n + 1) args) (ex_app (bm_args (n + 1) args hx hy) (ex_args (n + 1) args hx hy) (ex_some (hC (n + 1)).2))
  refine cl_ret (ρ := [some (V.c args)] ++ List.replicate 23 none) tab945 rfl (v := .c (.str m)) (ss_cons (s_tryX (b := [.ret (.fn 926 [(.k .none), (.v 0), (.k .none)])]) ?_ ?_) next_r) rfl
  · rw [evSs, s_retNo (ds := [.none, args, .none]) (l_cons x_k (l_cons (x_v rfl) (l_cons x_k l_nil))) rfl (call_no tab926 rfl hno)]; rfl
  · have : (E (n + 62)).es ([some (V.c args)] ++ List.replicate 23 none) [] (.ret (.fn 926 [(.k .none), (.v 0), (.k .none)])) = some m := e_ret [.none, args, .none] (l_cons x_k (l_cons (x_v rfl) (l_cons x_k l_nil))) rfl ((ec_of tab926 rfl).trans hex)
    show thn ((E (n + 62)).es ([some (V.c args)] ++ List.replicate 23 none) [] (.ret (.fn 926 [(.k .none), (.v 0), (.k .none)]))) _ _ = _
    rw [this]; rfl
noncomputable def msg1 : T := [39,98,121,46,120,39,32,97,110,100,32,39,98,121,46,121,39,32,115,112,101,99,105,102,121,32,100,105,102,102,101,114,101,110,116,32,110,117,109,98,101,114,115,32,111,102,32,99,111,108,117,109,110,115]
noncomputable def msg2 : T := [39,98,121,39,32,109,117,115,116,32,115,112,101,99,105,102,121,32,97,32,117,110,105,113,117,101,108,121,32,118,97,108,105,100,32,99,111,108,117,109,110]
section
variable (args : D) (k k' : T) (its more rx its' more' ry : List D)
theorem rf_1 : Refuses args (frD [vecD k its, vecD kInt more] [nA, nV] rx) (frD [vecD k' its', vecD kInt more'] [nA, nV] ry) .none (chD [nA]) .none msg1 := fun n => ⟨by kernel_rfl, by kernel_rfl⟩
theorem rf_2w : Refuses args (frD [vecD k its, vecD kInt more] [nA, nV] rx) (frD [vecD k' its', vecD kInt more'] [nB, nW] ry) .none (chD [nA]) (chD [nQ]) msg2 := fun n => ⟨by kernel_rfl, by kernel_rfl⟩
theorem rf_2a : Refuses args (frD [vecD k its, vecD kInt more] [nA, nV] rx) (frD [vecD k' its', vecD kInt more'] [nB, nA] ry) .none (chD [nA]) (chD [nQ]) msg2 := fun n => ⟨by kernel_rfl, by kernel_rfl⟩
end
/-! ## what is told -/
structure Dat (k : T) (its more rx : List D) (k' : T) (its' ry : List D) (kx ky : List T) : Prop where
  G : Good k its
  hk' : k' = kInt ∨ k' = kChr
  lx : kx.length ≤ 4
  ly : ky.length ≤ 4
  l1 : its.length = kx.length
  l2 : more.length = kx.length
  l3 : rx.length = kx.length
  l4 : its'.length = ky.length
  l6 : ry.length = ky.length
  hkx : ∀ n, cl (n + 36) 839 [.list [vecD k its], .int (kx.length : Nat)] = .ok (.list (strsD kx))
  hky : ∀ n, cl (n + 36) 839 [.list [vecD k' its'], .int (ky.length : Nat)] = .ok (.list (strsD ky))
section
variable {k k' : T} {its more rx its' more' ry : List D} {kx ky : List T}
theorem Dat.frX (W : Dat k its more rx k' its' ry kx ky) : IsFr (frD [vecD k its, vecD kInt more] [nA, nV] rx) := isFr2 nA nV (by rw [W.l1, W.l3]) (by rw [W.l2, W.l3]) (by rw [W.l3]; exact Nat.le_trans W.lx (by decide))
theorem Dat.frY (W : Dat k its more rx k' its' ry kx ky) (l5 : more'.length = ky.length) (a b : T) : IsFr (frD [vecD k' its', vecD kInt more'] [a, b] ry) := isFr2 a b (by rw [W.l4, W.l6]) (by rw [l5, W.l6]) (by rw [W.l6]; exact Nat.le_trans W.ly (by decide))
theorem Dat.frY1 (W : Dat k its more rx k' its' ry kx ky) (a : T) : IsFr (frD [vecD k' its'] [a] ry) := isFr1 a (by rw [W.l4, W.l6]) (by rw [W.l6]; exact Nat.le_trans W.ly (by decide))
/-- the frame that is told -/
noncomputable def madeD (k : T) (its more more' : List D) (h : T) (ps : List (Nat × Nat)) (rw : List D) : D := frD [vecD k (pickD its (ps.map (·.1))), vecD kInt (pickD more (ps.map (·.1))), vecD kInt (pickD more' (ps.map (·.2)))] [nA, nV, h] rw
theorem Dat.told (W : Dat k its more rx k' its' ry kx ky) (l5 : more'.length = ky.length) (n : Nat) {p q h : T} (hh : h = nW ∨ h = nAy) {args b c d v16 common others : D} (hA : TakesAs args (frD [vecD k its, vecD kInt more] [nA, nV] rx) (frD [vecD k' its', vecD kInt more'] [p, q] ry) b c d)
    (hC : Finds args (frD [vecD k its, vecD kInt more] [nA, nV] rx) (frD [vecD k' its', vecD kInt more'] [p, q] ry) b c d (frD [vecD k' its', vecD kInt more'] [nA, h] ry) v16 common (.list (strsD [nA])) others) :
    ∃ ps rw, ps.Perm (pairs kx ky) ∧ cl (n + 64) 945 [args] = .ok (madeD k its more more' h ps rw) := by
  have hny := c_names (n + 20) [vecD k' its', vecD kInt more'] nA [h] ry (.inr ⟨_, rfl⟩)
  have key : ∃ ps rw, ps.Perm (pairs kx ky) ∧ cl (n + 57) 902 [frD [vecD k its, vecD kInt more] [nA, nV] rx, frD [vecD k' its', vecD kInt more'] [nA, h] ry, .list [.str nA], .bool false, .bool false, .list [.str eX, .str eY], .bool true] = .ok (madeD k its more more' h ps rw) := by
    rcases hh with rfl | rfl
    · exact c_mf2 (n + 17) W.G W.hk' W.lx W.ly W.l1 W.l2 W.l3 W.l4 l5 W.l6 (W.hkx _) (W.hky _) (c_checkW (n + 20) _ _ _ _) hny (c_otherXW (n + 19)) (c_otherW (n + 19))
    · exact c_mf2 (n + 17) W.G W.hk' W.lx W.ly W.l1 W.l2 W.l3 W.l4 l5 W.l6 (W.hkx _) (W.hky _) (c_checkY (n + 20) _ _ _ _) hny (c_otherXY (n + 19)) (c_otherY (n + 19))
  obtain ⟨ps, rw, hp, hm⟩ := key
  exact ⟨ps, rw, hp, c_bm n hA W.frX (W.frY l5 p q) hC hm⟩
theorem Dat.told1 (W : Dat k its more rx k' its' ry kx ky) (n : Nat) :
    ∃ ps rw, cl (n + 64) 945 [argsD (frD [vecD k its, vecD kInt more] [nA, nV] rx) (frD [vecD k' its'] [nA] ry) []] = .ok (frD [vecD k (pickD its ps), vecD kInt (pickD more ps)] [nA, nV] rw) := by
  obtain ⟨ps, rw, -, hm⟩ := c_mf1 (n + 17) W.G W.hk' W.lx W.ly W.l1 W.l2 W.l3 W.l4 W.l6 (W.hkx _) (W.hky _) (c_check1 (n + 20) _ _ _) (c_names (n + 20) [vecD k' its'] nA [] ry (.inl rfl)) (c_otherX1 (n + 19)) (c_other1 (n + 19))
  exact ⟨_, rw, c_bm n (tk_n _ _) W.frX (W.frY1 nA) (fi_4 _ _ _ _ _ _ _ _) hm⟩
end
/-! ## _law_seedlings -/
section
variable {n : Nat} {ρ : Ev} {μ : Mu}
theorem op_take {l : List D} (hl : l.length ≤ 1000000) : slop μ (.c (.arr l)) none (some (.c (.int 16))) = .ok (.r μ.length, μ ++ [.lst true (l.take 16)]) := by
  show (if (decide ((0 : Int) ≤ 16) && fits l) = true then newL μ (l.take (16 : Int).toNat) else .no) = _
  rw [if_pos (by rw [fits_of hl]; rfl)]
  unfold newL
  rw [if_pos (fits_of (Nat.le_trans (List.length_take_le _ _) (by decide)))]
  rfl
theorem op_modN {a b : Nat} (hb : 0 < b) (h : b ≤ 1000000) : binop μ .mod (.c (.int (a : Nat))) (.c (.int (b : Nat))) = .ok (.c (.int ((a % b : Nat) : Int)), μ) := by
  show (if (decide ((0 : Int) < (b : Nat)) && small (b : Nat)) = true then Res.ok (V.c (.int (((a : Nat) : Int).fmod (b : Nat))), μ) else .no) = _
  rw [if_pos, Int.fmod_eq_emod_of_nonneg _ (Int.natCast_nonneg _)]
  · rfl
  · unfold small
    simp only [Bool.and_eq_true, decide_eq_true_eq]
    lia
theorem op_mulN {a b : Nat} (ha : a ≤ 1000000) (h : b ≤ 1000000) : binop μ .mul (.c (.int (a : Nat))) (.c (.int (b : Nat))) = .ok (.c (.int ((a * b : Nat) : Int)), μ) := by
  show (if (small (a : Nat) && small (b : Nat)) = true then Res.ok (V.c (.int (((a : Nat) : Int) * (b : Nat))), μ) else .no) = _
  rw [if_pos]
  · rw [Int.natCast_mul]
  · unfold small
    simp only [Bool.and_eq_true, decide_eq_true_eq]
    lia
theorem op_abs (i : Int) : biop μ .abs [.c (.int i)] = .ok (.c (.int (i.natAbs : Nat)), μ) := by
  show Res.ok (V.c (.int (if i < 0 then -i else i)), μ) = _
  have : (if i < 0 then -i else i) = (i.natAbs : Int) := by split <;> lia
  rw [this]
end
noncomputable def sdB : List S := [.ex (.mt .append (.v 1) [(.bin .mod (.bi .abs [(.bi .int [(.v 2)])]) (.k (.int 2310)))])]
noncomputable def sdW : List S := [.asg 3 (.bin .mod (.bin .add (.bin .mul (.v 3) (.k (.int 59))) (.k (.int 503))) (.k (.int 2309))), .ex (.mt .append (.v 1) [(.v 3)])]
noncomputable def sdE (x : D) (a b c : Option V) : Ev := [some (.c x), a, b, c] ++ List.replicate 20 none
theorem c_seed (n : Nat) {ns : List Int} (h : ns.length ≤ 63) : ∃ sd : List Nat, sd.length = 16 ∧ cl (n + 20) 933 [.arr (ns.map .int)] = .ok (.list (intsD sd)) := by
  have tl : ((ns.map D.int).take 16).length ≤ 16 := List.length_take_le _ _
  obtain ⟨ρ1, μ1, f1, a1, sd1, rfl, rfl, l1⟩ := for_inv (n := n + 18) (ts := [2]) (tp := false) (b := sdB) (fun j ρ μ => ∃ a sd, ρ = sdE (.arr (ns.map .int)) (some (.r 0)) a none ∧ μ = [.lst true (intsD sd), .frz (.list ((ns.map .int).take 16))] ∧ sd.length = j)
    ((ns.map D.int).take 16) 0 _ _ ⟨none, [], rfl, rfl, rfl⟩ (fun j d hj ρ μ hI => by
      obtain ⟨a, sd, rfl, rfl, hs⟩ := hI
      have hd := List.mem_of_mem_take (List.mem_of_getElem? hj)
      obtain ⟨i, -, rfl⟩ := List.mem_map.mp hd
      have hjl := (List.getElem?_eq_some_iff.mp hj).1
      refine ⟨_, _, _, rfl, ss_cons (s_ex (x_mt (x_v rfl) (ok_lst rfl) (l_cons (x_bin (x_bi (l_cons (x_bi (l_cons (x_v rfl) l_nil) rfl) l_nil) (op_abs i)) x_k (op_modN (b := 2310) (by decide) (by decide))) l_nil) (op_append rfl rfl (fits_of (by rw [ints_len]; lia))))) (next_n ss_nil), some (.c (.int i)), sd ++ [i.natAbs % 2310], rfl, ?_, by rw [List.length_append, List.length_singleton, hs]⟩
      rw [← ints_app]; rfl)
  rw [Nat.zero_add] at l1
  have hl : ∀ sd : List Nat, sd.length ≤ 16 → ∀ μ, μ[0]? = some (.lst true (intsD sd)) → biop μ .len [.r 0] = .ok (.c (.int (sd.length : Nat)), μ) := fun sd hs μ hm => by
    have := op_len (μ := μ) (v := .r 0) (l := intsD sd) (seeB hm) (fits_of (by rw [ints_len]; lia))
    rwa [ints_len] at this
  obtain ⟨ρ2, μ2, w1, a2, sun, sd2, rfl, rfl, l2⟩ := whl_inv (n := n + 18) (t := .cmp .lt (.bi .len [(.v 1)]) (.k (.int 16))) (b := sdW) (fun m ρ μ => ∃ a sun sd, ρ = sdE (.arr (ns.map .int)) (some (.r 0)) a (some (.c (.int (sun : Nat)))) ∧ μ = [.lst true (intsD sd), .frz (.list ((ns.map .int).take 16))] ∧ sd.length + m = 16 ∧ sun ≤ 3000) (fun ρ μ => ∃ a sun sd, ρ = sdE (.arr (ns.map .int)) (some (.r 0)) a (some (.c (.int (sun : Nat)))) ∧ μ = [.lst true (intsD sd), .frz (.list ((ns.map .int).take 16))] ∧ sd.length = 16)
    (fun m ρ μ hI => by
      obtain ⟨a, sun, sd, rfl, rfl, hs, hu⟩ := hI
      by_cases q : m = 0
      · exact .inl ⟨_, evB_of (x_cmp (x_bi (l_cons (x_v rfl) l_nil) (hl sd (by lia) _ rfl)) x_k (by show some (decide _) = some false; rw [decide_eq_false (by lia)])), a, sun, sd, rfl, rfl, by lia⟩
      · refine .inr ⟨_, _, _, m - 1, evB_of (x_cmp (x_bi (l_cons (x_v rfl) l_nil) (hl sd (by lia) _ rfl)) x_k (by show some (decide _) = some true; rw [decide_eq_true (by lia)])), ss_cons (s_asg (x_bin (x_bin (x_bin (x_v rfl) x_k (op_mulN (b := 59) (by lia) (by decide))) x_k rfl) x_k (by exact op_modN (a := sun * 59 + 503) (b := 2309) (by decide) (by decide)))) (next_n (ss_cons (s_ex (x_mt (x_v rfl) (ok_lst rfl) (l_cons (x_v rfl) l_nil) (op_append rfl rfl (fits_of (by rw [ints_len]; lia))))) (next_n ss_nil))), by lia, a, (sun * 59 + 503) % 2309, sd ++ [(sun * 59 + 503) % 2309], rfl, ?_, by rw [List.length_append, List.length_singleton]; lia, by lia⟩
        rw [← ints_app]; rfl)
    64 (16 - sd1.length) (sdE (.arr (ns.map .int)) (some (.r 0)) a1 (some (.c (.int ((12 + sd1.length : Nat) : Int))))) _ (by lia) ⟨a1, 12 + sd1.length, sd1, rfl, rfl, by lia, by lia⟩
  refine ⟨sd2, l2, cl_ret (ρ := sdE (.arr (ns.map .int)) none none none) tab933 rfl (v := .r 0) (ss_cons (s_asg (x_list l_nil rfl rfl)) (next_n (ss_cons (s_for (μ₁ := [.lst true [], .lst true ((ns.map .int).take 16)]) (x_sl (x_v rfl) o_none (o_some x_k) (by exact op_take (by rw [List.length_map]; lia))) rfl rfl (by exact f1)) (next_n (ss_cons (s_asg (x_bin x_k (x_bi (l_cons (x_v rfl) l_nil) (hl sd1 (by lia) _ rfl)) rfl)) (next_n (ss_cons (s_whl (by exact w1)) (next_n (ss_cons (s_ret (x_v rfl)) next_r))))))))) rfl⟩
/-! ## _law_frame, _law_lines -/
section
variable {n : Nat} {ρ ρ₁ : Ev} {μ μ₁ μ₂ : Mu}
theorem x_vec2 {l : List X} {vs : List V} {k i : D} (h1 : evL (E (n + 3)) ρ μ l = .ok (vs, μ₁)) (h2 : frzs μ₁ vs = .ok ([k, i], μ₂)) : (E (n + 4)).x ρ μ (.cl 318 l) = .ok (.r μ₂.length, μ₂ ++ [.ins 318 [(.kind, .c k), (.items, .c i), (.attrs, .c .none), (.shared, .c (.bool false)), (.loose, .c (.bool false))]]) := by
  have at_ : ∀ p : P, (μ₂ ++ [p])[μ₂.length]? = some p := fun p => List.getElem?_concat_length ..
  have st : ∀ p q : P, (μ₂ ++ [p]).set μ₂.length q = μ₂ ++ [q] := fun p q => by rw [List.set_append_right _ _ (Nat.le_refl _), Nat.sub_self]; rfl
  refine bindOk h1 (bindOk h2 (orE (a := 308) rfl (bindOk (a := (.c .none, _)) ?_ rfl)))
  show (match tabK 308 with | some fd => callF (E (n + 2)) fd (V.r (List.length μ₂) :: List.map V.c [k, i]) (μ₂ ++ [P.ins 318 []]) | none => Res.no) = _
  rw [tab308]
  show callF (E (n + 2)) fd308 _ _ = _
  refine bindOk (a := (.nxt, [some (.r μ₂.length), some (.c k), some (.c i), some (.c .none)] ++ List.replicate 20 none, _)) ?_ rfl
  refine ss_cons (s_sat (x_v rfl) (x_v rfl) (at_ _) rfl) ?_
  rw [st]
  refine ss_cons (s_sat (x_v rfl) (x_v rfl) (at_ _) rfl) ?_
  rw [st]
  refine ss_cons (s_sat (x_v rfl) (x_v rfl) (at_ _) rfl) ?_
  rw [st]
  refine ss_cons (s_sat x_k (x_v rfl) (at_ _) rfl) ?_
  rw [st]
  refine ss_cons (s_sat x_k (x_v rfl) (at_ _) rfl) ?_
  rw [st]
  rfl
theorem op_tlist {v : V} {l : List D} (h1 : asSeq μ v = some l) (h2 : l.length ≤ 1000000) : biop μ .tlist [v] = .ok (.r μ.length, μ ++ [.lst true l]) := by
  show biList μ v = _
  unfold biList
  rw [h1]
  dsimp only
  unfold newL
  rw [if_pos (fits_of h2)]
theorem op_tlistR {m : Nat} (h : m ≤ 4) : biop μ .tlist [.c (.rng 1 ((m : Int) + 1) 1)] = .ok (.r μ.length, μ ++ [.lst true (rngL 1 ((m : Int) + 1) 1)]) :=
  match m, h with | 0, _ | 1, _ | 2, _ | 3, _ | 4, _ => rfl
theorem rng1_len {m : Nat} (h : m ≤ 4) : (rngL 1 ((m : Int) + 1) 1).length = m := List.map_inj_left.mp (show (List.range 5).map (fun m : Nat => (rngL 1 ((m : Int) + 1) 1).length) = (List.range 5).map (fun m : Nat => m) by kernel_rfl) m (List.mem_range.mpr (Nat.lt_succ_of_le h))
theorem op_addS {x y : T} (h : (x ++ y).length ≤ 1000) : binop μ .add (.c (.str x)) (.c (.str y)) = .ok (.c (.str (x ++ y)), μ) := if_pos (decide_eq_true h)
theorem intT_nat {d : Nat} (h : d < 100) : intT (d : Nat) = some (numT d) := if_pos h
theorem op_strN {d : Nat} (h : d < 10) : biop μ .str [.c (.int (d : Nat))] = .ok (.c (.str [48 + d]), μ) := by
  refine orE (intT_nat (Nat.lt_trans h (by decide))) ?_
  show Res.ok (V.c (.str (numT d)), μ) = _
  unfold numT
  rw [if_pos h]
end
noncomputable def gS : D → D | .int i => .str [107, 48 + i.toNat] | _ => .none
noncomputable def gT : D → D | .int i => .str [48 + i.toNat] | _ => .none
theorem gS_map (kl : List Nat) : (intsD kl).map gS = itsS kl := by
  unfold intsD itsS
  rw [List.map_map]; rfl
theorem gT_map (kl : List Nat) : (intsD kl).map gT = itsT kl := by
  unfold intsD itsT
  rw [List.map_map]; rfl
noncomputable def itsK (sp : Bool) (kl : List Nat) : List D := if sp then itsS kl else intsD kl
noncomputable def kndK (sp : Bool) : T := if sp then kChr else kInt
noncomputable def lfE (kl : List Nat) (more : List D) (a b : T) (sp : Bool) (x : Option V) : Ev := [some (.c (.list (intsD kl))), some (.c (.list more)), some (.c (.list (strsD [a, b]))), some (.c (.bool sp)), x] ++ List.replicate 19 none
theorem c_frame (n : Nat) {kl : List Nat} {more : List D} (a b : T) (sp : Bool) (h : kl.length ≤ 4) (hk : ∀ d ∈ kl, d < 3) (hm : more.length ≤ 1000) : cl (n + 42) 938 [.list (intsD kl), .list more, .list (strsD [a, b]), .bool sp] = .ok (frD [vecD (kndK sp) (itsK sp kl), vecD kInt more] [a, b] (rngL 1 ((kl.length : Int) + 1) 1)) := by
  have s1 : (E (n + 41)).s (lfE kl more a b sp none) [] (.asg 4 (.ite (.v 3) (.cl 318 [(.k (.str [99,104,97,114,97,99,116,101,114])), (.comp 5 [5] false (.v 0) [] (.bin .add (.k (.str [107])) (.bi .str [(.v 5)])))]) (.cl 318 [(.k (.str [105,110,116,101,103,101,114])), (.bi .tlist [(.v 0)])]))) =
      .ok (.nxt, lfE kl more a b sp (some (.r 1)), [.frz (.list (itsK sp kl)), .ins 318 [(.kind, .c (.str (kndK sp))), (.items, .c (.list (itsK sp kl))), (.attrs, .c .none), (.shared, .c (.bool false)), (.loose, .c (.bool false))]]) := by
    rcases sp with _ | _
    · exact s_asg (x_ite (evB_of (x_v rfl)) (itx_f rfl (x_vec2 (μ₂ := [.frz (.list (intsD kl))]) (l_cons x_k (l_cons (x_bi (l_cons (x_v rfl) l_nil) (op_tlist (l := intsD kl) rfl (by rw [ints_len]; lia))) l_nil)) rfl)))
    ·
      show _ = Res.ok (_, _, [P.frz (.list (itsS kl)), .ins 318 [(.kind, .c (.str kChr)), (.items, .c (.list (itsS kl))), (.attrs, .c .none), (.shared, .c (.bool false)), (.loose, .c (.bool false))]])
      rw [← gS_map]
      exact s_asg (x_ite (evB_of (x_v rfl)) (itx_t rfl (x_vec2 (μ₂ := [.frz (.list ((intsD kl).map gS))]) (l_cons x_k (l_cons (x_map0 (μ₂ := []) (l := intsD kl) gS (x_v rfl) rfl rfl (by rw [ints_len]; lia) (fun d m => by
        obtain ⟨p, m', rfl⟩ := int_mem m
        exact ⟨_, rfl, fun μ _ => x_bin x_k (x_bi (l_cons (x_v rfl) l_nil) (op_strN (Nat.lt_trans (hk p m') (by decide)))) (op_addS (by show 2 ≤ 1000; decide))⟩)) l_nil)) rfl)))
  have hl : ∀ μ, biop μ .len [.c (.list (intsD kl))] = .ok (.c (.int (kl.length : Nat)), μ) := fun μ => by
    have := op_len (μ := μ) (v := .c (.list (intsD kl))) rfl (fits_of (by rw [ints_len]; lia))
    rwa [ints_len] at this
  have hn := c_newfr2 (n + 5) (kndK sp) (itsK sp kl) more (rngL 1 ((kl.length : Int) + 1) 1) a b
  refine cl_ret (ρ := lfE kl more a b sp none) tab938 rfl (v := .c (frD [vecD (kndK sp) (itsK sp kl), vecD kInt more] [a, b] (rngL 1 ((kl.length : Int) + 1) 1))) (ss_cons s1 (next_n (ss_cons (s_ret (x_fn
    (l_cons (x_list (l_cons (x_v rfl) (l_cons (x_vec2 (l_cons x_k (l_cons (x_bi (l_cons (x_v rfl) l_nil) (op_tlist (l := more) rfl (by lia))) l_nil)) rfl) l_nil)) rfl rfl)
    (l_cons (x_bi (l_cons (x_v rfl) l_nil) (op_tlist (l := strsD [a, b]) rfl (by show 2 ≤ 1000000; decide)))
    (l_cons (x_vec2 (l_cons x_k (l_cons (x_bi (l_cons (x_bi (l_cons x_k (l_cons (x_bin (x_bi (l_cons (x_v rfl) l_nil) (hl _)) x_k rfl) l_nil)) rfl) l_nil) (op_tlistR h)) l_nil)) rfl) l_nil))) rfl (by exact hn))) next_r))) rfl
/-! lines -/
theorem ins_perm (a : T) : ∀ l : List T, (insT a l).Perm (a :: l)
  | [] => .refl _
  | b :: l => by
    unfold insT
    split
    · exact ((ins_perm a l).cons b).trans (.swap ..)
    · exact .refl _
theorem sort_perm : ∀ l : List T, (sortT l).Perm l
  | [] => .nil
  | a :: l => (ins_perm a _).trans ((sort_perm l).cons a)
theorem sort_len (l : List T) : (sortT l).length = l.length := (sort_perm l).length_eq

theorem txts_strsD (l : List T) : txts (strsD l) = some l := by
  induction l with
  | nil => rfl
  | cons a l ih =>
    show (txts (strsD l)).map (a :: ·) = _
    rw [ih]; rfl
noncomputable def gCol (i : Nat) : D → D | .vec _ (.list l) _ => l.getD i default | _ => .none
noncomputable def gLn (t : Nat → T) : D → D | .int i => .str (t i.toNat) | _ => .none
theorem gLn_map (t : Nat → T) (N : Nat) : (intsD (List.range N)).map (gLn t) = strsD ((List.range N).map t) := by
  unfold intsD strsD
  rw [List.map_map, List.map_map]; rfl
theorem asList_last (μ : Mu) (l : List D) : asList (μ ++ [.lst true l]) (.r μ.length) = some l := by
  exact seeB (List.getElem?_concat_length ..)
theorem op_strL {μ : Mu} {i : Nat} {a : D} {l : List D} {t : T} (h : asList μ (.r i) = some (a :: l)) (h1 : reprL (a :: l) = some t) (h2 : t.length ≤ 1000) : biop μ .str [.r i] = .ok (.c (.str t), μ) := by
  exact orE h (orE h1 (if_pos (decide_eq_true h2)))
theorem c_lines (n : Nat) {k : T} {A B C : List D} (names : List T) (rw : List D) {N : Nat} (hN : N ≤ 16) (hA : A.length = N) (hB : B.length = N) (hC : C.length = N) (t : Nat → T) (ht : ∀ i, i < N → reprL [A.getD i default, B.getD i default, C.getD i default] = some (t i) ∧ (t i).length ≤ 1000) :
    cl (n + 22) 950 [frD [vecD k A, vecD kInt B, vecD kInt C] names rw] = .ok (.list (strsD (sortT ((List.range N).map t)))) := by
  have hl : ∀ μ, biop μ .len [.c (.list A)] = .ok (.c (.int (N : Nat)), μ) := fun μ => by
    have := op_len (μ := μ) (v := .c (.list A)) rfl (fits_of (by lia))
    rwa [hA] at this
  obtain ⟨μ', e1, e2, e3, e4⟩ := x_map (n := n + 18) (ρ := [some (V.c (frD [vecD k A, vecD kInt B, vecD kInt C] names rw)), none, none] ++ List.replicate 21 none) (μ := []) (b := 1) (ts := [1]) (tp := false) (it := .bi .range [(.bi .len [(.at (.ix (.at (.v 0) .items) (.k (.int 0))) .items)])]) (e := .bi .str [(.comp 2 [2] false (.at (.v 0) .items) [] (.ix (.at (.v 2) .items) (.v 1)))]) (l := intsD (List.range N)) (gLn t)
    (x_bi (l_cons (x_bi (l_cons (x_at (x_ix (x_at (x_v rfl) rfl) x_k rfl) rfl) l_nil) (hl _)) l_nil) rfl) rfl (items_rng (by lia)) (by rw [rng_len]; lia)
    (fun d hd => by
      obtain ⟨i, hi, rfl⟩ := int_mem hd
      have hi := List.mem_range.mp hi
      refine ⟨_, rfl, fun μ _ _ => ?_⟩
      have inner : (E (n + 17)).x ([some (V.c (frD [vecD k A, vecD kInt B, vecD kInt C] names rw)), some (.c (.int (i : Nat))), none] ++ List.replicate 21 none) μ (.comp 2 [2] false (.at (.v 0) .items) [] (.ix (.at (.v 2) .items) (.v 1))) = .ok (.r μ.length, μ ++ [.lst true ([vecD k A, vecD kInt B, vecD kInt C].map (gCol i))]) :=
        x_map0 (l := [vecD k A, vecD kInt B, vecD kInt C]) (gCol i) (x_at (x_v rfl) rfl) rfl rfl (by show 3 ≤ 1000; decide) (fun d m => by
          have : ∃ k' L, d = vecD k' L ∧ L.length = N := by
            rcases List.mem_cons.mp m with rfl | m
            · exact ⟨_, _, rfl, hA⟩
            rcases List.mem_cons.mp m with rfl | m
            · exact ⟨_, _, rfl, hB⟩
            rcases List.mem_cons.mp m with rfl | m
            · exact ⟨_, _, rfl, hC⟩
            exact nomatch m
          obtain ⟨k', L, rfl, hL⟩ := this
          exact ⟨_, rfl, fun μ _ => x_ix (x_at (x_v rfl) rfl) (x_v rfl) (op_ixN (l := L) rfl (getD_at (by lia)) (by lia))⟩)
      have al : asList (μ ++ [.lst true ([vecD k A, vecD kInt B, vecD kInt C].map (gCol i))]) (.r μ.length) = some [A.getD i default, B.getD i default, C.getD i default] := by
        rw [asList_last]; rfl
      refine ⟨.c (.str (t i)), _, _, x_bi (l_cons inner l_nil) (op_strL al (ht i hi).1 (ht i hi).2), rfl, by rw [List.length_append]; lia, fun j hj => List.getElem?_append_left hj⟩)
  have e2' : μ'[0]? = some (.lst true (strsD ((List.range N).map t))) := by rw [← gLn_map]; exact e2
  have srt : biop μ' .sorted [.r 0] = .ok (.r μ'.length, μ' ++ [.lst true (strsD (sortT ((List.range N).map t)))]) := by
    refine orE (a := (List.range N).map t) (by rw [show asList μ' (.r 0) = some (strsD ((List.range N).map t)) from seeB e2', Option.bind_some, txts_strsD]) ?_
    rw [if_pos (decide_eq_true (by rw [List.length_map, List.length_range]; lia))]
    unfold newL
    rw [if_pos (fits_of (by rw [List.length_map, sort_len, List.length_map, List.length_range]; lia))]; rfl
  refine cl_ret (ρ := [some (V.c (frD [vecD k A, vecD kInt B, vecD kInt C] names rw)), none, none] ++ List.replicate 21 none) tab950 rfl (v := .r μ'.length) (ss_cons (s_ret (x_bi (l_cons e1 l_nil) srt)) next_r) ?_
  unfold frzD fz
  rw [List.getElem?_concat_length]; rfl
/-! ## sorting knows no order of arrival -/
theorem tLt_ne {a b : Nat} {r q : T} : tLt (a :: r) (b :: q) = true ↔ a < b ∨ (a = b ∧ tLt r q = true) := by
  show (Nat.blt a b || (Nat.beq a b && tLt r q)) = true ↔ _
  rw [Bool.or_eq_true, Bool.and_eq_true, Nat.blt_eq, Nat.beq_eq]
theorem tLt_trans : ∀ {a b c : T}, tLt a b = true → tLt b c = true → tLt a c = true
  | [], [], _, h, _ => nomatch h
  | [], _ :: _, [], _, h => nomatch h
  | [], _ :: _, _ :: _, _, _ => rfl
  | _ :: _, [], _, h, _ => nomatch h
  | _ :: _, _ :: _, [], _, h => nomatch h
  | a :: r, b :: q, c :: s, h, h' => by
    rw [tLt_ne] at h h' ⊢
    rcases h with h | ⟨rfl, h⟩
    · rcases h' with h' | ⟨rfl, h'⟩
      · exact .inl (Nat.lt_trans h h')
      · exact .inl h
    · rcases h' with h' | ⟨rfl, h'⟩
      · exact .inl h'
      · exact .inr ⟨rfl, tLt_trans h h'⟩
theorem tLt_irr : ∀ a : T, ¬ tLt a a = true
  | [], h => nomatch h
  | a :: r, h => by
    rw [tLt_ne] at h
    rcases h with h | ⟨-, h⟩
    · exact Nat.lt_irrefl _ h
    · exact tLt_irr r h
theorem tLt_eq : ∀ {a b : T}, ¬ tLt a b = true → ¬ tLt b a = true → a = b
  | [], [], _, _ => rfl
  | [], _ :: _, h, _ => absurd rfl h
  | _ :: _, [], _, h => absurd rfl h
  | a :: r, b :: q, h, h' => by
    rw [tLt_ne] at h h'
    have : a = b := Nat.le_antisymm (Nat.le_of_not_lt fun x => h' (.inl x)) (Nat.le_of_not_lt fun x => h (.inl x))
    subst this
    rw [tLt_eq (fun x => h (.inr ⟨rfl, x⟩)) (fun x => h' (.inr ⟨rfl, x⟩))]
theorem tLt_le {a b c : T} (h : ¬ tLt c a = true) (h' : tLt c b = true) : tLt a b = true := by
  by_cases q : tLt a c = true
  · exact tLt_trans q h'
  · rw [tLt_eq q h]; exact h'
theorem ins_two (a b : T) (l : List T) : (if tLt b a = true then b :: a :: l else a :: b :: l) = if tLt a b = true then a :: b :: l else b :: a :: l := by
  by_cases p : tLt b a = true
  · rw [if_pos p, if_neg fun q => tLt_irr _ (tLt_trans p q)]
  · rw [if_neg p]
    by_cases q : tLt a b = true
    · rw [if_pos q]
    · rw [if_neg q, tLt_eq p q]
theorem ins_pos {a b : T} {l : List T} (h : tLt b a = true) : insT a (b :: l) = b :: insT a l := if_pos h
theorem ins_neg {a b : T} {l : List T} (h : ¬ tLt b a = true) : insT a (b :: l) = a :: b :: l := if_neg h
theorem ins_comm (a b : T) : ∀ l : List T, insT a (insT b l) = insT b (insT a l)
  | [] => ins_two a b []
  | c :: l => by
    by_cases p : tLt c b = true
    · by_cases q : tLt c a = true
      · rw [ins_pos p, ins_pos q, ins_pos q, ins_pos p, ins_comm a b l]
      · rw [ins_pos p, ins_neg q, ins_neg q, ins_pos (tLt_le q p), ins_pos p]
    · by_cases q : tLt c a = true
      · rw [ins_neg p, ins_pos q, ins_pos (tLt_le p q), ins_pos q, ins_neg p]
      · rw [ins_neg p, ins_neg q]
        by_cases x : tLt b a = true
        · rw [ins_pos x, ins_neg q, ins_neg fun y => tLt_irr _ (tLt_trans x y)]
        · rw [ins_neg x]
          by_cases y : tLt a b = true
          · rw [ins_pos y, ins_neg p]
          · rw [ins_neg y, tLt_eq x y]
theorem sort_perm_eq {l l' : List T} (h : l.Perm l') : sortT l = sortT l' := by
  induction h with
  | nil => rfl
  | cons a _ ih => show insT a _ = insT a _; rw [ih]
  | swap a b l => exact ins_comm b a (sortT l)
  | trans _ _ h1 h2 => exact h1.trans h2
/-! ## lines and keys -/
noncomputable def itm (sp : Bool) (d : Nat) : D := if sp then .str [107, 48 + d] else .int (d : Nat)
noncomputable def keyK (sp : Bool) (d : Nat) : T := if sp then keyS d else keyI d
noncomputable def itT (sp : Bool) (d : Nat) : T := if sp then [39, 107, 48 + d, 39] else [48 + d]
noncomputable def lnT (sp : Bool) (d i j : Nat) : T := [91] ++ (itT sp d ++ [44,32] ++ (numT (10 + i) ++ [44,32] ++ numT (20 + j))) ++ [93]
theorem itsK_map (sp : Bool) (kl : List Nat) : itsK sp kl = kl.map (itm sp) := by cases sp <;> rfl
theorem numT_len (n : Nat) : (numT n).length ≤ 2 := by unfold numT; split; (show 1 ≤ 2; decide); (show 2 ≤ 2; decide)
theorem itT_len (sp : Bool) (d : Nat) : (itT sp d).length ≤ 4 := by cases sp; (show 1 ≤ 4; decide); (show 4 ≤ 4; decide)
theorem lnT_len (sp : Bool) (d i j : Nat) : (lnT sp d i j).length ≤ 1000 := by
  have := numT_len (10 + i); have := numT_len (20 + j); have := itT_len sp d
  unfold lnT
  simp only [List.length_append, List.length_cons, List.length_nil]; lia
theorem reprS_itm (sp : Bool) {d : Nat} (h : d < 3) : reprS (itm sp d) = some (itT sp d) := by
  rcases sp with _ | _
  ·
    show intT (d : Nat) = _
    rw [intT_nat (by lia)]
    show some (numT d) = _
    unfold numT
    rw [if_pos (by lia)]; rfl
  ·
    show (if digit (48 + d) then some [39, 107, 48 + d, 39] else none) = _
    rw [if_pos (by unfold digit; rw [decide_eq_true (by lia), decide_eq_true (by lia)]; rfl)]; rfl
theorem repr_line (sp : Bool) {d i j : Nat} (hd : d < 3) (hi : i < 50) (hj : j < 50) : reprL [itm sp d, .int ((10 + i : Nat) : Int), .int ((20 + j : Nat) : Int)] = some (lnT sp d i j) := by
  have e2 : reprS (.int ((10 + i : Nat) : Int)) = some (numT (10 + i)) := intT_nat (by lia)
  have e3 : reprS (.int ((20 + j : Nat) : Int)) = some (numT (20 + j)) := intT_nat (by lia)
  unfold reprL
  rw [show [itm sp d, D.int ((10 + i : Nat) : Int), D.int ((20 + j : Nat) : Int)].mapM reprS = some [itT sp d, numT (10 + i), numT (20 + j)] by
    rw [List.mapM_cons, reprS_itm sp hd, List.mapM_cons, e2, List.mapM_cons, e3]; rfl]
  rfl
theorem tEq_keyK (sp : Bool) (a b : Nat) : tEq (keyK sp a) (keyK sp b) = decide (b = a) := by
  by_cases h : b = a
  · subst h; rw [decide_eq_true rfl, tEq_self]
  · rw [decide_eq_false h]
    cases e : tEq (keyK sp a) (keyK sp b) with
    | false => rfl
    | true =>
      exfalso
      have := tEq_eq e
      cases sp
      · have := congrArg (fun l : T => l.getD 3 0) this
        simp only [keyK, keyI] at this
        have : 48 + a = 48 + b := this
        lia
      · have := congrArg (fun l : T => l.getD 4 0) this
        have : 48 + a = 48 + b := this
        lia
/-! ## the lines that are due -/
noncomputable def more (b L : Nat) : List Nat := (List.range L).map (b + ·)
theorem more_len (b L : Nat) : (more b L).length = L := by unfold more; rw [List.length_map, List.length_range]
theorem more_at {b L i : Nat} (h : i < L) : (more b L).getD i 0 = b + i := by
  unfold more
  rw [List.getD_eq_getElem?_getD, List.getElem?_map, List.getElem?_range h]; rfl
theorem moreI_at {b L i : Nat} (h : i < L) : (intsD (more b L))[i]? = some (.int ((b + i : Nat) : Int)) := by
  rw [ints_at (by rw [more_len]; exact h), more_at h]
noncomputable def lwD (s sd x y : D) (sp one : Bool) (a b c : Option V) : Ev := [some (.c s), some (.c sd), a, some (.r 0), some (.r 1), some (.c (.bool sp)), some (.c (.bool one)), some (.r 2), some (.r 3), some (.c x), some (.c y), some (.r 6), b, c] ++ List.replicate 10 none
structure Hs (lk rk : List Nat) (μ : Mu) : Prop where
  h0 : Is μ 0 (intsD lk)
  h1 : Is μ 1 (intsD rk)
  h2 : Is μ 2 (intsD (more 10 lk.length))
  h3 : Is μ 3 (intsD (more 20 rk.length))
theorem Hs.keep {lk rk : List Nat} {μ μ' : Mu} (h : Hs lk rk μ) (e : ∀ i, i < 4 → μ'[i]? = μ[i]?) : Hs lk rk μ' := ⟨h.h0.keep (e 0 (by decide)), h.h1.keep (e 1 (by decide)), h.h2.keep (e 2 (by decide)), h.h3.keep (e 3 (by decide))⟩
noncomputable def dueS : S := .ife (.cmp .eq (.ix (.v 3) (.v 2)) (.ix (.v 4) (.v 12))) [.asg 13 (.ite (.v 5) (.bin .add (.k (.str [107])) (.bi .str [(.ix (.v 3) (.v 2))])) (.ix (.v 3) (.v 2))), .ex (.mt .append (.v 11) [(.bi .str [(.list [(.v 13), (.ix (.v 7) (.v 2)), (.ix (.v 8) (.v 12))])])])] []
noncomputable def lineP (sp : Bool) (lk : List Nat) (p : Nat × Nat) : T := lnT sp (lk.getD p.1 0) p.1 p.2
section
variable (n : Nat) (s sd x y : D) (sp one : Bool) {lk rk : List Nat}
theorem due_step (hl : lk.length ≤ 4) (hr : rk.length ≤ 4) (hk : ∀ d ∈ lk, d < 3) {i j : Nat} (hi : i < lk.length) (hj : j < rk.length) {μ : Mu} (H : Hs lk rk μ) {acc : List T} (h6 : μ[6]? = some (.lst true (strsD acc))) (ha : acc.length ≤ 100) (c : Option V) :
    ∃ c' μ', evSs (E (n + 12)) (lwD s sd x y sp one (some (.c (.int (i : Nat)))) (some (.c (.int (j : Nat)))) c) μ [dueS] = .ok (.nxt, lwD s sd x y sp one (some (.c (.int (i : Nat)))) (some (.c (.int (j : Nat)))) c', μ') ∧ Hs lk rk μ' ∧ μ'[6]? = some (.lst true (strsD (acc ++ if lk.getD i 0 = rk.getD j 0 then [lnT sp (lk.getD i 0) i j] else []))) := by
  have ixl : ∀ μ, Hs lk rk μ → ixop μ (.r 0) (.c (.int (i : Nat))) = some (.c (.int (lk.getD i 0 : Nat))) := fun μ H => op_ixN H.h0.seq (ints_at hi) (by rw [ints_len]; lia)
  have ixr : ixop μ (.r 1) (.c (.int (j : Nat))) = some (.c (.int (rk.getD j 0 : Nat))) := op_ixN H.h1.seq (ints_at hj) (by rw [ints_len]; lia)
  have ixm : ixop μ (.r 2) (.c (.int (i : Nat))) = some (.c (.int ((10 + i : Nat) : Int))) := op_ixN H.h2.seq (moreI_at hi) (by rw [ints_len, more_len]; lia)
  have ixn : ixop μ (.r 3) (.c (.int (j : Nat))) = some (.c (.int ((20 + j : Nat) : Int))) := op_ixN H.h3.seq (moreI_at hj) (by rw [ints_len, more_len]; lia)
  have hd : lk.getD i 0 < 3 := hk _ (nat_mem hi)
  have cond : ∀ b : Bool, decide (((lk.getD i 0 : Nat) : Int) = (rk.getD j 0 : Nat)) = b → evB (E (n + 11)) (lwD s sd x y sp one (some (.c (.int (i : Nat)))) (some (.c (.int (j : Nat)))) c) μ (.cmp .eq (.ix (.v 3) (.v 2)) (.ix (.v 4) (.v 12))) = .ok (b, μ) := fun b hb => evB_of (x_cmp (x_ix (x_v rfl) (x_v rfl) (ixl μ H)) (x_ix (x_v rfl) (x_v rfl) ixr) (congrArg some hb))
  generalize lk.getD i 0 = d at *
  generalize rk.getD j 0 = e at *
  by_cases q : d = e
  · subst q
    rw [if_pos rfl]
    have s1 : (E (n + 11)).s (lwD s sd x y sp one (some (.c (.int (i : Nat)))) (some (.c (.int (j : Nat)))) c) μ (.asg 13 (.ite (.v 5) (.bin .add (.k (.str [107])) (.bi .str [(.ix (.v 3) (.v 2))])) (.ix (.v 3) (.v 2)))) = .ok (.nxt, lwD s sd x y sp one (some (.c (.int (i : Nat)))) (some (.c (.int (j : Nat)))) (some (.c (itm sp d))), μ) := by
      rcases sp with _ | _
      · exact s_asg (x_ite (evB_of (x_v rfl)) (itx_f rfl (x_ix (x_v rfl) (x_v rfl) (ixl μ H))))
      · exact s_asg (x_ite (evB_of (x_v rfl)) (itx_t rfl (x_bin x_k (x_bi (l_cons (x_ix (x_v rfl) (x_v rfl) (ixl μ H)) l_nil) (op_strN (Nat.lt_trans hd (by decide)))) (op_addS (by show 2 ≤ 1000; decide)))))
    have h6l : 6 < μ.length := (List.getElem?_eq_some_iff.mp h6).1
    have h6' : (μ ++ [P.lst true [itm sp d, .int ((10 + i : Nat) : Int), .int ((20 + j : Nat) : Int)]])[6]? = some (.lst true (strsD acc)) := by rw [List.getElem?_append_left h6l]; exact h6
    have hf : fits (strsD acc) = true := fits_of (by unfold strsD; rw [List.length_map]; lia)
    refine ⟨some (.c (itm sp d)), _, ss_cons (s_ife (cond true (decide_eq_true rfl)) (ite_t rfl (ss_cons s1 (next_n (ss_cons (s_ex (x_mt (x_v rfl) (ok_lst h6) (l_cons (x_bi (l_cons (x_list (l_cons (x_v rfl) (l_cons (x_ix (x_v rfl) (x_v rfl) ixm) (l_cons (x_ix (x_v rfl) (x_v rfl) ixn) l_nil))) rfl rfl) l_nil) (op_strL (asList_last _ _) (repr_line sp hd (by lia) (by lia)) (lnT_len _ _ _ _))) l_nil) (op_append rfl h6' hf))) (next_n ss_nil)))))) (next_n ss_nil), H.keep fun t ht => ?_, ?_⟩
    · rw [List.getElem?_set_ne (by lia), List.getElem?_append_left (by lia)]
    · rw [List.getElem?_set_self (by rw [List.length_append]; lia)]
      unfold strsD
      rw [List.map_append]; rfl
  · rw [if_neg q, List.append_nil]
    exact ⟨c, μ, ss_cons (s_ife (cond false (decide_eq_false (by lia))) (ite_f rfl ss_nil)) (next_n ss_nil), H, h6⟩
theorem keyAt (kl : List Nat) {i : Nat} (h : i < kl.length) : (kl.map (keyK sp)).getD i [] = keyK sp (kl.getD i 0) := by
  rw [List.getD_eq_getElem?_getD, List.getD_eq_getElem?_getD, List.getElem?_map, List.getElem?_eq_getElem h]; rfl
noncomputable def dueI : S := .for_ [12] false (.bi .range [(.bi .len [(.v 4)])]) [dueS]
theorem lenR {μ : Mu} {i : Nat} {l : List Nat} (h : Is μ i (intsD l)) (hl : l.length ≤ 100) : biop μ .len [.r i] = .ok (.c (.int (l.length : Nat)), μ) := by
  have := op_len (μ := μ) (v := .r i) (l := intsD l) h.seq (fits_of (by rw [ints_len]; lia))
  rwa [ints_len] at this
theorem due_in (hl : lk.length ≤ 4) (hr : rk.length ≤ 4) (hk : ∀ d ∈ lk, d < 3) {i : Nat} (hi : i < lk.length) {μ : Mu} (H : Hs lk rk μ) {acc : List T} (h6 : μ[6]? = some (.lst true (strsD acc))) (ha : acc.length ≤ 4 * i) (b c : Option V) :
    ∃ b' c' μ', evSs (E (n + 14)) (lwD s sd x y sp one (some (.c (.int (i : Nat)))) b c) μ [dueI] = .ok (.nxt, lwD s sd x y sp one (some (.c (.int (i : Nat)))) b' c', μ') ∧ Hs lk rk μ' ∧ μ'[6]? = some (.lst true (strsD (acc ++ ((idx (rk.map (keyK sp)) ((lk.map (keyK sp)).getD i [])).map (i, ·)).map (lineP sp lk)))) := by
  have hK : (rk.map (keyK sp)).length = rk.length := List.length_map ..
  obtain ⟨ρ', μ', e1, b', c', rfl, H', h6'⟩ := for_inv (n := n + 13) (ts := [12]) (tp := false) (b := [dueS]) (fun j ρ μ => ∃ b c, ρ = lwD s sd x y sp one (some (.c (.int (i : Nat)))) b c ∧ Hs lk rk μ ∧ μ[6]? = some (.lst true (strsD (acc ++ ((idx ((rk.map (keyK sp)).take j) ((lk.map (keyK sp)).getD i [])).map (i, ·)).map (lineP sp lk)))))
    (intsD (List.range rk.length)) 0 _ _ ⟨b, c, rfl, H, by rw [h6]; congr 3; exact (List.append_nil _).symm⟩ (fun j d hj ρ μ hI => by
      obtain ⟨b, c, rfl, H, h6⟩ := hI
      obtain ⟨rfl, hjr⟩ := rng_at hj
      rw [Nat.zero_add] at h6 ⊢
      have hb := idx_le ((rk.map (keyK sp)).take j) ((lk.map (keyK sp)).getD i [])
      rw [List.length_take] at hb
      obtain ⟨c', μ', e1, e2, e3⟩ := due_step (n + 1) s sd x y sp one hl hr hk hi hjr H h6 (by
        rw [List.length_append, List.length_map, List.length_map]; lia) c
      refine ⟨_, _, _, rfl, e1, _, _, rfl, e2, ?_⟩
      rw [e3]
      have tk : (rk.map (keyK sp)).take (j + 1) = (rk.map (keyK sp)).take j ++ [(rk.map (keyK sp)).getD j []] := by
        rw [List.take_add_one, List.getD_eq_getElem?_getD, List.getElem?_eq_getElem (by lia)]; rfl
      rw [tk, idx_snoc, keyAt sp rk hjr, keyAt sp lk hi, tEq_keyK, List.length_take, Nat.min_eq_left (by lia), List.append_assoc]
      congr 4
      by_cases q : lk.getD i 0 = rk.getD j 0
      · rw [if_pos q, decide_eq_true q, if_pos rfl, List.map_append, List.map_append]; rfl
      · rw [if_neg q, decide_eq_false q, if_neg (by decide), List.append_nil, List.append_nil])
  rw [rng_len, Nat.zero_add, List.take_of_length_le (by lia)] at h6'
  exact ⟨b', c', μ', ss_cons (s_for (x_bi (l_cons (x_bi (l_cons (x_v rfl) l_nil) (lenR H.h1 (by lia))) l_nil) rfl) rfl (items_rng (by lia)) (by exact e1)) (next_n ss_nil), H', h6'⟩
noncomputable def pairsTo (xs ys : List T) (m : Nat) : List (Nat × Nat) := (List.range m).flatMap fun i => (idx ys (xs.getD i [])).map (i, ·)
theorem pairsTo_succ (xs ys : List T) (m : Nat) : pairsTo xs ys (m + 1) = pairsTo xs ys m ++ (idx ys (xs.getD m [])).map (m, ·) := by
  unfold pairsTo
  rw [List.range_succ, List.flatMap_append]
  congr 1
  exact List.append_nil _
theorem pairsTo_len {xs ys : List T} (hy : ys.length ≤ 4) (m : Nat) : (pairsTo xs ys m).length ≤ 4 * m := by
  have := flat_len (fun i => (idx ys (xs.getD i [])).map (i, ·)) 4 (List.range m) fun a _ => by rw [List.length_map]; exact Nat.le_trans (idx_le _ _) hy
  rwa [List.length_range] at this
theorem due_all (hl : lk.length ≤ 4) (hr : rk.length ≤ 4) (hk : ∀ d ∈ lk, d < 3) {μ : Mu} (H : Hs lk rk μ) (h6 : μ[6]? = some (.lst true [])) :
    ∃ a b c μ', (E (n + 17)).s (lwD s sd x y sp one none none none) μ (.for_ [2] false (.bi .range [(.bi .len [(.v 3)])]) [dueI]) = .ok (.nxt, lwD s sd x y sp one a b c, μ') ∧ Hs lk rk μ' ∧ μ'[6]? = some (.lst true (strsD ((pairs (lk.map (keyK sp)) (rk.map (keyK sp))).map (lineP sp lk)))) := by
  obtain ⟨ρ', μ', e1, a, b', c', rfl, H', h6'⟩ := for_inv (n := n + 16) (ts := [2]) (tp := false) (b := [dueI]) (fun j ρ μ => ∃ a b c, ρ = lwD s sd x y sp one a b c ∧ Hs lk rk μ ∧ μ[6]? = some (.lst true (strsD ((pairsTo (lk.map (keyK sp)) (rk.map (keyK sp)) j).map (lineP sp lk)))))
    (intsD (List.range lk.length)) 0 _ _ ⟨none, none, none, rfl, H, h6⟩ (fun j d hj ρ μ hI => by
      obtain ⟨a, b, c, rfl, H, h6⟩ := hI
      obtain ⟨rfl, hjr⟩ := rng_at hj
      rw [Nat.zero_add] at h6 ⊢
      obtain ⟨b', c', μ', e1, e2, e3⟩ := due_in (n + 2) s sd x y sp one hl hr hk hjr H h6 (by rw [List.length_map]; exact pairsTo_len (by rw [List.length_map]; exact hr) j) b c
      refine ⟨_, _, _, rfl, e1, _, _, _, rfl, e2, ?_⟩
      rw [e3, pairsTo_succ, List.map_append])
  rw [rng_len, Nat.zero_add] at h6'
  refine ⟨a, b', c', μ', s_for (x_bi (l_cons (x_bi (l_cons (x_v rfl) l_nil) (lenR H.h0 (by lia))) l_nil) rfl) rfl (items_rng (by lia)) (by exact e1), H', ?_⟩
  rw [h6']
  unfold pairs
  rw [List.length_map]; rfl
end
/-! ## the lines of the frame that is told -/
theorem itsK_len (sp : Bool) (kl : List Nat) : (itsK sp kl).length = kl.length := by rw [itsK_map, List.length_map]
theorem itsK_at (sp : Bool) (kl : List Nat) {i : Nat} (h : i < kl.length) : (itsK sp kl).getD i default = itm sp (kl.getD i 0) := by
  rw [itsK_map, List.getD_eq_getElem?_getD, List.getD_eq_getElem?_getD, List.getElem?_map, List.getElem?_eq_getElem h]; rfl
theorem pick_at (its : List D) (l : List Nat) {i : Nat} (h : i < l.length) : (pickD its l).getD i default = its.getD (l.getD i 0) default := by
  unfold pickD
  rw [List.getD_eq_getElem?_getD, List.getElem?_map, List.getElem?_eq_getElem h, List.getD_eq_getElem?_getD (l := l), List.getElem?_eq_getElem h]; rfl
theorem fst_at (ps : List (Nat × Nat)) {i : Nat} (h : i < ps.length) : (ps.map (·.1)).getD i 0 = (ps.getD i (0, 0)).1 := by
  rw [List.getD_eq_getElem?_getD, List.getD_eq_getElem?_getD, List.getElem?_map, List.getElem?_eq_getElem h]; rfl
theorem snd_at (ps : List (Nat × Nat)) {i : Nat} (h : i < ps.length) : (ps.map (·.2)).getD i 0 = (ps.getD i (0, 0)).2 := by
  rw [List.getD_eq_getElem?_getD, List.getD_eq_getElem?_getD, List.getElem?_map, List.getElem?_eq_getElem h]; rfl
theorem moreD_at {b L i : Nat} (h : i < L) : (intsD (more b L)).getD i default = .int ((b + i : Nat) : Int) := by
  rw [List.getD_eq_getElem?_getD, moreI_at h]; rfl
theorem made_lines (n : Nat) (sp : Bool) {lk rk : List Nat} (hl : lk.length ≤ 4) (hr : rk.length ≤ 4) (hk : ∀ d ∈ lk, d < 3) {ps : List (Nat × Nat)} (hp : ps.Perm (pairs (lk.map (keyK sp)) (rk.map (keyK sp)))) (h : T) (rw : List D) :
    cl (n + 22) 950 [madeD (kndK sp) (itsK sp lk) (intsD (more 10 lk.length)) (intsD (more 20 rk.length)) h ps rw] = .ok (.list (strsD (sortT ((pairs (lk.map (keyK sp)) (rk.map (keyK sp))).map (lineP sp lk))))) := by
  have hlt : ∀ i, i < ps.length → (ps.getD i (0, 0)).1 < lk.length ∧ (ps.getD i (0, 0)).2 < rk.length := fun i hi => by
    have := pairs_lt (hp.mem_iff.mp (show ps.getD i (0, 0) ∈ ps by rw [List.getD_eq_getElem?_getD, List.getElem?_eq_getElem hi]; exact List.getElem_mem hi))
    rwa [List.length_map, List.length_map] at this
  have key := c_lines n (k := kndK sp) (A := pickD (itsK sp lk) (ps.map (·.1))) (B := pickD (intsD (more 10 lk.length)) (ps.map (·.1))) (C := pickD (intsD (more 20 rk.length)) (ps.map (·.2))) [nA, nV, h] rw (N := ps.length)
    (by rw [hp.length_eq]; exact pairs_le (by rw [List.length_map]; exact hl) (by rw [List.length_map]; exact hr)) (by rw [pick_len, List.length_map]) (by rw [pick_len, List.length_map]) (by rw [pick_len, List.length_map])
    (fun i => lineP sp lk (ps.getD i (0, 0))) fun i hi => by
      obtain ⟨h1, h2⟩ := hlt i hi
      rw [pick_at _ _ (by rw [List.length_map]; exact hi), pick_at _ _ (by rw [List.length_map]; exact hi), pick_at _ _ (by rw [List.length_map]; exact hi), fst_at ps hi, snd_at ps hi, itsK_at sp lk h1, moreD_at h1, moreD_at h2]
      exact ⟨repr_line sp (hk _ (nat_mem h1)) (by lia) (by lia), lnT_len _ _ _ _⟩
  have e : (List.range ps.length).map (fun i => lineP sp lk (ps.getD i (0, 0))) = ps.map (lineP sp lk) := by
    apply List.ext_getElem
    · rw [List.length_map, List.length_range, List.length_map]
    · intro i h1 h2
      rw [List.length_map] at h2
      rw [List.getElem_map, List.getElem_range, List.getElem_map, List.getD_eq_getElem?_getD, List.getElem?_eq_getElem h2]; rfl
  rw [e, sort_perm_eq (hp.map _)] at key
  exact key
/-! ## evaluation, own objects told as data -/
noncomputable def Ow (μ : Mu) (i : Nat) (d : D) : Prop := (∃ ds, μ[i]? = some (.lst true ds) ∧ d = .list ds) ∨ μ[i]? = some (.frz d) ∨ ∃ k it, μ[i]? = some (.ins 318 [(.kind, .c k), (.items, .c it), (.attrs, .c .none), (.shared, .c (.bool false)), (.loose, .c (.bool false))]) ∧ d = .vec k it .none
noncomputable def Le (μ μ' : Mu) : Prop := ∀ i d, Ow μ i d → Ow μ' i d
theorem Le.rfl' {μ : Mu} : Le μ μ := fun _ _ h => h
theorem Le.trans {μ μ₁ μ₂ : Mu} (h : Le μ μ₁) (h' : Le μ₁ μ₂) : Le μ μ₂ := fun i d x => h' i d (h i d x)
theorem Ow.lt {μ : Mu} {i : Nat} {d : D} (h : Ow μ i d) : i < μ.length := by
  rcases h with ⟨ds, h, -⟩ | h | ⟨k, it, h, -⟩ <;> exact (List.getElem?_eq_some_iff.mp h).1
theorem Ow.keep {μ μ' : Mu} {i : Nat} {d : D} (h : Ow μ i d) (e : μ'[i]? = μ[i]?) : Ow μ' i d := by
  unfold Ow
  rw [e]; exact h
theorem Le.app (μ : Mu) (l : Mu) : Le μ (μ ++ l) := fun i d h => h.keep (List.getElem?_append_left h.lt)
theorem Ow.frz {μ : Mu} {i : Nat} {d : D} (h : Ow μ i d) : ∃ μ', fz 5 μ (.r i) = some (d, μ') ∧ Le μ μ' := by
  have hl := h.lt
  have set_ : ∀ d', Ow μ i d' → (∀ d'', Ow μ i d'' → d'' = d') → Le μ (μ.set i (.frz d')) := fun d' _ u j e he => by
    by_cases q : j = i
    · subst q
      rw [u e he]
      exact .inr (.inl (List.getElem?_set_self hl))
    · exact he.keep (List.getElem?_set_ne (Ne.symm q))
  rcases h with ⟨ds, h, rfl⟩ | h | ⟨k, it, h, rfl⟩
  · refine ⟨_, by show μ[i]?.bind _ = _; rw [h]; rfl, set_ _ (.inl ⟨ds, h, rfl⟩) fun d'' x => ?_⟩
    rcases x with ⟨ds', h', rfl⟩ | h' | ⟨_, _, h', -⟩
    · rw [h] at h'; cases h'; rfl
    · rw [h] at h'; exact nomatch h'
    · rw [h] at h'; exact nomatch h'
  · exact ⟨μ, by show μ[i]?.bind _ = _; rw [h]; rfl, Le.rfl'⟩
  · refine ⟨μ.set i (.frz (.vec k it .none)), ?_, set_ _ (.inr (.inr ⟨k, it, h, rfl⟩)) fun d'' x => ?_⟩
    · show μ[i]?.bind _ = _
      rw [h]
      show (μ[i]?.bind fun p => if isIns p then some (D.vec k it .none, μ.set i (.frz (.vec k it .none))) else none) = _
      rw [h]; rfl
    · rcases x with ⟨ds', h', rfl⟩ | h' | ⟨_, _, h', rfl⟩
      · rw [h] at h'; exact nomatch h'
      · rw [h] at h'; exact nomatch h'
      · rw [h] at h'; cases h'; rfl
noncomputable def VV (μ : Mu) (v : V) (d : D) : Prop := v = .c d ∨ ∃ i, v = .r i ∧ Ow μ i d
theorem VV.mono {μ μ' : Mu} {v : V} {d : D} (h : VV μ v d) (l : Le μ μ') : VV μ' v d := by
  rcases h with h | ⟨i, h, o⟩
  · exact .inl h
  · exact .inr ⟨i, h, l _ _ o⟩
theorem VV.frz {μ : Mu} {v : V} {d : D} (h : VV μ v d) : ∃ μ', fz 5 μ v = some (d, μ') ∧ Le μ μ' := by
  rcases h with rfl | ⟨i, rfl, o⟩
  · exact ⟨μ, by rfl, Le.rfl'⟩
  · exact o.frz
noncomputable def VVs (μ : Mu) : List V → List D → Prop
  | [], [] => True
  | v :: vs, d :: ds => VV μ v d ∧ VVs μ vs ds
  | _, _ => False
theorem VVs.mono {μ μ' : Mu} (l : Le μ μ') : ∀ {vs : List V} {ds : List D}, VVs μ vs ds → VVs μ' vs ds
  | [], [], _ => trivial
  | _ :: _, _ :: _, h => ⟨h.1.mono l, VVs.mono l h.2⟩
  | [], _ :: _, h => h.elim
  | _ :: _, [], h => h.elim
theorem VVs.frz : ∀ {vs : List V} {ds : List D} {μ : Mu}, VVs μ vs ds → ∃ μ', fzL (fz 5) μ vs = some (ds, μ') ∧ Le μ μ'
  | [], [], μ, _ => ⟨μ, rfl, Le.rfl'⟩
  | v :: vs, d :: ds, μ, h => by
    obtain ⟨μ1, e1, l1⟩ := h.1.frz
    obtain ⟨μ2, e2, l2⟩ := (h.2.mono l1).frz
    exact ⟨μ2, by unfold fzL; rw [e1]; show (do let (ds, μ) ← fzL (fz 5) μ1 vs; some (d :: ds, μ)) = _; rw [e2]; rfl, l1.trans l2⟩
  | [], _ :: _, _, h => h.elim
  | _ :: _, [], _, h => h.elim
theorem VVs.frzs {vs : List V} {ds : List D} {μ : Mu} (h : VVs μ vs ds) : ∃ μ', Mine.frzs μ vs = .ok (ds, μ') ∧ Le μ μ' := by
  obtain ⟨μ', e, l⟩ := h.frz
  exact ⟨μ', by unfold Mine.frzs; rw [e]; rfl, l⟩
theorem bindS {α β : Type} {o : Option α} {f : α → Option β} {a : α} {r : Option β} (h : o = some a) (k : f a = r) : o.bind f = r := by subst h; exact k
theorem VV.lst {μ : Mu} {v : V} {l : List D} (h : VV μ v (.list l)) : asList μ v = some l ∧ asSeq μ v = some l := by
  rcases h with rfl | ⟨i, rfl, o⟩
  · exact ⟨rfl, rfl⟩
  · rcases o with ⟨ds, h, e⟩ | h | ⟨_, _, _, e⟩
    · cases e
      exact ⟨seeB h, seeB h⟩
    · exact ⟨seeB h, seeB h⟩
    · exact nomatch e
section
variable {n : Nat} {ρ : Ev} {μ₀ : Mu}
noncomputable def XC (n : Nat) (ρ : Ev) (μ₀ : Mu) (e : X) (d : D) : Prop := ∀ μ, Le μ₀ μ → ∃ μ', (E n).x ρ μ e = .ok (.c d, μ') ∧ Le μ μ'
noncomputable def XL (n : Nat) (ρ : Ev) (μ₀ : Mu) (e : X) (d : D) : Prop := ∀ μ, Le μ₀ μ → ∃ v μ', (E n).x ρ μ e = .ok (v, μ') ∧ VV μ' v d ∧ Le μ μ'
noncomputable def LL (n : Nat) (ρ : Ev) (μ₀ : Mu) (l : List X) (ds : List D) : Prop := ∀ μ, Le μ₀ μ → ∃ vs μ', evL (E n) ρ μ l = .ok (vs, μ') ∧ VVs μ' vs ds ∧ Le μ μ'
noncomputable def EB (n : Nat) (ρ : Ev) (μ₀ : Mu) (e : X) (b : Bool) : Prop := ∀ μ, Le μ₀ μ → ∃ μ', evB (E n) ρ μ e = .ok (b, μ') ∧ Le μ μ'
theorem XC.xl {e : X} {d : D} (h : XC n ρ μ₀ e d) : XL n ρ μ₀ e d := fun μ l => by
  obtain ⟨μ', e, l'⟩ := h μ l
  exact ⟨_, μ', e, .inl rfl, l'⟩
theorem xc_k {d : D} : XC (n + 1) ρ μ₀ (.k d) d := fun μ _ => ⟨μ, x_k, Le.rfl'⟩
theorem xc_v {i : Nat} {d : D} (h : ρ[i]? = some (some (.c d))) : XC (n + 1) ρ μ₀ (.v i) d := fun μ _ => ⟨μ, x_v h, Le.rfl'⟩
theorem xl_r {i j : Nat} {d : D} (h : ρ[i]? = some (some (.r j))) (o : Ow μ₀ j d) : XL (n + 1) ρ μ₀ (.v i) d := fun μ l => ⟨_, μ, x_v h, .inr ⟨j, rfl, l _ _ o⟩, Le.rfl'⟩
theorem ll_nil : LL n ρ μ₀ [] [] := fun μ _ => ⟨[], μ, rfl, trivial, Le.rfl'⟩
theorem ll_cons {e : X} {r : List X} {d : D} {ds : List D} (h1 : XL n ρ μ₀ e d) (h2 : LL n ρ μ₀ r ds) : LL n ρ μ₀ (e :: r) (d :: ds) := fun μ l => by
  obtain ⟨v, μ1, e1, v1, l1⟩ := h1 μ l
  obtain ⟨vs, μ2, e2, v2, l2⟩ := h2 μ1 (l.trans l1)
  exact ⟨v :: vs, μ2, l_cons e1 e2, ⟨v1.mono l2, v2⟩, l1.trans l2⟩
theorem xc_fn {f : Addr} {l : List X} {ds : List D} {d : D} (h1 : LL n ρ μ₀ l ds) (h3 : cl n f ds = .ok d) : XC (n + 1) ρ μ₀ (.fn f l) d := fun μ l => by
  obtain ⟨vs, μ1, e1, v1, l1⟩ := h1 μ l
  obtain ⟨μ2, e2, l2⟩ := v1.frzs
  exact ⟨μ2, x_fn e1 e2 h3, l1.trans l2⟩
theorem xc_tup {l : List X} {ds : List D} (h1 : LL n ρ μ₀ l ds) (h3 : fits ds = true) : XC (n + 1) ρ μ₀ (.tup l) (.tup ds) := fun μ l => by
  obtain ⟨vs, μ1, e1, v1, l1⟩ := h1 μ l
  obtain ⟨μ2, e2, l2⟩ := v1.frzs
  exact ⟨μ2, x_tup e1 e2 h3, l1.trans l2⟩
theorem newL_is {μ : Mu} {ds : List D} (h : fits ds = true) : newL μ ds = .ok (.r μ.length, μ ++ [.lst true ds]) := if_pos h
theorem vv_new (μ : Mu) (ds : List D) : VV (μ ++ [.lst true ds]) (.r μ.length) (.list ds) := .inr ⟨_, rfl, .inl ⟨ds, List.getElem?_concat_length .., rfl⟩⟩
theorem xl_list {l : List X} {ds : List D} (h1 : LL n ρ μ₀ l ds) (h3 : fits ds = true) : XL (n + 1) ρ μ₀ (.list l) (.list ds) := fun μ l => by
  obtain ⟨vs, μ1, e1, v1, l1⟩ := h1 μ l
  obtain ⟨μ2, e2, l2⟩ := v1.frzs
  exact ⟨_, _, x_list e1 e2 (newL_is h3), vv_new _ _, (l1.trans l2).trans (Le.app _ _)⟩
theorem xl_vec {l : List X} {k it : D} (h1 : LL (n + 3) ρ μ₀ l [k, it]) : XL (n + 4) ρ μ₀ (.cl 318 l) (.vec k it .none) := fun μ l => by
  obtain ⟨vs, μ1, e1, v1, l1⟩ := h1 μ l
  obtain ⟨μ2, e2, l2⟩ := v1.frzs
  exact ⟨_, _, x_vec2 e1 e2, .inr ⟨_, rfl, .inr (.inr ⟨k, it, List.getElem?_concat_length .., rfl⟩)⟩, (l1.trans l2).trans (Le.app _ _)⟩
theorem xl_tlist {e : X} {l : List D} (h : XL n ρ μ₀ e (.list l)) (hl : l.length ≤ 1000000) : XL (n + 1) ρ μ₀ (.bi .tlist [e]) (.list l) := fun μ q => by
  obtain ⟨v, μ1, e1, v1, l1⟩ := h μ q
  exact ⟨_, _, x_bi (l_cons e1 l_nil) (op_tlist v1.lst.2 hl), vv_new _ _, l1.trans (Le.app _ _)⟩
theorem xl_rows {e : X} {m : Nat} (h : XC n ρ μ₀ e (.rng 1 ((m : Int) + 1) 1)) (hm : m ≤ 4) : XL (n + 1) ρ μ₀ (.bi .tlist [e]) (.list (rngL 1 ((m : Int) + 1) 1)) := fun μ q => by
  obtain ⟨μ1, e1, l1⟩ := h μ q
  exact ⟨_, _, x_bi (l_cons e1 l_nil) (op_tlistR hm), vv_new _ _, l1.trans (Le.app _ _)⟩
theorem xc_range {a b : X} {i j : Int} (h : XC n ρ μ₀ a (.int i)) (h' : XC n ρ μ₀ b (.int j)) : XC (n + 1) ρ μ₀ (.bi .range [a, b]) (.rng i j 1) := fun μ q => by
  obtain ⟨μ1, e1, l1⟩ := h μ q
  obtain ⟨μ2, e2, l2⟩ := h' μ1 (q.trans l1)
  exact ⟨μ2, x_bi (l_cons e1 (l_cons e2 l_nil)) rfl, l1.trans l2⟩
theorem xc_addI {a b : X} {i j : Int} (h : XC n ρ μ₀ a (.int i)) (h' : XC n ρ μ₀ b (.int j)) : XC (n + 1) ρ μ₀ (.bin .add a b) (.int (i + j)) := fun μ q => by
  obtain ⟨μ1, e1, l1⟩ := h μ q
  obtain ⟨μ2, e2, l2⟩ := h' μ1 (q.trans l1)
  exact ⟨μ2, x_bin e1 e2 rfl, l1.trans l2⟩
theorem xc_len {e : X} {l : List D} (h : XL n ρ μ₀ e (.list l)) (hl : l.length ≤ 1000000) : XC (n + 1) ρ μ₀ (.bi .len [e]) (.int (l.length : Nat)) := fun μ q => by
  obtain ⟨v, μ1, e1, v1, l1⟩ := h μ q
  exact ⟨μ1, x_bi (l_cons e1 l_nil) (op_len v1.lst.2 (fits_of hl)), l1⟩
theorem xl_map {b : Nat} {ts : List Nat} {e it : X} {l : List D} (g : D → D) (h : XL n ρ μ₀ it (.list l)) (hl : l.length ≤ 1000) (H : ∀ d ∈ l, ∃ ρ₁, bindT (clr b ρ) ts false d = some ρ₁ ∧ ∀ μ, (E n).x ρ₁ μ e = .ok (.c (g d), μ)) : XL (n + 1) ρ μ₀ (.comp b ts false it [] e) (.list (l.map g)) := fun μ q => by
  obtain ⟨v, μ1, e1, v1, l1⟩ := h μ q
  obtain ⟨μ2, e2, l2⟩ := v1.frz
  refine ⟨_, _, x_map0 (μ₂ := μ2) (d := .list l) g e1 (by unfold Mine.frz; rw [e2]; rfl) rfl hl (fun d m => ?_), vv_new _ _, (l1.trans l2).trans (Le.app _ _)⟩
  obtain ⟨ρ₁, b1, b2⟩ := H d m
  exact ⟨ρ₁, b1, fun μ _ => b2 μ⟩
theorem xl_add {a b : X} {l r : List D} (h : XL n ρ μ₀ a (.list l)) (h' : XL n ρ μ₀ b (.list r)) (hf : fits (l ++ r) = true) : XL (n + 1) ρ μ₀ (.bin .add a b) (.list (l ++ r)) := fun μ q => by
  obtain ⟨v, μ1, e1, v1, l1⟩ := h μ q
  obtain ⟨u, μ2, e2, v2, l2⟩ := h' μ1 (q.trans l1)
  have v1' := v1.mono l2
  have key : binop μ2 .add v u = .ok (.r μ2.length, μ2 ++ [.lst true (l ++ r)]) := by
    have e3 := v1'.lst.1
    have e4 := v2.lst.1
    rcases v1' with rfl | ⟨i, rfl, o⟩
    · show orNo (asList μ2 (V.c (.list l))) (fun l => orNo (asList μ2 u) fun r => if fits (l ++ r) then Res.ok (V.r μ2.length, μ2 ++ [P.lst true (l ++ r)]) else .no) = _
      exact orE e3 (orE e4 (if_pos hf))
    · show orNo (asList μ2 (V.r i)) (fun l => orNo (asList μ2 u) fun r => if fits (l ++ r) then Res.ok (V.r μ2.length, μ2 ++ [P.lst true (l ++ r)]) else .no) = _
      exact orE e3 (orE e4 (if_pos hf))
  exact ⟨_, _, x_bin e1 e2 key, vv_new _ _, (l1.trans l2).trans (Le.app _ _)⟩
theorem xl_sorted {e : X} {l : List T} (h : XL n ρ μ₀ e (.list (strsD l))) (hl : l.length < 64) : XL (n + 1) ρ μ₀ (.bi .sorted [e]) (.list (strsD (sortT l))) := fun μ q => by
  obtain ⟨v, μ1, e1, v1, l1⟩ := h μ q
  refine ⟨_, _, x_bi (l_cons e1 l_nil) ?_, vv_new _ _, l1.trans (Le.app _ _)⟩
  refine orE (a := l) (bindS v1.lst.1 (txts_strsD l)) ?_
  rw [if_pos (decide_eq_true hl)]
  exact newL_is (fits_of (by rw [List.length_map, sort_len]; lia))
theorem xl_iteT {t a b : X} {d : D} (h : EB n ρ μ₀ t true) (h' : XL n ρ μ₀ a d) : XL (n + 1) ρ μ₀ (.ite t a b) d := fun μ q => by
  obtain ⟨μ1, e1, l1⟩ := h μ q
  obtain ⟨v, μ2, e2, v2, l2⟩ := h' μ1 (q.trans l1)
  exact ⟨v, μ2, x_ite e1 (itx_t rfl e2), v2, l1.trans l2⟩
theorem xl_iteF {t a b : X} {d : D} (h : EB n ρ μ₀ t false) (h' : XL n ρ μ₀ b d) : XL (n + 1) ρ μ₀ (.ite t a b) d := fun μ q => by
  obtain ⟨μ1, e1, l1⟩ := h μ q
  obtain ⟨v, μ2, e2, v2, l2⟩ := h' μ1 (q.trans l1)
  exact ⟨v, μ2, x_ite e1 (itx_f rfl e2), v2, l1.trans l2⟩
theorem xc_at {o : X} {a : At} {d d' : D} (h : XC n ρ μ₀ o d) (h' : ∀ μ, atop μ (.c d) a = some (.c d')) : XC (n + 1) ρ μ₀ (.at o a) d' := fun μ q => by
  obtain ⟨μ1, e1, l1⟩ := h μ q
  exact ⟨μ1, x_at e1 (h' _), l1⟩
theorem xc_ix {o i : X} {d j d' : D} (h : XC n ρ μ₀ o d) (hi : XC n ρ μ₀ i j) (h' : ∀ μ, ixop μ (.c d) (.c j) = some (.c d')) : XC (n + 1) ρ μ₀ (.ix o i) d' := fun μ q => by
  obtain ⟨μ1, e1, l1⟩ := h μ q
  obtain ⟨μ2, e2, l2⟩ := hi μ1 (q.trans l1)
  exact ⟨μ2, x_ix e1 e2 (h' _), l1.trans l2⟩
theorem eb_v {i : Nat} {b : Bool} (h : ρ[i]? = some (some (.c (.bool b)))) : EB (n + 1) ρ μ₀ (.v i) b := fun μ _ => ⟨μ, evB_of (x_v h), Le.rfl'⟩
theorem eqL_self : ∀ l : List T, eqL (strsD l) (strsD l) = some true
  | [] => rfl
  | a :: l => by
    show (eqL (strsD l) (strsD l)).bind (fun b => some (tEq a a && b)) = _
    rw [eqL_self l, tEq_self]; rfl
theorem eb_neL {a b : X} {l : List T} (h : XL n ρ μ₀ a (.list (strsD l))) (h' : XL n ρ μ₀ b (.list (strsD l))) : EB (n + 1) ρ μ₀ (.cmp .ne a b) false := fun μ q => by
  obtain ⟨v, μ1, e1, v1, l1⟩ := h μ q
  obtain ⟨u, μ2, e2, v2, l2⟩ := h' μ1 (q.trans l1)
  have v1' := v1.mono l2
  have e3 := v1'.lst.1
  have e4 := v2.lst.1
  have key : cmpop μ2 .ne v u = some false := by
    rcases v1' with rfl | ⟨i, rfl, o⟩
    · show (asList μ2 (V.c (.list (strsD l)))).bind (fun l => (asList μ2 u).bind fun r => cmpL .ne l r) = _
      exact bindS e3 (bindS e4 (congrArg (Option.map (!·)) (eqL_self l)))
    · show (asList μ2 (V.r i)).bind (fun l => (asList μ2 u).bind fun r => cmpL .ne l r) = _
      exact bindS e3 (bindS e4 (congrArg (Option.map (!·)) (eqL_self l)))
  exact ⟨μ2, evB_of (x_cmp e1 e2 key), l1.trans l2⟩
theorem eb_neT {a b : X} {t : T} (h : XC n ρ μ₀ a (.str t)) (h' : XC n ρ μ₀ b (.str t)) : EB (n + 1) ρ μ₀ (.cmp .ne a b) false := fun μ q => by
  obtain ⟨μ1, e1, l1⟩ := h μ q
  obtain ⟨μ2, e2, l2⟩ := h' μ1 (q.trans l1)
  refine ⟨μ2, evB_of (x_cmp e1 e2 ?_), l1.trans l2⟩
  show some (!tEq t t) = _
  rw [tEq_self]; rfl
theorem eb_or {a b : X} (h : EB n ρ μ₀ a false) (h' : EB n ρ μ₀ b false) : EB (n + 1) ρ μ₀ (.or [a, b]) false := fun μ q => by
  obtain ⟨μ1, e1, l1⟩ := h μ q
  obtain ⟨μ2, e2, l2⟩ := h' μ1 (q.trans l1)
  exact ⟨μ2, evB_of (x_or (ao_cons e1 (ao_go rfl (ao_one e2)))), l1.trans l2⟩
/-- statements, one after the other -/
noncomputable def SS (n : Nat) (ρ : Ev) (μ₀ : Mu) (l : List S) (d : D) : Prop := ∀ μ, Le μ₀ μ → ∃ ρ' μ', evSs (E n) ρ μ l = .ok (.ret (.c d), ρ', μ')
theorem st_asg {i : Nat} {e : X} {d x : D} {r : List S} (h : XC n ρ μ₀ e d) (h' : SS (n + 1) (ρ.set i (some (.c d))) μ₀ r x) : SS (n + 1) ρ μ₀ (.asg i e :: r) x := fun μ q => by
  obtain ⟨μ1, e1, l1⟩ := h μ q
  obtain ⟨ρ', μ', e2⟩ := h' μ1 (q.trans l1)
  exact ⟨ρ', μ', ss_cons (s_asg e1) e2⟩
theorem st_ife {t : X} {a r : List S} {x : D} (h : EB n ρ μ₀ t false) (h' : SS (n + 1) ρ μ₀ r x) : SS (n + 1) ρ μ₀ (.ife t a [] :: r) x := fun μ q => by
  obtain ⟨μ1, e1, l1⟩ := h μ q
  obtain ⟨ρ', μ', e2⟩ := h' μ1 (q.trans l1)
  exact ⟨ρ', μ', ss_cons (s_ife e1 (ite_f rfl ss_nil)) e2⟩
theorem st_ret {e : X} {d : D} {r : List S} (h : XC n ρ μ₀ e d) : SS (n + 1) ρ μ₀ (.ret e :: r) d := fun μ q => by
  obtain ⟨μ1, e1, l1⟩ := h μ q
  exact ⟨ρ, μ1, ss_cons (s_ret e1) next_r⟩
/-- a body that only sets variables -/
noncomputable def SN (n : Nat) (ρ : Ev) (μ₀ : Mu) (l : List S) (ρ' : Ev) : Prop := ∀ μ, Le μ₀ μ → ∃ μ', evSs (E n) ρ μ l = .ok (.nxt, ρ', μ') ∧ Le μ μ'
theorem sn_nil : SN n ρ μ₀ [] ρ := fun μ _ => ⟨μ, rfl, Le.rfl'⟩
theorem sn_asg {i : Nat} {e : X} {d : D} {r : List S} {ρ' : Ev} (h : XC n ρ μ₀ e d) (h' : SN (n + 1) (ρ.set i (some (.c d))) μ₀ r ρ') : SN (n + 1) ρ μ₀ (.asg i e :: r) ρ' := fun μ q => by
  obtain ⟨μ1, e1, l1⟩ := h μ q
  obtain ⟨μ', e2, l2⟩ := h' μ1 (q.trans l1)
  exact ⟨μ', ss_cons (s_asg e1) e2, l1.trans l2⟩
theorem sn_ife {t : X} {a r : List S} {ρ' : Ev} (h : EB n ρ μ₀ t false) (h' : SN (n + 1) ρ μ₀ r ρ') : SN (n + 1) ρ μ₀ (.ife t a [] :: r) ρ' := fun μ q => by
  obtain ⟨μ1, e1, l1⟩ := h μ q
  obtain ⟨μ', e2, l2⟩ := h' μ1 (q.trans l1)
  exact ⟨μ', ss_cons (s_ife e1 (ite_f rfl ss_nil)) e2, l1.trans l2⟩
noncomputable def FN (n : Nat) (μ₀ : Mu) (i : Nat) (b : List S) (ρ : Ev) (l : List D) (ρ' : Ev) : Prop := ∀ μ, Le μ₀ μ → ∃ μ', forL (E n) [i] false b ρ μ l = .ok (.nxt, ρ', μ') ∧ Le μ μ'
theorem fn_nil {i : Nat} {b : List S} : FN n μ₀ i b ρ [] ρ := fun μ _ => ⟨μ, rfl, Le.rfl'⟩
theorem fn_cons {i : Nat} {b : List S} {d : D} {r : List D} {ρ₁ ρ' : Ev} (h : SN n (ρ.set i (some (.c d))) μ₀ b ρ₁) (h' : FN n μ₀ i b ρ₁ r ρ') : FN n μ₀ i b ρ (d :: r) ρ' := fun μ q => by
  obtain ⟨μ1, e1, l1⟩ := h μ q
  obtain ⟨μ', e2, l2⟩ := h' μ1 (q.trans l1)
  exact ⟨μ', for_cons rfl e1 e2, l1.trans l2⟩
theorem st_for {i : Nat} {it : X} {b r : List S} {l : List D} {ρ' : Ev} {x : D} (h : XL n ρ μ₀ it (.list l)) (hb : FN n μ₀ i b ρ l ρ') (h' : SS (n + 1) ρ' μ₀ r x) : SS (n + 1) ρ μ₀ (.for_ [i] false it b :: r) x := fun μ q => by
  obtain ⟨v, μ1, e1, v1, l1⟩ := h μ q
  obtain ⟨μ2, e2, l2⟩ := v1.frz
  obtain ⟨μ3, e3, l3⟩ := hb μ2 ((q.trans l1).trans l2)
  obtain ⟨ρ'', μ', e4⟩ := h' μ3 (((q.trans l1).trans l2).trans l3)
  exact ⟨ρ'', μ', ss_cons (s_for (d := .list l) e1 (by unfold Mine.frz; rw [e2]; rfl) rfl e3) e4⟩
end
/-! ## the law's tail -/
section
variable {n : Nat} {ρ : Ev} {μ₀ : Mu}
theorem xc_eqT {a b : X} {t : T} (h : XC n ρ μ₀ a (.str t)) (h' : XC n ρ μ₀ b (.str t)) : XC (n + 1) ρ μ₀ (.cmp .eq a b) (.bool true) := fun μ q => by
  obtain ⟨μ1, e1, l1⟩ := h μ q
  obtain ⟨μ2, e2, l2⟩ := h' μ1 (q.trans l1)
  refine ⟨μ2, x_cmp e1 e2 ?_, l1.trans l2⟩
  show some (tEq t t) = _
  rw [tEq_self]
end
theorem c_chr1 (n : Nat) (a : T) : cl (n + 14) 343 [.list (strsD [a])] = .ok (chD [a]) := by kernel_rfl
theorem c_chr2 (n : Nat) (a b : T) : cl (n + 14) 343 [.list (strsD [a, b])] = .ok (chD [a, b]) := by kernel_rfl
theorem c_chr3 (n : Nat) (a b c : T) : cl (n + 14) 343 [.list (strsD [a, b, c])] = .ok (chD [a, b, c]) := by kernel_rfl
noncomputable def yN (one : Bool) : T := if one then nA else nW
noncomputable def hN (one : Bool) : T := if one then nAy else nW
noncomputable def rxD (kl : List Nat) : List D := rngL 1 ((kl.length : Int) + 1) 1
noncomputable def frK (sp : Bool) (kl : List Nat) (b : Nat) (p q : T) : D := frD [vecD (kndK sp) (itsK sp kl), vecD kInt (intsD (more b kl.length))] [p, q] (rxD kl)
noncomputable def mkK (sp : Bool) (lk rk : List Nat) (h : T) (ps : List (Nat × Nat)) (rw : List D) : D := madeD (kndK sp) (itsK sp lk) (intsD (more 10 lk.length)) (intsD (more 20 rk.length)) h ps rw
noncomputable def prK (sp : Bool) (lk rk : List Nat) : List (Nat × Nat) := pairs (lk.map (keyK sp)) (rk.map (keyK sp))
theorem good_itsK (sp : Bool) (kl : List Nat) : Good (kndK sp) (itsK sp kl) := by
  rcases sp with _ | _
  · exact .inl ⟨rfl, fun d m => by
      obtain ⟨p, -, rfl⟩ := int_mem m
      exact ⟨_, rfl⟩⟩
  · exact .inr ⟨rfl, fun d m => by
      obtain ⟨p, -, rfl⟩ := List.mem_map.mp m
      exact ⟨_, rfl⟩⟩
theorem knd_or (sp : Bool) : kndK sp = kInt ∨ kndK sp = kChr := by
  cases sp
  · exact .inl rfl
  · exact .inr rfl
theorem c_rkK (n : Nat) (sp : Bool) {l : List Nat} (h : l.length ≤ 4) (H : ∀ d ∈ l, d < 3) : cl (n + 36) 839 [.list [vecD (kndK sp) (itsK sp l)], .int ((l.map (keyK sp)).length : Nat)] = .ok (.list (strsD (l.map (keyK sp)))) := by
  rw [List.length_map]
  cases sp
  · exact c_rkI n h H
  · exact c_rkS n h
section
variable {lk rk : List Nat}
theorem datK (sp : Bool) (hl : lk.length ≤ 4) (hr : rk.length ≤ 4) (hk : ∀ d ∈ lk, d < 3) (hk' : ∀ d ∈ rk, d < 3) : Dat (kndK sp) (itsK sp lk) (intsD (more 10 lk.length)) (rxD lk) (kndK sp) (itsK sp rk) (rxD rk) (lk.map (keyK sp)) (rk.map (keyK sp)) where
  G := good_itsK sp lk
  hk' := knd_or sp
  lx := by rw [List.length_map]; exact hl
  ly := by rw [List.length_map]; exact hr
  l1 := by rw [List.length_map, itsK_len]
  l2 := by rw [List.length_map, ints_len, more_len]
  l3 := by rw [List.length_map]; exact rng1_len hl
  l4 := by rw [List.length_map, itsK_len]
  l6 := by rw [List.length_map]; exact rng1_len hr
  hkx := fun n => c_rkK n sp hl hk
  hky := fun n => c_rkK n sp hr hk'
theorem datT (hl : lk.length ≤ 4) (hr : rk.length ≤ 4) (hk : ∀ d ∈ lk, d < 3) : Dat kInt (intsD lk) (intsD (more 10 lk.length)) (rxD lk) kChr (itsT rk) (rxD rk) (lk.map keyI) (rk.map keyI) where
  G := good_itsK false lk
  hk' := .inr rfl
  lx := by rw [List.length_map]; exact hl
  ly := by rw [List.length_map]; exact hr
  l1 := by rw [List.length_map, ints_len]
  l2 := by rw [List.length_map, ints_len, more_len]
  l3 := by rw [List.length_map]; exact rng1_len hl
  l4 := by rw [List.length_map]; unfold itsT; rw [List.length_map]
  l6 := by rw [List.length_map]; exact rng1_len hr
  hkx := fun n => by rw [List.length_map]; exact c_rkI n hl hk
  hky := fun n => by rw [List.length_map]; exact c_rkT n hr
theorem moreL {sp : Bool} (b : Nat) : (intsD (more b rk.length)).length = (rk.map (keyK sp)).length := by rw [ints_len, more_len, List.length_map]
theorem law_told1 (sp one : Bool) (hl : lk.length ≤ 4) (hr : rk.length ≤ 4) (hk : ∀ d ∈ lk, d < 3) (hk' : ∀ d ∈ rk, d < 3) (n : Nat) : ∃ ps rw, ps.Perm (prK sp lk rk) ∧ cl (n + 64) 945 [argsD (frK sp lk 10 nA nV) (frK sp rk 20 nB (yN one)) [(tByx, chD [nA]), (tByy, chD [nB])]] = .ok (mkK sp lk rk (hN one) ps rw) := by
  cases one
  · exact (datK sp hl hr hk hk').told (moreL 20) n (.inl rfl) (tk_xy _ _ _ _) (fi_1w _ _ _ _ _ _ _ _ _)
  · exact (datK sp hl hr hk hk').told (moreL 20) n (.inr rfl) (tk_xy _ _ _ _) (fi_1a _ _ _ _ _ _ _ _ _)
theorem law_told2 (sp one : Bool) (hl : lk.length ≤ 4) (hr : rk.length ≤ 4) (hk : ∀ d ∈ lk, d < 3) (hk' : ∀ d ∈ rk, d < 3) (n : Nat) : ∃ ps rw, ps.Perm (prK sp lk rk) ∧ cl (n + 64) 945 [argsD (frK sp lk 10 nA nV) (frK sp rk 20 nB (yN one)) [(tByx, chD [nA, nA]), (tByy, chD [nB, nB, nB])]] = .ok (mkK sp lk rk (hN one) ps rw) := by
  cases one
  · exact (datK sp hl hr hk hk').told (moreL 20) n (.inl rfl) (tk_xy _ _ _ _) (fi_2w _ _ _ _ _ _ _ _ _)
  · exact (datK sp hl hr hk hk').told (moreL 20) n (.inr rfl) (tk_xy _ _ _ _) (fi_2a _ _ _ _ _ _ _ _ _)
theorem law_told3 (sp : Bool) (hl : lk.length ≤ 4) (hr : rk.length ≤ 4) (hk : ∀ d ∈ lk, d < 3) (hk' : ∀ d ∈ rk, d < 3) (n : Nat) :
    (∃ ps rw, ps.Perm (prK sp lk rk) ∧ cl (n + 64) 945 [argsD (frK sp lk 10 nA nV) (frK sp rk 20 nA nW) [(tByx, chD [nA])]] = .ok (mkK sp lk rk nW ps rw)) ∧
    (∃ ps rw, ps.Perm (prK sp lk rk) ∧ cl (n + 64) 945 [argsD (frK sp lk 10 nA nV) (frK sp rk 20 nA nW) [(tByy, chD [nA])]] = .ok (mkK sp lk rk nW ps rw)) ∧
    (∃ ps rw, ps.Perm (prK sp lk rk) ∧ cl (n + 64) 945 [argsD (frK sp lk 10 nA nV) (frK sp rk 20 nA nW) [(tBy, chD [nA, nA])]] = .ok (mkK sp lk rk nW ps rw)) ∧
    (∃ ps rw, ps.Perm (prK sp lk rk) ∧ cl (n + 64) 945 [argsD (frK sp lk 10 nA nV) (frK sp rk 20 nA nW) []] = .ok (mkK sp lk rk nW ps rw)) :=
  ⟨(datK sp hl hr hk hk').told (moreL 20) n (.inl rfl) (tk_x _ _ _) (fi_3x _ _ _ _ _ _ _ _ _), (datK sp hl hr hk hk').told (moreL 20) n (.inl rfl) (tk_y _ _ _) (fi_3y _ _ _ _ _ _ _ _ _), (datK sp hl hr hk hk').told (moreL 20) n (.inl rfl) (tk_b _ _ _) (fi_3b _ _ _ _ _ _ _ _ _), (datK sp hl hr hk hk').told (moreL 20) n (.inl rfl) (tk_n _ _) (fi_3n _ _ _ _ _ _ _ _ _)⟩
theorem law_no1 (sp : Bool) (hl : lk.length ≤ 4) (hr : rk.length ≤ 4) (hk : ∀ d ∈ lk, d < 3) (hk' : ∀ d ∈ rk, d < 3) (n : Nat) : cl (n + 64) 945 [argsD (frK sp lk 10 nA nV) (frK sp rk 20 nA nV) [(tByx, chD [nA])]] = .ok (.str msg1) :=
  c_refused n (tk_x _ _ _) (datK sp hl hr hk hk').frX ((datK sp hl hr hk hk').frY (moreL 20) nA nV) (rf_1 _ _ _ _ _ _ _ _ _)
theorem law_no2 (sp one : Bool) (hl : lk.length ≤ 4) (hr : rk.length ≤ 4) (hk : ∀ d ∈ lk, d < 3) (hk' : ∀ d ∈ rk, d < 3) (n : Nat) : cl (n + 64) 945 [argsD (frK sp lk 10 nA nV) (frK sp rk 20 nB (yN one)) [(tByx, chD [nA]), (tByy, chD [nQ])]] = .ok (.str msg2) := by
  cases one
  · exact c_refused n (tk_xy _ _ _ _) (datK sp hl hr hk hk').frX ((datK sp hl hr hk hk').frY (moreL 20) nB nW) (rf_2w _ _ _ _ _ _ _ _ _)
  · exact c_refused n (tk_xy _ _ _ _) (datK sp hl hr hk hk').frX ((datK sp hl hr hk hk').frY (moreL 20) nB nA) (rf_2a _ _ _ _ _ _ _ _ _)
end
/-! ## the law's tail, told -/
section
variable {n : Nat} {ρ : Ev} {μ₀ : Mu}
theorem a_v {i : Nat} {d : D} (h : ρ[i]? = some (some (.c d))) : XL (n + 2) ρ μ₀ (.tup [.k .none, .v i]) (.tup [.none, d]) := (xc_tup (ll_cons xc_k.xl (ll_cons (xc_v h).xl ll_nil)) rfl).xl
theorem a_c1 {t a : T} : XL (n + 16) ρ μ₀ (.tup [.k (.str t), .fn 343 [.list [.k (.str a)]]]) (.tup [.str t, chD [a]]) := (xc_tup (ll_cons xc_k.xl (ll_cons (xc_fn (n := n + 14) (ll_cons (xl_list (ll_cons xc_k.xl ll_nil) rfl) ll_nil) (c_chr1 n a)).xl ll_nil)) rfl).xl
theorem a_c2 {t a b : T} : XL (n + 16) ρ μ₀ (.tup [.k (.str t), .fn 343 [.list [.k (.str a), .k (.str b)]]]) (.tup [.str t, chD [a, b]]) := (xc_tup (ll_cons xc_k.xl (ll_cons (xc_fn (n := n + 14) (ll_cons (xl_list (ll_cons xc_k.xl (ll_cons xc_k.xl ll_nil)) rfl) ll_nil) (c_chr2 n a b)).xl ll_nil)) rfl).xl
theorem a_c3 {t a b c : T} : XL (n + 16) ρ μ₀ (.tup [.k (.str t), .fn 343 [.list [.k (.str a), .k (.str b), .k (.str c)]]]) (.tup [.str t, chD [a, b, c]]) := (xc_tup (ll_cons xc_k.xl (ll_cons (xc_fn (n := n + 14) (ll_cons (xl_list (ll_cons xc_k.xl (ll_cons xc_k.xl (ll_cons xc_k.xl ll_nil))) rfl) ll_nil) (c_chr3 n a b c)).xl ll_nil)) rfl).xl
theorem xc_lenI {e : X} {l : List Nat} (h : XL n ρ μ₀ e (.list (intsD l))) (hl : l.length ≤ 1000000) : XC (n + 1) ρ μ₀ (.bi .len [e]) (.int (l.length : Nat)) := by
  have := xc_len h (by rw [ints_len]; exact hl)
  rwa [ints_len] at this
section
variable {sp : Bool} {lk rk : List Nat} {h : T} {ps : List (Nat × Nat)} {rw : List D} {i : Nat}
theorem a_nm (hv : ρ[i]? = some (some (.c (mkK sp lk rk h ps rw)))) : XL (n + 4) ρ μ₀ (.at (.ix (.at (.v i) .attrs) (.k (.str [110,97,109,101,115]))) .items) (.list (strsD [nA, nV, h])) := (xc_at (d := chD [nA, nV, h]) (xc_ix (d := .dict _) (xc_at (xc_v hv) (fun _ => rfl)) xc_k (fun _ => rfl)) (fun _ => rfl)).xl
theorem a_ln (hl : lk.length ≤ 4) (hr : rk.length ≤ 4) (hk : ∀ d ∈ lk, d < 3) (hv : ρ[i]? = some (some (.c (mkK sp lk rk h ps rw)))) (hp : ps.Perm (prK sp lk rk)) (h11 : ρ[11]? = some (some (.r 6))) (o6 : Ow μ₀ 6 (.list (strsD ((prK sp lk rk).map (lineP sp lk))))) : EB (n + 24) ρ μ₀ (.cmp .ne (.fn 950 [.v i]) (.bi .sorted [.v 11])) false :=
  eb_neL (xc_fn (ll_cons (xc_v hv).xl ll_nil) (made_lines n sp hl hr hk hp h rw)).xl (xl_sorted (xl_r h11 o6) (by
    rw [List.length_map]
    have := pairs_le (xs := lk.map (keyK sp)) (ys := rk.map (keyK sp)) (by rw [List.length_map]; exact hl) (by rw [List.length_map]; exact hr)
    exact Nat.lt_of_le_of_lt this (by decide)))
end
theorem xl_ite {t a b : X} {c : Bool} {d e : D} (h : EB n ρ μ₀ t c) (ha : XL n ρ μ₀ a d) (hb : XL n ρ μ₀ b e) : XL (n + 1) ρ μ₀ (.ite t a b) (if c then d else e) := by
  cases c
  · exact xl_iteF h hb
  · exact xl_iteT h ha
end
theorem a_kind {i : Nat} {p : List D} {q : D} {N : List T} {R : List D} (hv : ρ[i]? = some (some (.c (frD [vecD kInt p, q] N R)))) : XC (n + 4) ρ μ₀ (.at (.ix (.at (.v i) .items) (.k (.int 0))) .kind) (.str kInt) :=
  xc_at (d := vecD kInt p) (xc_ix (d := .list [vecD kInt p, q]) (j := .int 0) (xc_at (d := frD [vecD kInt p, q] N R) (xc_v hv) (fun _ => by kernel_rfl)) xc_k (fun _ => by kernel_rfl)) (fun _ => by kernel_rfl)
noncomputable def lawT : List S := fd955.body.drop 11
noncomputable def tlE (s sd x y : D) (sp one : Bool) (a b c t u v w g h i j k : Option V) : Ev := [some (.c s), some (.c sd), a, some (.r 0), some (.r 1), some (.c (.bool sp)), some (.c (.bool one)), some (.r 2), some (.r 3), some (.c x), some (.c y), some (.r 6), b, c, t, u, v, w, g, h, i, j, k, none]
section
variable {lk rk : List Nat}
theorem law_body (n : Nat) {s sd y : D} {sp one : Bool} (hl : lk.length ≤ 4) (hr : rk.length ≤ 4) (hk : ∀ d ∈ lk, d < 3) {a b c t u g : Option V} {μ₀ : Mu} (o6 : Ow μ₀ 6 (.list (strsD ((prK sp lk rk).map (lineP sp lk))))) {r : List (T × D)} {p : List (Nat × Nat)} {w : List D} (q : p.Perm (prK sp lk rk)) (ft : fits (.tup [.none, frK sp lk 10 nA nV] :: .tup [.none, frK sp rk 20 nA nW] :: r.map fun p => .tup [.str p.1, p.2]) = true) (e : cl (n + 96) 945 [argsD (frK sp lk 10 nA nV) (frK sp rk 20 nA nW) r] = .ok (mkK sp lk rk nW p w)) :
    SN (n + 98) (tlE s sd (frK sp lk 10 nA nV) y sp one a b c t u (some (.c (frK sp rk 20 nA nW))) (some (.c (.list (r.map fun p => .tup [.str p.1, p.2])))) g none none none none) μ₀ [.asg 18 (.fn 945 [(.bin .add (.list [(.tup [(.k .none), (.v 9)]), (.tup [(.k .none), (.v 16)])]) (.v 17))]), .ife (.or [(.cmp .ne (.at (.ix (.at (.v 18) .attrs) (.k (.str [110,97,109,101,115]))) .items) (.list [(.k (.str [97])), (.k (.str [118])), (.k (.str [119]))])), (.cmp .ne (.fn 950 [(.v 18)]) (.bi .sorted [(.v 11)]))]) [.ret (.k (.bool false))] []]
     (tlE s sd (frK sp lk 10 nA nV) y sp one a b c t u (some (.c (frK sp rk 20 nA nW))) (some (.c (.list (r.map fun p => .tup [.str p.1, p.2])))) (some (.c (mkK sp lk rk nW p w))) none none none none) := by
  refine sn_asg (xc_fn (ds := [argsD (frK sp lk 10 nA nV) (frK sp rk 20 nA nW) r]) (ll_cons (xl_add (l := [.tup [.none, frK sp lk 10 nA nV], .tup [.none, frK sp rk 20 nA nW]]) (r := r.map fun p : T × D => D.tup [D.str p.1, p.2]) (xl_list (ll_cons (a_v rfl) (ll_cons (a_v rfl) ll_nil)) rfl) (xc_v rfl).xl ft) ll_nil) (by exact e)) ?_
  show SN (n + 98) (tlE s sd (frK sp lk 10 nA nV) y sp one a b c t u (some (.c (frK sp rk 20 nA nW))) (some (.c (.list (r.map fun p => .tup [.str p.1, p.2])))) (some (.c (mkK sp lk rk nW p w))) none none none none) μ₀ _ _
  exact sn_ife (eb_or (eb_neL (a_nm rfl) (xl_list (ll_cons xc_k.xl (ll_cons xc_k.xl (ll_cons xc_k.xl ll_nil))) rfl)) (a_ln hl hr hk rfl q rfl o6)) sn_nil
theorem law_tail (n : Nat) (s sd : D) {sp one : Bool} (hl : lk.length ≤ 4) (hr : rk.length ≤ 4) (hk : ∀ d ∈ lk, d < 3) (hk' : ∀ d ∈ rk, d < 3) (a b c : Option V) {μ₀ : Mu} (o0 : Ow μ₀ 0 (.list (intsD lk))) (o1 : Ow μ₀ 1 (.list (intsD rk))) (o2 : Ow μ₀ 2 (.list (intsD (more 10 lk.length)))) (o3 : Ow μ₀ 3 (.list (intsD (more 20 rk.length)))) (o6 : Ow μ₀ 6 (.list (strsD ((prK sp lk rk).map (lineP sp lk))))) :
    SS (n + 99) (lwD s sd (frK sp lk 10 nA nV) (frK sp rk 20 nB (yN one)) sp one a b c) μ₀ lawT (.bool true) := by
  obtain ⟨p1, w1, q1, t1⟩ := law_told1 sp one hl hr hk hk' (n + 33)
  obtain ⟨p2, w2, q2, t2⟩ := law_told2 sp one hl hr hk hk' (n + 33)
  obtain ⟨⟨p3, w3, q3, t3⟩, ⟨p4, w4, q4, t4⟩, ⟨p5, w5, q5, t5⟩, p6, w6, q6, t6⟩ := law_told3 sp hl hr hk hk' (n + 32)
  have nm : ∀ (ρ : Ev) (m : Nat), ρ[6]? = some (some (.c (.bool one))) → XL (m + 3) ρ μ₀ (.list [.k (.str [97]), .k (.str [118]), .ite (.v 6) (.k (.str [97,46,121])) (.k (.str [119]))]) (.list (strsD [nA, nV, hN one])) := fun ρ m h => xl_list (ll_cons xc_k.xl (ll_cons xc_k.xl (ll_cons (by
    cases one
    · exact xl_iteF (eb_v h) xc_k.xl
    · exact xl_iteT (eb_v h) xc_k.xl) ll_nil))) rfl
  have hz := fun p q => c_frame (n + 55) (kl := rk) (more := intsD (more 20 rk.length)) p q sp hr hk' (by rw [ints_len, more_len]; lia)
  have hx := c_frame (n + 55) (kl := lk) (more := intsD (more 10 lk.length)) nA nV false hl hk (by rw [ints_len, more_len]; lia)
  obtain ⟨p7, w7, t7⟩ := (datT hl hr hk).told1 (n + 33)
  unfold lawT
  show SS (n + 99) (tlE s sd _ _ sp one a b c none none none none none none none none none) μ₀ _ _
  refine st_asg (xc_fn (ds := [argsD (frK sp lk 10 nA nV) (frK sp rk 20 nB (yN one)) [(tByx, chD [nA]), (tByy, chD [nB])]]) (ll_cons (xl_list (ll_cons (a_v rfl) (ll_cons (a_v rfl) (ll_cons a_c1 (ll_cons a_c1 ll_nil)))) rfl) ll_nil) (by exact t1)) ?_
  show SS (n + 99) (tlE s sd _ _ sp one a b c (some (.c _)) none none none none none none none none) μ₀ _ _
  refine st_ife (eb_or (eb_neL (a_nm rfl) (nm _ _ rfl)) (a_ln hl hr hk rfl q1 rfl o6)) ?_
  refine st_asg (xc_fn (ds := [argsD (frK sp lk 10 nA nV) (frK sp rk 20 nB (yN one)) [(tByx, chD [nA, nA]), (tByy, chD [nB, nB, nB])]]) (ll_cons (xl_list (ll_cons (a_v rfl) (ll_cons (a_v rfl) (ll_cons a_c2 (ll_cons a_c3 ll_nil)))) rfl) ll_nil) (by exact t2)) ?_
  show SS (n + 99) (tlE s sd _ _ sp one a b c (some (.c _)) (some (.c _)) none none none none none none none) μ₀ _ _
  refine st_ife (eb_or (a_ln hl hr hk rfl q2 rfl o6) (eb_neL (a_nm rfl) (a_nm rfl))) ?_
  refine st_asg (xc_fn (ds := [.list (intsD rk), .list (intsD (more 20 rk.length)), .list (strsD [nA, nW]), .bool sp]) (ll_cons (xl_r rfl o1) (ll_cons (xl_r rfl o3) (ll_cons (xl_list (ll_cons xc_k.xl (ll_cons xc_k.xl ll_nil)) rfl) (ll_cons (xc_v rfl).xl ll_nil)))) (by exact hz nA nW)) ?_
  show SS (n + 99) (tlE s sd _ _ sp one a b c (some (.c _)) (some (.c _)) (some (.c _)) none none none none none none) μ₀ _ _
  refine st_for (l := [.list [.tup [.str tByx, chD [nA]]], .list [.tup [.str tByy, chD [nA]]], .list [.tup [.str tBy, chD [nA, nA]]], .list []]) (xl_list (ll_cons (xl_list (ll_cons a_c1 ll_nil) rfl) (ll_cons (xl_list (ll_cons a_c1 ll_nil) rfl) (ll_cons (xl_list (ll_cons a_c2 ll_nil) rfl) (ll_cons (xl_list ll_nil rfl) ll_nil)))) rfl) (
    fn_cons (law_body n hl hr hk o6 (r := [(tByx, chD [nA])]) q3 rfl t3) (fn_cons (law_body n hl hr hk o6 (r := [(tByy, chD [nA])]) q4 rfl t4) (fn_cons (law_body n hl hr hk o6 (r := [(tBy, chD [nA, nA])]) q5 rfl t5) (fn_cons (law_body n hl hr hk o6 (r := []) q6 rfl t6) fn_nil)))) ?_
  show SS (n + 99) (tlE s sd _ _ sp one a b c (some (.c _)) (some (.c _)) (some (.c _)) (some (.c _)) (some (.c _)) none none none none) μ₀ _ _
  refine st_asg (xc_fn (ds := [.list (intsD rk), .list (intsD (more 20 rk.length)), .list (strsD [nA, nV]), .bool sp]) (ll_cons (xl_r rfl o1) (ll_cons (xl_r rfl o3) (ll_cons (xl_list (ll_cons xc_k.xl (ll_cons xc_k.xl ll_nil)) rfl) (ll_cons (xc_v rfl).xl ll_nil)))) (by exact hz nA nV)) ?_
  show SS (n + 99) (tlE s sd _ _ sp one a b c (some (.c _)) (some (.c _)) (some (.c _)) (some (.c _)) (some (.c _)) (some (.c _)) none none none) μ₀ _ _
  refine st_ife (eb_neT (t := msg1) (xc_fn (ds := [argsD (frK sp lk 10 nA nV) (frK sp rk 20 nA nV) [(tByx, chD [nA])]]) (ll_cons (xl_list (ll_cons (a_v rfl) (ll_cons (a_v rfl) (ll_cons a_c1 ll_nil))) rfl) ll_nil) (by exact law_no1 sp hl hr hk hk' (n + 32))) xc_k) ?_
  refine st_ife (eb_neT (t := msg2) (xc_fn (ds := [argsD (frK sp lk 10 nA nV) (frK sp rk 20 nB (yN one)) [(tByx, chD [nA]), (tByy, chD [nQ])]]) (ll_cons (xl_list (ll_cons (a_v rfl) (ll_cons (a_v rfl) (ll_cons a_c1 (ll_cons a_c1 ll_nil)))) rfl) ll_nil) (by exact law_no2 sp one hl hr hk hk' (n + 32))) xc_k) ?_
  have rk_str : ∀ (ρ : Ev) (m : Nat), ρ[4]? = some (some (.r 1)) → (∀ d : D, bindT (clr 23 ρ) [23] false d = some ((clr 23 ρ).set 23 (some (.c d))) ∧ ((clr 23 ρ).set 23 (some (V.c d)))[23]? = some (some (.c d))) → XL (m + 5) ρ μ₀ (.comp 23 [23] false (.v 4) [] (.bi .str [.v 23])) (.list (itsT rk)) := fun ρ m h hb => by
    rw [← gT_map]
    exact xl_map gT (xl_r h o1) (by rw [ints_len]; lia) fun d md => by
      obtain ⟨p, m', rfl⟩ := int_mem md
      exact ⟨_, (hb _).1, fun μ => x_bi (l_cons (x_v (hb _).2) l_nil) (op_strN (Nat.lt_trans (hk' p m') (by decide)))⟩
  refine st_asg (d := frD [vecD kChr (itsT rk)] [nA] (rxD rk)) (xc_fn (ds := [.list [vecD kChr (itsT rk)], .list (strsD [nA]), vecD kInt (rxD rk)]) (ll_cons (xl_list (ll_cons (xl_vec (ll_cons xc_k.xl (ll_cons (rk_str _ _ rfl fun d => ⟨rfl, rfl⟩) ll_nil))) ll_nil) rfl) (ll_cons (xl_list (ll_cons xc_k.xl ll_nil) rfl) (ll_cons (xl_vec (ll_cons xc_k.xl (ll_cons (xl_rows (xc_range xc_k (xc_addI (xc_lenI (xl_r rfl o1) (by lia)) xc_k)) hr) ll_nil))) ll_nil))) (c_newfr1 (n + 63) kChr (itsT rk) (rxD rk) nA)) ?_
  show SS (n + 99) (tlE s sd _ _ sp one a b c (some (.c _)) (some (.c _)) (some (.c _)) (some (.c _)) (some (.c _)) (some (.c _)) (some (.c _)) none none) μ₀ _ _
  refine st_asg (xc_fn (ds := [.list (intsD lk), .list (intsD (more 10 lk.length)), .list (strsD [nA, nV]), .bool false]) (ll_cons (xl_r rfl o0) (ll_cons (xl_r rfl o2) (ll_cons (xl_list (ll_cons xc_k.xl (ll_cons xc_k.xl ll_nil)) rfl) (ll_cons xc_k.xl ll_nil)))) (by exact hx)) ?_
  show SS (n + 99) (tlE s sd _ _ sp one a b c (some (.c _)) (some (.c _)) (some (.c _)) (some (.c _)) (some (.c _)) (some (.c _)) (some (.c _)) (some (.c _)) none) μ₀ _ _
  refine st_asg (xc_fn (ds := [argsD (frD [vecD kInt (intsD lk), vecD kInt (intsD (more 10 lk.length))] [nA, nV] (rxD lk)) (frD [vecD kChr (itsT rk)] [nA] (rxD rk)) []]) (ll_cons (xl_list (ll_cons (a_v rfl) (ll_cons (a_v rfl) ll_nil)) rfl) ll_nil) (by exact t7)) ?_
  show SS (n + 99) (tlE s sd _ _ sp one a b c (some (.c _)) (some (.c _)) (some (.c _)) (some (.c _)) (some (.c _)) (some (.c _)) (some (.c _)) (some (.c _)) (some (.c _))) μ₀ _ _
  exact st_ret (xc_eqT (t := kInt) (a_kind rfl) xc_k)
end
/-! ## the law's head -/
noncomputable def keysOf (sd : List Nat) (i : Nat) : List Nat := (List.range (sd.getD i 0 % 5)).map fun e => sd.getD (i + 1 + e) 0 % 3
theorem keys_len (sd : List Nat) (i : Nat) : (keysOf sd i).length ≤ 4 := by
  unfold keysOf
  rw [List.length_map, List.length_range]
  have : sd.getD i 0 % 5 < 5 := Nat.mod_lt _ (by decide)
  lia
theorem keys_lt (sd : List Nat) (i : Nat) : ∀ d ∈ keysOf sd i, d < 3 := fun d m => by
  obtain ⟨e, -, rfl⟩ := List.mem_map.mp m
  exact Nat.mod_lt _ (by decide)
noncomputable def gKey (sd : List Nat) (i : Nat) : D → D | .int e => .int ((sd.getD (i + 1 + e.toNat) 0 % 3 : Nat) : Int) | _ => .none
theorem gKey_map (sd : List Nat) (i m : Nat) : (intsD (List.range m)).map (gKey sd i) = intsD ((List.range m).map fun e => sd.getD (i + 1 + e) 0 % 3) := by
  unfold intsD
  rw [List.map_map, List.map_map]; rfl
noncomputable def gMore (b : Nat) : D → D | .int e => .int ((b + e.toNat : Nat) : Int) | _ => .none
theorem gMore_map (b m : Nat) : (intsD (List.range m)).map (gMore b) = intsD (more b m) := by
  unfold intsD more
  rw [List.map_map, List.map_map]; rfl
section
variable {n : Nat} {ρ : Ev} {μ : Mu}
theorem ix_sd {sd : List Nat} (hs : sd.length = 16) (i : Nat) (hi : i < 16) : ixop μ (.c (.list (intsD sd))) (.c (.int (i : Nat))) = some (.c (.int (sd.getD i 0 : Nat))) := op_ixN (l := intsD sd) rfl (ints_at (by lia)) (by rw [ints_len]; lia)
theorem x_sdmod {sd : List Nat} (hs : sd.length = 16) (h1 : ρ[1]? = some (some (.c (.list (intsD sd))))) (i : Nat) (hi : i < 16) {b : Nat} (hb : 0 < b) (hb' : b ≤ 1000000) : (E (n + 3)).x ρ μ (.bin .mod (.ix (.v 1) (.k (.int (i : Nat)))) (.k (.int (b : Nat)))) = .ok (.c (.int ((sd.getD i 0 % b : Nat) : Int)), μ) :=
  x_bin (x_ix (x_v h1) x_k (ix_sd hs i hi)) x_k (op_modN hb hb')
theorem x_keys {sd : List Nat} (hs : sd.length = 16) (h1 : ρ[1]? = some (some (.c (.list (intsD sd))))) (i : Nat) (hi : i + 5 < 16) (hc : ∀ d : D, bindT (clr 23 ρ) [23] false d = some ((clr 23 ρ).set 23 (some (.c d))) ∧ ((clr 23 ρ).set 23 (some (V.c d)))[23]? = some (some (.c d)) ∧ ((clr 23 ρ).set 23 (some (V.c d)))[1]? = some (some (.c (.list (intsD sd))))) :
    (E (n + 6)).x ρ μ (.comp 23 [23] false (.bi .range [(.bin .mod (.ix (.v 1) (.k (.int (i : Nat)))) (.k (.int (5 : Nat))))]) [] (.bin .mod (.ix (.v 1) (.bin .add (.k (.int ((i + 1 : Nat) : Int))) (.v 23))) (.k (.int (3 : Nat))))) = .ok (.r μ.length, μ ++ [.lst true (intsD (keysOf sd i))]) := by
  unfold keysOf
  rw [← gKey_map]
  exact x_map0 (gKey sd i) (x_bi (l_cons (x_sdmod (n := n + 1) hs h1 i (by lia) (b := 5) (by decide) (by decide)) l_nil) rfl) rfl (items_rng (by lia)) (by rw [ints_len, List.length_range]; lia) (fun d m => by
    obtain ⟨e, m', rfl⟩ := int_mem m
    have he := List.mem_range.mp m'
    have : e < 5 := Nat.lt_trans he (Nat.mod_lt _ (by decide))
    obtain ⟨b1, b2, b3⟩ := hc (.int (e : Nat))
    exact ⟨_, b1, fun μ _ => x_bin (x_ix (x_v b3) (x_bin x_k (x_v b2) (by show Res.ok (V.c (.int (((i + 1 : Nat) : Int) + (e : Nat))), μ) = .ok (V.c (.int ((i + 1 + e : Nat) : Int)), μ); rw [Int.natCast_add (i + 1)])) (ix_sd hs (i + 1 + e) (by lia))) x_k (op_modN (by decide) (by decide))⟩)
theorem x_more {l : List Nat} {v j b : Nat} (hl : l.length ≤ 4) (h1 : ρ[v]? = some (some (.r j))) (o : Is μ j (intsD l)) (hc : ∀ d : D, bindT (clr 23 ρ) [23] false d = some ((clr 23 ρ).set 23 (some (.c d))) ∧ ((clr 23 ρ).set 23 (some (V.c d)))[23]? = some (some (.c d))) :
    (E (n + 6)).x ρ μ (.comp 23 [23] false (.bi .range [(.bi .len [(.v v)])]) [] (.bin .add (.k (.int (b : Nat))) (.v 23))) = .ok (.r μ.length, μ ++ [.lst true (intsD (more b l.length))]) := by
  rw [← gMore_map]
  exact x_map0 (gMore b) (x_bi (l_cons (x_bi (l_cons (x_v h1) l_nil) (lenR o (by lia))) l_nil) rfl) rfl (items_rng (by lia)) (by rw [ints_len, List.length_range]; lia) (fun d m => by
    obtain ⟨e, m', rfl⟩ := int_mem m
    obtain ⟨b1, b2⟩ := hc (.int (e : Nat))
    exact ⟨_, b1, fun μ _ => x_bin x_k (x_v b2) (by show Res.ok (V.c (.int ((b : Int) + (e : Nat))), μ) = .ok (V.c (.int ((b + e : Nat) : Int)), μ); rw [Int.natCast_add])⟩)
end
/-! ## the law -/
theorem Is.ow {μ : Mu} {i : Nat} {ds : List D} (h : Is μ i ds) : Ow μ i (.list ds) := by
  rcases h with h | h
  · exact .inl ⟨ds, h, rfl⟩
  · exact .inr (.inl h)
noncomputable def ev0 (s sd : D) (l r : Option V) (sp one a b x y : Option V) : Ev := [some (.c s), some (.c sd), none, l, r, sp, one, a, b, x, y] ++ List.replicate 13 none
noncomputable def mu4 (lk rk : List Nat) : Mu := [.lst true (intsD lk), .lst true (intsD rk), .lst true (intsD (more 10 lk.length)), .lst true (intsD (more 20 rk.length))]
noncomputable def mu5 (lk rk : List Nat) : Mu := [.frz (.list (intsD lk)), .lst true (intsD rk), .frz (.list (intsD (more 10 lk.length))), .lst true (intsD (more 20 rk.length)), .frz (.list (strsD [nA, nV]))]
noncomputable def mu6 (lk rk : List Nat) (q : T) : Mu := [.frz (.list (intsD lk)), .frz (.list (intsD rk)), .frz (.list (intsD (more 10 lk.length))), .frz (.list (intsD (more 20 rk.length))), .frz (.list (strsD [nA, nV])), .frz (.list (strsD [nB, q]))]
theorem l_names (n : Nat) {ρ : Ev} {μ : Mu} {one : Bool} (h : ρ[6]? = some (some (.c (.bool one)))) : (E (n + 3)).x ρ μ (.list [(.k (.str [98])), (.ite (.v 6) (.k (.str [97])) (.k (.str [119])))]) = .ok (.r μ.length, μ ++ [.lst true (strsD [nB, yN one])]) := by
  cases one
  · exact x_list (l_cons x_k (l_cons (x_ite (evB_of (x_v h)) (itx_f rfl x_k)) l_nil)) rfl rfl
  · exact x_list (l_cons x_k (l_cons (x_ite (evB_of (x_v h)) (itx_t rfl x_k)) l_nil)) rfl rfl
theorem law_head (n : Nat) {ns : List Int} (h : ns.length ≤ 63) : ∃ (lk rk : List Nat) (sd : D) (sp one : Bool) (a b c : Option V) (μ' : Mu), (lk.length ≤ 4 ∧ rk.length ≤ 4 ∧ (∀ d ∈ lk, d < 3) ∧ ∀ d ∈ rk, d < 3) ∧ Hs lk rk μ' ∧ μ'[6]? = some (.lst true (strsD ((prK sp lk rk).map (lineP sp lk)))) ∧
    evSs (E (n + 99)) ([some (V.c (.arr (ns.map .int)))] ++ List.replicate 23 none) [] (fd955.body.take 11) = .ok (.nxt, lwD (.arr (ns.map .int)) sd (frK sp lk 10 nA nV) (frK sp rk 20 nB (yN one)) sp one a b c, μ') := by
  obtain ⟨sd, hs, e1⟩ := c_seed (n + 77) h
  generalize D.arr (ns.map .int) = s at *
  obtain ⟨sp, hsp⟩ : ∃ b, decide (((sd.getD 10 0 % 2 : Nat) : Int) = 1) = b := ⟨_, rfl⟩
  obtain ⟨one, hone⟩ : ∃ b, decide (((sd.getD 11 0 % 2 : Nat) : Int) = 1) = b := ⟨_, rfl⟩
  have s2 : (E (n + 99)).s (ev0 s (.list (intsD sd)) none none none none none none none none) [] (.asgC 3 (.comp 23 [23] false (.bi .range [(.bin .mod (.ix (.v 1) (.k (.int 0))) (.k (.int 5)))]) [] (.bin .mod (.ix (.v 1) (.bin .add (.k (.int 1)) (.v 23))) (.k (.int 3))))) = .ok (.nxt, ev0 s (.list (intsD sd)) (some (.r 0)) none none none none none none none, [.lst true (intsD (keysOf sd 0))]) :=
    s_asgC (x_keys (n := n + 93) hs rfl 0 (by decide) fun d => ⟨rfl, rfl, rfl⟩)
  have s3 : (E (n + 99)).s (ev0 s (.list (intsD sd)) (some (.r 0)) none none none none none none none) [.lst true (intsD (keysOf sd 0))] (.asgC 4 (.comp 23 [23] false (.bi .range [(.bin .mod (.ix (.v 1) (.k (.int 5))) (.k (.int 5)))]) [] (.bin .mod (.ix (.v 1) (.bin .add (.k (.int 6)) (.v 23))) (.k (.int 3))))) = .ok (.nxt, ev0 s (.list (intsD sd)) (some (.r 0)) (some (.r 1)) none none none none none none, [.lst true (intsD (keysOf sd 0)), .lst true (intsD (keysOf sd 5))]) :=
    s_asgC (x_keys (n := n + 93) hs rfl 5 (by decide) fun d => ⟨rfl, rfl, rfl⟩)
  have hl := keys_len sd 0
  have hr := keys_len sd 5
  have hk := keys_lt sd 0
  have hk' := keys_lt sd 5
  generalize keysOf sd 0 = lk at *
  generalize keysOf sd 5 = rk at *
  have s4 : ∀ μ, (E (n + 99)).s (ev0 s (.list (intsD sd)) (some (.r 0)) (some (.r 1)) none none none none none none) μ (.asg 5 (.cmp .eq (.bin .mod (.ix (.v 1) (.k (.int 10))) (.k (.int 2))) (.k (.int 1)))) = .ok (.nxt, ev0 s (.list (intsD sd)) (some (.r 0)) (some (.r 1)) (some (.c (.bool sp))) none none none none none, μ) := fun μ =>
    s_asg (x_cmp (x_sdmod (n := n + 94) hs rfl 10 (by decide) (b := 2) (by decide) (by decide)) x_k (congrArg some hsp))
  have s5 : ∀ μ, (E (n + 99)).s (ev0 s (.list (intsD sd)) (some (.r 0)) (some (.r 1)) (some (.c (.bool sp))) none none none none none) μ (.asg 6 (.cmp .eq (.bin .mod (.ix (.v 1) (.k (.int 11))) (.k (.int 2))) (.k (.int 1)))) = .ok (.nxt, ev0 s (.list (intsD sd)) (some (.r 0)) (some (.r 1)) (some (.c (.bool sp))) (some (.c (.bool one))) none none none none, μ) := fun μ =>
    s_asg (x_cmp (x_sdmod (n := n + 94) hs rfl 11 (by decide) (b := 2) (by decide) (by decide)) x_k (congrArg some hone))
  have s6 : (E (n + 99)).s (ev0 s (.list (intsD sd)) (some (.r 0)) (some (.r 1)) (some (.c (.bool sp))) (some (.c (.bool one))) none none none none) [.lst true (intsD lk), .lst true (intsD rk)] (.asgC 7 (.comp 23 [23] false (.bi .range [(.bi .len [(.v 3)])]) [] (.bin .add (.k (.int 10)) (.v 23)))) = .ok (.nxt, ev0 s (.list (intsD sd)) (some (.r 0)) (some (.r 1)) (some (.c (.bool sp))) (some (.c (.bool one))) (some (.r 2)) none none none, [.lst true (intsD lk), .lst true (intsD rk), .lst true (intsD (more 10 lk.length))]) :=
    s_asgC (x_more (n := n + 93) (j := 0) hl rfl (.inl rfl) fun d => ⟨rfl, rfl⟩)
  have s7 : (E (n + 99)).s (ev0 s (.list (intsD sd)) (some (.r 0)) (some (.r 1)) (some (.c (.bool sp))) (some (.c (.bool one))) (some (.r 2)) none none none) [.lst true (intsD lk), .lst true (intsD rk), .lst true (intsD (more 10 lk.length))] (.asgC 8 (.comp 23 [23] false (.bi .range [(.bi .len [(.v 4)])]) [] (.bin .add (.k (.int 20)) (.v 23)))) = .ok (.nxt, ev0 s (.list (intsD sd)) (some (.r 0)) (some (.r 1)) (some (.c (.bool sp))) (some (.c (.bool one))) (some (.r 2)) (some (.r 3)) none none, mu4 lk rk) :=
    s_asgC (x_more (n := n + 93) (j := 1) hr rfl (.inl rfl) fun d => ⟨rfl, rfl⟩)
  have hm : ∀ (b : Nat) (l : List Nat), l.length ≤ 4 → (intsD (more b l.length)).length ≤ 1000 := fun b l h => by rw [ints_len, more_len]; lia
  have s8 : (E (n + 99)).s (ev0 s (.list (intsD sd)) (some (.r 0)) (some (.r 1)) (some (.c (.bool sp))) (some (.c (.bool one))) (some (.r 2)) (some (.r 3)) none none) (mu4 lk rk) (.asg 9 (.fn 938 [(.v 3), (.v 7), (.list [(.k (.str [97])), (.k (.str [118]))]), (.v 5)])) = .ok (.nxt, ev0 s (.list (intsD sd)) (some (.r 0)) (some (.r 1)) (some (.c (.bool sp))) (some (.c (.bool one))) (some (.r 2)) (some (.r 3)) (some (.c (frK sp lk 10 nA nV))) none, mu5 lk rk) :=
    s_asg (x_fn (μ₁ := mu4 lk rk ++ [.lst true (strsD [nA, nV])]) (vs := [.r 0, .r 2, .r 4, .c (.bool sp)]) (l_cons (x_v rfl) (l_cons (x_v rfl) (l_cons (x_list (l_cons x_k (l_cons x_k l_nil)) rfl rfl) (l_cons (x_v rfl) l_nil)))) rfl (c_frame (n + 55) nA nV sp hl hk (hm 10 lk hl)))
  have s9 : (E (n + 99)).s (ev0 s (.list (intsD sd)) (some (.r 0)) (some (.r 1)) (some (.c (.bool sp))) (some (.c (.bool one))) (some (.r 2)) (some (.r 3)) (some (.c (frK sp lk 10 nA nV))) none) (mu5 lk rk) (.asg 10 (.fn 938 [(.v 4), (.v 8), (.list [(.k (.str [98])), (.ite (.v 6) (.k (.str [97])) (.k (.str [119])))]), (.v 5)])) = .ok (.nxt, ev0 s (.list (intsD sd)) (some (.r 0)) (some (.r 1)) (some (.c (.bool sp))) (some (.c (.bool one))) (some (.r 2)) (some (.r 3)) (some (.c (frK sp lk 10 nA nV))) (some (.c (frK sp rk 20 nB (yN one)))), mu6 lk rk (yN one)) :=
    s_asg (x_fn (μ₁ := mu5 lk rk ++ [.lst true (strsD [nB, yN one])]) (vs := [.r 1, .r 3, .r 5, .c (.bool sp)]) (l_cons (x_v rfl) (l_cons (x_v rfl) (l_cons (l_names (n + 94) rfl) (l_cons (x_v rfl) l_nil)))) rfl (c_frame (n + 55) nB (yN one) sp hr hk' (hm 20 rk hr)))
  obtain ⟨a, b, c, μ', e2, H, h6⟩ := due_all (n + 82) s (.list (intsD sd)) (frK sp lk 10 nA nV) (frK sp rk 20 nB (yN one)) sp one hl hr hk (μ := mu6 lk rk (yN one) ++ [.lst true []]) ⟨.inr rfl, .inr rfl, .inr rfl, .inr rfl⟩ rfl
  exact ⟨lk, rk, .list (intsD sd), sp, one, a, b, c, μ', ⟨hl, hr, hk, hk'⟩, H, h6, ss_cons (s_asg (x_fn (l_cons (x_v rfl) l_nil) rfl e1)) (next_n (ss_cons s2 (next_n (ss_cons s3 (next_n (ss_cons (s4 _) (next_n (ss_cons (s5 _) (next_n (ss_cons s6 (next_n (ss_cons s7 (next_n (ss_cons s8 (next_n (ss_cons s9 (next_n (ss_cons (s_asg (x_list l_nil rfl rfl)) (next_n (ss_cons (by exact e2) (next_n ss_nil)))))))))))))))))))))⟩
theorem law_runs (n : Nat) {ns : List Int} (h : ns.length ≤ 63) : ∃ μ', (E (n + 100)).call 955 [.c (.arr (ns.map .int))] [] = .ok (.c (.bool true), μ') := by
  obtain ⟨lk, rk, sd, sp, one, a, b, c, μ', ⟨hl, hr, hk, hk'⟩, H, h6, e1⟩ := law_head n h
  obtain ⟨ρ'', μ'', e2⟩ := law_tail n (.arr (ns.map .int)) sd (one := one) hl hr hk hk' a b c H.h0.ow H.h1.ow H.h2.ow H.h3.ow (.inl ⟨_, h6, rfl⟩) μ' Le.rfl'
  exact ⟨μ'', call_of tab955 rfl (ss_app (a := fd955.body.take 11) (b := lawT) e1 e2)⟩
theorem law_walk : LawWalk := lawWalk fun ns h => law_runs 200 h
theorem done : PySem.Challenge.rw_pq1425_01.Holds := head law_walk
end
end
end Mine
theorem PySem.Challenge.cw_pq1425_01_holds : PySem.Challenge.rw_pq1425_01.Holds :=
  Mine.done
